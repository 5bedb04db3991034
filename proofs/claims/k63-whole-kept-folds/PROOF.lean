import PyProof.Rows.All
import Wide.All
import OpenK.AllK
import Wide.FinOn
import HandS.ForMost
import HandS.More
import HandS.SortInts
import HandS.Set
import HandS.SetFor
import HandS.Strs
import HandS.Nested
import HandS.CallLocal
import HandS.OwnEq
import HandS.DictTup
import HandS.Walk
import HandS.Zip
import KE.GoesEnum
import KE.KDictWalk
import HandS.SortKw
import KE.KMinKey
import KE.GoesEnumKw
import PyProof.Rows.CallKwBuiltin
import PyProof.Rows.CallKw2
import HandS.Defaults
import KE.KIndexOf
import PyProof.DictUpdate
import HandS.Wide
import HandS.WideBits
import HandS.MakeKw
import HandS.MakeKwOnly
import HandS.Finally
import HandS.Codes
import HandS.SetKeys
import HandS.DictComp
import HandS.DictEq
import HandS.TupAny
import HandS.Flow
import HandS.IsInst
import KE.KStateDown
import KE.KNestM
import HandS.Head0
import HandS.Head1
import HandS.Head2
import HandS.HeadEnd
import HandS.HeadHook1
import HandS.HeadHook2
import HandS.HeadHook3
import HandS.HeadHook4
import HandS.HeadWalk
import Lean
import PySem.Challenge.RW_timegranary_k63_whole_kept_folds
set_option Elab.async false
set_option linter.all false
/-! TgSort -/
set_option Elab.async false
set_option linter.all false
set_option maxRecDepth 100000
set_option maxHeartbeats 4000000
/-! sorted(d) of a dict with int keys, sorted(set(xs)) of a list of ints: any length -/
namespace L2
open PySem PySem.Spec PyProof.Rows
section
variable {X : Cx}
/-- sorted(d), the keys ints, any number of them -/
def rSortedDA : List V → Hp → VK → Prop := fun xs H Q => ∃ (a : Addr) (kvs : List (Key × V)) (ks : List Int), xs = [.ref a] ∧ Rd H a (.dK kvs) ∧ kvs.map (·.1) = ks.map Sum.inl ∧
    ∀ (ys : List Int) (p : Addr), ys.Perm ks → ys.Pairwise (· ≤ ·) → H p = none → Q (.ref p) (upd H p (.lst (ys.map V.int)))
theorem call_sortedDA (hcalm : X.calm = true) : CallR X (.builtin "sorted") rSortedDA := by
  intro pins s σ H xs us Q I r q
  obtain ⟨a, kvs, ks, ex, hd, hks, q⟩ := q
  subst ex
  obtain ⟨u, eu, rx⟩ := vals1 r
  subst eu
  cases rx
  obtain ⟨z, lo, vs, rel, dd⟩ := dk_rd I.hok hd
  obtain ⟨ep, hat⟩ := dd.dictAt
  have hkeys : vs.map (·.1) = ks.map Sum.inl := rel.keys.symm.trans hks
  have hl : vs.length = ks.length := by
    have e := congrArg List.length hkeys
    rw [List.length_map, List.length_map] at e
    exact e
  have h16 : vs.length ≤ sizeLine := by rw [← rel.length]; exact z
  refine Calls.call_function_entry PyProof.Rows.kind_sorted PyProof.Rows.plain_sorted PyProof.Rows.entry_sorted (PyProof.Rows.args_sorted1 _) ?_
  unfold Builtin.«sorted»
  refine wpAny_bind (m := checkCount "sorted" 1 1 _) (wpAny_pure ?_)
  refine wpAny_bind (PySem.W.kdu_collect (A := X.A.in1) (PySem.W.kdl_dict (knd := mixKind X.prog X.w) (kvs := vs) (ep := ep) lo) (I.ok.hd hcalm) hat h16 fun h' tk acc hk hacc => ?_)
  have hal : acc.toList.length = ks.length := by rw [Array.length_toList, hacc.1, hl]
  have hS : IntsAre acc.toList ks := ints_each hal fun j v e => by
    obtain ⟨k, x, e1, e2⟩ := hacc.2 j v (by rw [← Array.getElem?_toList]; exact e)
    have e3 : (vs.map (·.1))[j]? = some k := by rw [List.getElem?_map, e1]; rfl
    rw [hkeys, List.getElem?_map] at e3
    cases e4 : ks[j]? with
    | none => rw [e4] at e3; cases e3
    | some y =>
      rw [e4] at e3
      have e5 : Sum.inl y = k := Option.some.inj e3
      subst e5
      rcases keyIs_shape (show keyIs (Sum.inl y) v = true from e2) with ⟨i, t, ek, ev⟩ | ⟨z, t, ek, ev⟩
      · cases ek
        exact ⟨y, t, rfl, ev⟩
      · cases ek
  have I1 : Inv X pins σ H { s with heap := h', toks := tk } := I.kept hk
  refine wpAny_bind (wpAny_newList ?_ (by rw [hal, ← hl]; exact h16))
  have hoL : (h'.push (seqObj "list" acc.toList.toArray 0)).get? h'.objs.size = some (seqObj "list" acc.toList.toArray 0) := Heap.get?_push_size _ rfl
  show wpAny _ _ _ _ _ { s with heap := h'.push (seqObj "list" acc.toList.toArray 0), toks := tk }
  refine wpAny_bind (wpAny_holding (wpAny_call_entry PyProof.Rows.slot_list_sort ⟨_, hoL, rfl⟩ PyProof.Rows.entry_list_sort
    (SrtO.list_sort_ord (s := { s with heap := h'.push (seqObj "list" acc.toList.toArray 0), toks := tk }) SrtO.swo_int hoL (by rw [hal, ← hl]; exact h16) (fun h2 => SrtO.ints_sortable hS h2) fun out h1 h2 => ⟨_, rfl, ?_⟩) (PyProof.Rows.args_list_sort _)))
  obtain ⟨g1, g2, g3⟩ := SrtO.ints_out hS h1 h2
  obtain ⟨e', he'⟩ := PyProof.Rows.sortedHeap_at (vs := acc.toList) (out := out.toArray) hoL
  have hlen : ((out.map SrtO.iv).map V.int).length ≤ sizeLine := by
    rw [List.length_map, g2.length_eq, ← hl]
    exact h16
  refine wpAny_pure ⟨_, rfl, .ref h'.objs.size, upd H h'.objs.size (.lst ((out.map SrtO.iv).map V.int)), I1.laid (t' := tk) (fun b u e => ?_) (Nat.le_refl _)
    (show ObjOk X.prog X.w _ _ _ (.lst ((out.map SrtO.iv).map V.int)) from ⟨hlen, out, e', vals_of_ints g1, he'⟩), rfl, q _ _ g2 g3 (I1.hok.fresh (Nat.le_refl _))⟩
  have hb : b < h'.objs.size := Heap.lt_size e
  rw [PyProof.Rows.sortedHeap_old (Nat.ne_of_lt hb) (by rw [size_push']; exact Nat.lt_succ_of_lt hb)]
  exact Heap.get?_push_of_some _ e
end
section
variable {P : Program} {w : World} {A : Around} {E : Value → Shared → Prop} {s : Shared} {a : Addr}
/-- sorted of a set of ints, any number of them -/
theorem sorted_setA {S : Int → Bool} {n : Nat} {Q : Value → Shared → Prop} (R : SetR w s.heap a S n) (hh : A.handled = none)
    (hQ : ∀ s' p (out : Array Value) (c : Nat) (ns : List Int), (∀ b o, s.heap.get? b = some o → s'.heap.get? b = some o) → s'.gens = s.gens → s'.os = s.os → s.heap.objs.size ≤ p →
      s'.heap.get? p = some (seqObj "list" out c) → IntsAre out.toList ns → ns.Pairwise (· < ·) → (∀ k, k ∈ ns ↔ S k = true) → ns.length = n → n ≤ sizeLine → Q (.ref p) s') :
    wpAny (model P w) A (call (.builtin "sorted") [.ref a]) Q E s := by
  obtain ⟨o, es, ep, t, ho, hex, hd, g, nd, hm, hb, hf, hn, hr, hl⟩ := R
  refine Calls.call_function_entry kind_sorted plain_sorted entry_sorted (args_sorted1 _) ?_
  unfold Builtin.«sorted»
  refine wpAny_bind (m := checkCount "sorted" 1 1 _) (wpAny_pure ?_)
  refine wpAny_bind (collect_set (A := A.in1) hh ⟨o, ho, hex.1, hd⟩ hf hb hr hl fun s1 vs k1 hz g1 o1 pm => ?_)
  have hvl : vs.length = n := by rw [pm.length_eq, List.length_map, Array.length_toList]; exact hn
  have hnz : n ≤ sizeLine := by
    have h4 : n < 4096 := by rw [← hn]; exact hb
    rw [sizeLine_eq]; omega
  have hI : IntsAre vs (vs.map Builtin.Re.reRawOf) := ints_of vs fun v hv => by
    obtain ⟨e, he, q⟩ := List.mem_map.mp (pm.mem_iff.mp hv)
    obtain ⟨k, tk, h1, _⟩ := g e he
    exact ⟨k, tk, by rw [← q]; exact h1⟩
  have pk : (vs.map Builtin.Re.reRawOf).Perm (es.toList.map keyOf) := by
    have q := pm.map Builtin.Re.reRawOf
    rw [List.map_map] at q
    exact q
  refine wpAny_bind (wpAny_newList ?_ (by rw [hvl]; exact hnz))
  have hoL : (s1.heap.push (seqObj "list" vs.toArray 0)).get? s1.heap.objs.size = some (seqObj "list" vs.toArray 0) := Heap.get?_push_size _ rfl
  refine wpAny_bind (wpAny_holding (wpAny_call_entry slot_list_sort ⟨_, hoL, rfl⟩ entry_list_sort (SrtO.list_sort_ord SrtO.swo_int hoL (by rw [hvl]; exact hnz) (fun h2 => SrtO.ints_sortable hI h2) fun out h1 h2 => ⟨_, rfl, ?_⟩) (args_list_sort _)))
  obtain ⟨a1, a2, a3⟩ := SrtO.ints_out hI h1 h2
  obtain ⟨c, hc⟩ := sortedHeap_at (vs := vs) (out := out.toArray) hoL
  have pn : (out.map SrtO.iv).Perm (es.toList.map keyOf) := a2.trans pk
  refine wpAny_pure ⟨_, rfl, hQ _ s1.heap.objs.size out.toArray c (out.map SrtO.iv) (fun b u e => ?_) g1 o1 hz hc (by simpa using a1) (lt_of_le_nodup _ a3 (pn.nodup_iff.mpr nd)) (fun k => by rw [pn.mem_iff, ← hm k]) ?_ hnz⟩
  · have q := k1 b u e
    have hlt := Heap.lt_size q
    show (sortedHeap (s1.heap.push (seqObj "list" vs.toArray 0)) s1.heap.objs.size vs out.toArray).get? b = some u
    rw [sortedHeap_old (Nat.ne_of_lt hlt) (by rw [size_push']; exact Nat.lt_succ_of_lt hlt)]
    exact Heap.get?_push_of_some _ q
  · rw [pn.length_eq, List.length_map, Array.length_toList]; exact hn

set_option maxRecDepth 100000 in
set_option maxHeartbeats 3200000 in
theorem call_set_listI {l : Addr} {items : Array Value} (ns : List Int) {Q : Value → Shared → Prop} (hh : A.handled = none) (hl : s.heap.IsList l items) (hit : IntsAre items.toList ns) (hb : ns.length + 1 < scanBound)
    (h : ∀ (h' : Heap) (tk c : Nat), SetR w h' s.heap.objs.size (fun j => decide (j ∈ ns)) c → c ≤ ns.length → (∀ b o, s.heap.get? b = some o → h'.get? b = some o) → Q (.ref s.heap.objs.size) { s with heap := h', toks := tk }) :
    wpAny (model P w) A (call (.type "set") [.ref l]) Q E s := by
  have hisz : items.size = ns.length := by
    have q := IntsAre.length hit
    rw [Array.length_toList] at q
    exact q
  obtain ⟨c, tl, hmro⟩ := F.called_set.mro
  have hmade := F.called_set.made
  have hsub := F.called_set.sub
  refine wpAny_call (codeAny_of_tree ?_)
  show wpAny _ _ (callAny (.type "set") _) _ _ _
  refine wpAny_pure ⟨Code.quiet_builtin _ (by decide +kernel), codeAny_builtin F.entry_type_call ?_⟩
  rw [Around.under_plain (weight_type_call_type "set" [.ref l] []) rfl]
  have h1 := F.called_set.notType
  have h2 := F.called_set.canCreate
  have hct := F.typeCall_set_1 (.ref l)
  repeat (any_goals (first | assumption | wp_step))
  refine codeAny_mono (code_set_led1 (.ref l) (E := E) (Q₁ := fun obj s₁ => obj = .ref s.heap.objs.size ∧ s₁ = { s with heap := s.heap.push { cls := .type "set", dict := none, data := .set #[] 0 (.fresh 0 0 (!w.params.followText "set-order")) } }) ⟨rfl, rfl⟩) fun r s₁ hr => ?_
  cases r with
  | error e => exact hr
  | ok fl =>
    cases fl with
    | ret obj =>
      obtain ⟨rfl, rfl⟩ := hr
      have hS : (s.heap.push { cls := .type "set", dict := none, data := .set #[] 0 (.fresh 0 0 (!w.params.followText "set-order")) }).get? s.heap.objs.size = some { cls := .type "set", dict := none, data := .set #[] 0 (.fresh 0 0 (!w.params.followText "set-order")) } := Heap.get?_push_size _ rfl
      have hT : Shared.TypeIs { s with heap := s.heap.push { cls := .type "set", dict := none, data := .set #[] 0 (.fresh 0 0 (!w.params.followText "set-order")) } } (.ref s.heap.objs.size) "set" := ⟨_, hS, rfl⟩
      have hli := F.called_set.init.lookup
      have hbi := F.called_set.init.bind (.ref s.heap.objs.size)
      repeat (any_goals (first | assumption | wp_step))
      refine codeAny_mono (codeAny_call_builtin (R := wants (fun r s₂ => r = .none ∧ ∃ h' tk c, s₂ = { s with heap := h', toks := tk } ∧ SetR w h' s.heap.objs.size (fun j => decide (j ∈ ns)) c ∧ c ≤ ns.length ∧
          (∀ b o, s.heap.get? b = some o → h'.get? b = some o)) E) F.called_set.init.plain F.entry_set_init (check_set_init_1 hT ?_)) fun r₂ s₂ hr₂ => ?_
      · obtain ⟨ol, hol, hcl, nl, hdl⟩ := hl
        obtain ⟨ocls, odict, odata, oslots⟩ := ol
        simp only at hcl hdl
        subst hcl; subst hdl
        have hol' : (s.heap.push { cls := .type "set", dict := none, data := .set #[] 0 (.fresh 0 0 (!w.params.followText "set-order")) }).get? l = some { cls := .type "list", dict := odict, data := .seq items nl, slots := oslots } := Heap.get?_push_of_some _ hol
        have hsls := F.sub_list_set
        have hslf := F.sub_list_frozenset
        have hne : (Value.type "list" == Value.type "dict") = false := by decide
        have hl1 : (s.heap.push { cls := .type "set", dict := none, data := .set #[] 0 (.fresh 0 0 (!w.params.followText "set-order")) }).IsList l items := ⟨_, hol', rfl, nl, rfl⟩
        unfold Builtin.«set.__init__» noKeywords Builtin.Frozenset.updateFrom
        generalize hPI : pyIter = PI
        wp_walk
        subst hPI
        refine wpAny_pyIter_list hl1 ?_
        refine wpAny_bind (wpAny_runValue ?_)
        have hlS : l < s.heap.objs.size := Heap.lt_size hol
        have hh3 : A.in1.in1.in1.handled = none := by simp [hh]
        have hz1 : (s.heap.push { cls := .type "set", dict := none, data := .set #[] 0 (.fresh 0 0 (!w.params.followText "set-order")) }).objs.size = s.heap.objs.size + 1 := Heap.size_push ..
        have hneI : l ≠ (s.heap.push { cls := .type "set", dict := none, data := .set #[] 0 (.fresh 0 0 (!w.params.followText "set-order")) }).objs.size := by
          rw [Heap.size_push]; exact Nat.ne_of_lt (Nat.lt_succ_of_lt hlS)
        have hSf : s.heap.objs.size ∉ [(s.heap.push { cls := .type "set", dict := none, data := .set #[] 0 (.fresh 0 0 (!w.params.followText "set-order")) }).objs.size, l] := by
          rw [Heap.size_push]; simp only [List.mem_cons, List.mem_singleton, List.not_mem_nil, or_false, not_or]
          exact ⟨Nat.ne_of_lt (Nat.lt_succ_self _), Nat.ne_of_gt hlS⟩
        have hval : ∀ (i : Nat) (v : Value), items[i]? = some v → ∃ k t, ns[i]? = some k ∧ v = .int k t := fun i v hv => by
          have hi : i < ns.length := by rw [← hisz]; exact (Array.getElem?_eq_some_iff.mp hv).1
          obtain ⟨t, e⟩ := PyProof.Rows.IntsAre.int_at hit i v (by rw [Array.getElem?_toList]; exact hv)
          refine ⟨ns[i], t, List.getElem?_eq_getElem hi, ?_⟩
          rw [e, List.getD_eq_getElem?_getD, List.getElem?_eq_getElem hi] <;> rfl
        refine set_update_ints ((Walks.list hh3 _ l hneI items).toS) s.heap.objs.size
          hSf ns hisz hb hval (items.size - 0) 0 _ (by omega) (Nat.zero_le _)
          ⟨⟨_, Heap.get?_push_size _ rfl, rfl, rfl⟩, (hl1.push _)⟩ ?hS0 ?hR
        case hS0 =>
          have hget : ((s.heap.push { cls := .type "set", dict := none, data := .set #[] 0 (.fresh 0 0 (!w.params.followText "set-order")) }).push { cls := .type "list_iterator", data := .fields #[.ref l, .int 0 0] }).get? s.heap.objs.size
              = some { cls := .type "set", dict := none, data := .set #[] 0 (.fresh 0 0 (!w.params.followText "set-order")) } := Heap.get?_push_of_some _ hS
          exact ⟨0, Nat.le_refl 0, setR_new_at hget⟩
        case hR =>
          intro s' c' hm hc' hS'
          obtain ⟨h', g2, d', tk', os'⟩ := s'
          have eg : g2 = s.gens := hm.gens
          have ed : d' = s.drawn := hm.drawn
          have eo : os' = s.os := hm.os
          subst eg; subst ed; subst eo
          show wpAny _ _ _ _ _ _
          refine wpAny_pure ?_
          show wpAny _ _ (ret Value.none) _ _ _
          rw [hisz] at hc'
          refine wpAny_pure ⟨rfl, h', tk', c', rfl, hS', hc', fun b o e => ?_⟩
          have hb0 : b < s.heap.objs.size := Heap.lt_size e
          have hb1 : b ≠ s.heap.objs.size := Nat.ne_of_lt hb0
          have hb2 : b ≠ (s.heap.push { cls := .type "set", dict := none, data := .set #[] 0 (.fresh 0 0 (!w.params.followText "set-order")) }).objs.size := by
            rw [Heap.size_push]; exact Nat.ne_of_lt (Nat.lt_succ_of_lt hb0)
          exact hm.heap b o (by simp only [List.mem_cons, List.mem_singleton, List.not_mem_nil, or_false, not_or]; exact ⟨hb1, hb2⟩) (Heap.get?_push_of_some _ (Heap.get?_push_of_some _ e))
      · cases r₂ with
        | error e => exact hr₂
        | ok fl₂ =>
          cases fl₂ with
          | ret r =>
            obtain ⟨rfl, h', tk, c', rfl, hS', hc', hk'⟩ := hr₂
            repeat (any_goals (first | assumption | wp_step))
            exact h _ _ _ hS' hc' hk'
          | _ => exact hr₂.elim
    | _ => exact hr.elim
end
/-- sorted(set(e)), e a list of ints -/
def tSortedSet (K : PySem.W.Frag) (te : TE) : TE := fun σ H Q => te σ H fun x H1 => ∃ (l : Addr) (ns : List Int), x = .ref l ∧ SqL K H1 l (ns.map V.int) ∧ ns.length ≤ 1000 ∧
  ∀ (ys : List Int) (p : Addr), ys.Pairwise (· < ·) → (∀ k, k ∈ ys ↔ k ∈ ns) → H1 p = none → Q (.ref p) (upd H1 p (.lst (ys.map V.int)))
theorem pe_sortedSet {X : Cx} {a : Expr} {ta : TE} {p p2 q pos : Pos} (hc : X.calm = true) (hg : Gl X "sorted") (hm : X.mg "sorted" = none) (hg2 : Gl X "set") (hm2 : X.mg "set" = none) (ha : PE X a ta)
    (na : starEach [a] X.env = (false, eval a X.env) :: starEach [] X.env := by rfl) : PE X (.Call (.Name "sorted" p) [.Call (.Name "set" p2) [a] [] q] [] pos) (tSortedSet X.K ta) := by
  refine ⟨fun pins s σ H Q I h => ?_⟩
  refine Call_ (ld_blt I hg hm boot_sorted ?_)
  refine PyProof.Rows.callWith_builtin1 (PyProof.Rows.args_cons ?_ rfl) rfl rfl
  refine Call_ (ld_blt I hg2 hm2 PyProof.Rows.boot_set ?_)
  refine PyProof.Rows.callWith_type1 (PyProof.Rows.args_cons (thn (ha.run pins s σ H _ I h) fun v s1 ⟨x, H1, I1, r1, q1⟩ => PyProof.Rows.args_nil ?_) na) na rfl
  obtain ⟨l, ns, rfl, hq, h1, q1⟩ := q1
  cases r1
  obtain ⟨its, rv, pl, hz⟩ := I1.list hq
  have hi : IntsAre its.toArray.toList ns := ints_of_vals rv
  have hd := I1.ok.hd hc
  refine call_set_listI ns hd pl.isList hi (by unfold scanBound; omega) fun h' tk c R1 hcn k => ?_
  refine PyProof.Rows.args_nil ?_
  refine sorted_setA (s := { s1 with heap := h', toks := tk }) R1 hd fun s' p out c2 ys k2 g2 o2 hp hget hI hs hmem hl hnz => ?_
  have hp1 : s1.heap.objs.size ≤ p := by
    obtain ⟨o, _, _, _, ho, _⟩ := R1
    exact Nat.le_trans (Nat.le_of_lt (Heap.lt_size ho)) hp
  have hn : H1 p = none := I1.hok.fresh hp1
  have hlen : (ys.map V.int).length ≤ sizeLine := by rw [List.length_map, hl]; exact hnz
  have kall : ∀ b o, s1.heap.get? b = some o → s'.heap.get? b = some o := fun b o e => k2 b o (k b o e)
  have J : Inv X pins σ (upd H1 p (.lst (ys.map V.int))) s' :=
    I1.call' (ch := []) o2 (Un.laid kall hp1 hn) (I1.hok.laid kall hp1 ⟨hlen, out.toList, c2, vals_of_ints hI, hget⟩) (by rw [g2]; exact I1.bare) (fun _ z => nomatch z)
  exact ⟨.ref p, _, J, rfl, q1 ys p hs (fun j => by rw [hmem j, decide_eq_true_eq]) hn⟩
end L2
/-! TgLam -/
set_option Elab.async false
set_option linter.all false
set_option maxRecDepth 100000
set_option maxHeartbeats 4000000
/-! lambdas as values: made (tracked), handed on, called, with at most one captured name -/
namespace TgL
open PySem PySem.Spec PyProof.Rows L2 LamX NdefX
/-- a lambda: its parameters, body, scope, its qualified name, its captured cells, its code object -/
structure LF where
  params : Arguments
  body : Expr
  scope : Scope
  qual : Str
  cl : List (Str × Addr)
  c : Addr
def LamO (f : Addr) (L : LF) : HO := .ext fun h => ∃ pm ctv : Value, h.get? f = some (PySem.W.kla_obj "<lambda>" L.qual L.params L.body L.scope L.cl pm L.c ctv)
/-- a cell that holds v, known (while its owner's frame is not the one that runs) -/
def CelO (c : Addr) (v : V) : HO := .ext fun h => ∃ u, RelV v u ∧ h.IsCell c (some u)
theorem lamO_tbl {f : Addr} {L : LF} (ps : Array Value) : LamO f L ≠ .tbl ps := fun z => by
  unfold LamO at z
  cases z
theorem celO_tbl {f : Addr} {v : V} (ps : Array Value) : CelO f v ≠ .tbl ps := fun z => by
  unfold CelO at z
  cases z
section
variable {X : Cx} {pins : List (Addr × Obj)} {σ : L2.St} {H : Hp} {s : Shared}
theorem inv_lam {L : LF} {o : Obj} {t' : Nat} {pm ctv : Value} (I : Inv X pins σ H s) (ho : o = PySem.W.kla_obj "<lambda>" L.qual L.params L.body L.scope L.cl pm L.c ctv) :
    Inv X pins σ (upd H s.heap.objs.size (LamO s.heap.objs.size L)) { s with heap := s.heap.push o, toks := t' } := by
  subst ho
  refine I.laid (a := s.heap.objs.size) (fun b u e => Heap.get?_push_of_some _ e) (Nat.le_refl _) ?_
  have e : (s.heap.push (PySem.W.kla_obj "<lambda>" L.qual L.params L.body L.scope L.cl pm L.c ctv)).get? s.heap.objs.size = some (PySem.W.kla_obj "<lambda>" L.qual L.params L.body L.scope L.cl pm L.c ctv) := Heap.get?_push_size _ rfl
  exact ⟨⟨pm, ctv, e⟩, ⟨_, e⟩, fun h1 h2 ⟨p, t, z⟩ st => ⟨p, t, st _ z⟩⟩
/-- the lambda is made and known from then on -/
theorem lamn_make {T : List (Addr × Str)} {c P : Addr} {params : Arguments} {body : Expr} {scope : Scope} {pos : Pos} {E : Value → Shared → Prop} {Q : Value → Shared → Prop} (I : Inv X pins σ H s) (TB : TabB X.base X.mg c P) (hcode : X.env.code = .ref c)
    (hm : (P, X.env.qual ++ "<lambda>") ∈ T) (hu : ∀ p ∈ T, p.1 = P → p.2 = X.env.qual ++ "<lambda>") (hT : Tabs T H) (hdef : defaultsOf params X.env = ([], [])) (hfree : ∀ y ∈ scope.names, y.2 = .free → ∃ c, X.env.cells.lookup y.1 = some c)
    (h : ∀ (f c' : Addr) (H1 : Hp) (s' : Shared), Inv X pins σ H1 s' → ExtN H H1 → (∀ b, H1 b = Option.none → H b = Option.none) → Tabs T H1 → H f = none →
      H1 f = some (LamO f ⟨params, body, scope, X.env.qual ++ "<lambda>", cloFrom X.env.cells scope.names [], c'⟩) → H1 c' = some (CodeO c' (X.env.qual ++ "<lambda>")) → Q (.ref f) s') :
    wpAny (model X.prog X.w) X.A (eval (.Lambda params body scope pos) X.env) Q E s := by
  obtain ⟨ps, hP, ht, ha⟩ := hT _ hm
  refine PySem.W.kla_eval hdef ?_
  have bP : s.heap.BuiltinsAt X.mg P := TB.bm.keeps I.bk
  have hP' : s.heap.get? P = some { cls := .none, data := .fields ps } := I.hok P _ hP
  cases hc : codeAmong pos ps.toList with
  | none =>
    refine PySem.W.kla_makeFunction (mg := X.mg) (c := c) (P := P) (ps := ps) (closure_ok hfree) I.ok.glob (I.mod.glob.keeps I.bk) hcode (TB.code.keeps I.bk) hP' ht hc TB.gP bP fun c' ctv h' tk hx hge hlt hrec htb => ?_
    obtain ⟨c2, oc, vs, t, e2, hoc, hd, hv⟩ := hrec
    cases e2
    have nC : H c' = none := I.hok.fresh hge
    have I1 := inv_table (t' := tk) (more := #[rawInt pos.line, rawInt pos.col, .ref c']) (h' := h') I hP (fun b o hb e => hx b o hb e) htb hge ⟨oc, vs, t, hoc, hd, hv⟩
    have hE : ExtN H (upd (upd H P (.tbl (ps ++ #[rawInt pos.line, rawInt pos.col, .ref c']))) c' (CodeO c' (X.env.qual ++ "<lambda>"))) := fun b o e n => by
      rw [upd_ne (ne_of_none e nC), upd_ne (fun z => n ps (Option.some.inj (e.symm.trans (by rw [z]; exact hP))))]
      exact e
    have eL : (ps ++ #[rawInt pos.line, rawInt pos.col, .ref c']).toList = ps.toList ++ [rawInt pos.line, rawInt pos.col, .ref c'] := by simp
    have T1 : Tabs T (upd (upd H P (.tbl (ps ++ #[rawInt pos.line, rawInt pos.col, .ref c']))) c' (CodeO c' (X.env.qual ++ "<lambda>"))) := fun p hp => by
      by_cases hb : p.1 = P
      · rw [hu p hp hb, hb]
        refine ⟨_, by rw [upd_ne (ne_of_none hP nC), upd_same], by rw [eL]; exact PySem.TriplesOk_snoc _ _ _ _ ht, fun p' cv hcv => ?_⟩
        rw [eL] at hcv
        rcases among_app _ ht hcv with z | z
        · obtain ⟨c0, e1, e2⟩ := ha p' cv z
          exact ⟨c0, e1, hE _ _ e2 codeO_ne⟩
        · exact ⟨c', z, upd_same⟩
      · obtain ⟨ps', a1, a2, a3⟩ := hT p hp
        refine ⟨ps', by rw [upd_ne (ne_of_none a1 nC), upd_ne hb]; exact a1, a2, fun p' cv hcv => ?_⟩
        obtain ⟨c0, e1, e2⟩ := a3 p' cv hcv
        exact ⟨c0, e1, hE _ _ e2 codeO_ne⟩
    have nF := I1.hok.fresh (Nat.le_refl _)
    have I2 := inv_lam (L := ⟨params, body, scope, X.env.qual ++ "<lambda>", cloFrom X.env.cells scope.names [], c'⟩) (t' := tk) (pm := (X.mg "__name__").getD .none) (ctv := ctv) I1 rfl
    refine h h'.objs.size c' _ _ I2 (fun b o e n => ?_) (fun b e => upd_none (upd_none (upd_none e))) (T1.ext fun b o e => ?_) (I.hok.fresh (Nat.le_trans hge (Nat.le_of_lt hlt))) upd_same ?_
    · have e1 := hE b o e n
      exact (upd_ne (ne_of_none e1 nF)).trans e1
    · exact (upd_ne (ne_of_none e nF)).trans e
    · exact (upd_ne (Nat.ne_of_lt hlt)).trans upd_same
  | some cv =>
    obtain ⟨c', e, hco⟩ := ha pos cv hc
    subst e
    refine PySem.W.kla_makeFunctionHit (mg := X.mg) (c := c) (P := P) (ps := ps) (closure_ok hfree) I.ok.glob (I.mod.glob.keeps I.bk) hcode (TB.code.keeps I.bk) hP' ht hc bP fun ctv h' tk hx hsz => ?_
    have I1 : Inv X pins σ H { s with heap := h', toks := tk } := I.kept hx
    have nF : H h'.objs.size = none := I1.hok.fresh (Nat.le_refl _)
    have I2 := inv_lam (L := ⟨params, body, scope, X.env.qual ++ "<lambda>", cloFrom X.env.cells scope.names [], c'⟩) (t' := tk) (pm := (X.mg "__name__").getD .none) (ctv := ctv) I1 rfl
    refine h h'.objs.size c' _ _ I2 (fun b o e n => ?_) (fun b e => upd_none e) (hT.ext fun b o e => ?_) nF upd_same ?_
    · exact (upd_ne (ne_of_none e nF)).trans e
    · exact (upd_ne (ne_of_none e nF)).trans e
    · exact (upd_ne (ne_of_none hco nF)).trans hco
end
/-- the reading of «lambda ..» as a value -/
def tLamV (T : List (Addr × Str)) (mk : Addr → LF) : TE := fun _ H Q => Tabs T H ∧ ∀ (f c' : Addr) (H1 : Hp), ExtN H H1 → (∀ b, H1 b = Option.none → H b = Option.none) → Tabs T H1 → H f = none → H1 f = some (LamO f (mk c')) → H1 c' = some (CodeO c' (mk c').qual) → Q (.ref f) H1
theorem pe_lam {X : Cx} {T : List (Addr × Str)} {c P : Addr} {params : Arguments} {body : Expr} {scope : Scope} {pos : Pos} (TB : TabB X.base X.mg c P) (hcode : X.env.code = .ref c)
    (hm : (P, X.env.qual ++ "<lambda>") ∈ T) (hu : ∀ p ∈ T, p.1 = P → p.2 = X.env.qual ++ "<lambda>") (hfree : ∀ y ∈ scope.names, y.2 = .free → X.env.scope.names.lookup y.1 = some .cell ∨ X.env.scope.names.lookup y.1 = some .free)
    (hdef : defaultsOf params X.env = ([], []) := by rfl) :
    PE X (.Lambda params body scope pos) (tLamV T fun c' => ⟨params, body, scope, X.env.qual ++ "<lambda>", cloFrom X.env.cells scope.names [], c'⟩) := by
  refine ⟨fun pins s σ H Q I h => ?_⟩
  obtain ⟨hT, h⟩ := h
  have hfr : ∀ y ∈ scope.names, y.2 = .free → ∃ c, X.env.cells.lookup y.1 = some c := fun y hy e => (hfree y hy e).elim (fun z => I.ok.has _ (.inl z)) fun z => I.ok.has _ (.inr z)
  exact lamn_make I TB hcode hm hu hT hdef hfr fun f c' H1 s' I1 eN nn T1 f0 f1 c1 => ⟨.ref f, H1, I1, rfl, h f c' H1 eN nn T1 f0 f1 c1⟩

/-! ### its body: the frame -/
/-- its names: parameters (local or captured further in), then the captured ones; no local of its own -/
structure LScope (N ps fr : List Str) (sc : Scope) : Prop where
  kind : sc.kind = .function
  co : sc.isCoroutine = false
  gen : sc.isGenerator = false
  nd : N.Nodup
  len : ps.length + fr.length ≤ N.length
  pre : N.take (ps.length + fr.length) = ps ++ fr
  par : ∀ x ∈ ps, sc.names.lookup x = some .local ∨ sc.names.lookup x = some .cell
  free : ∀ y ∈ sc.names, y.2 = .free → y.1 ∈ fr
  frk : ∀ x ∈ fr, sc.names.lookup x = some .free
  uniq : ∀ y ∈ sc.names, sc.names.lookup y.1 = some y.2
def lscB (N ps fr : List Str) (sc : Scope) : Bool :=
  decide (sc.kind = .function) && !sc.isCoroutine && !sc.isGenerator && decide N.Nodup && decide (ps.length + fr.length ≤ N.length) && decide (N.take (ps.length + fr.length) = ps ++ fr) &&
    ps.all (fun x => decide (sc.names.lookup x = some .local) || decide (sc.names.lookup x = some .cell)) && sc.names.all (fun y => !decide (y.2 = .free) || decide (y.1 ∈ fr)) && fr.all (fun x => decide (sc.names.lookup x = some .free)) && sc.names.all (fun y => decide (sc.names.lookup y.1 = some y.2))
theorem lscope_by {N ps fr : List Str} {sc : Scope} (h : lscB N ps fr sc = true) : LScope N ps fr sc := by
  unfold lscB at h
  simp only [Bool.and_eq_true, Bool.not_eq_true', decide_eq_true_eq, List.all_eq_true, Bool.or_eq_true, decide_eq_false_iff_not] at h
  obtain ⟨⟨⟨⟨⟨⟨⟨⟨⟨h1, h2⟩, h3⟩, h4⟩, h5⟩, h6⟩, h7⟩, h8⟩, h9⟩, h10⟩ := h
  exact ⟨h1, h2, h3, h4, h5, h6, h7, fun y hy e => (h8 y hy).elim (fun z => absurd e z) id, h9, h10⟩
abbrev lCells (L : LF) (n : Nat) : List (Str × Addr) := cellsFrom (n + 1) L.scope.names L.cl
abbrev lEnv (L : LF) (f : Addr) (n : Nat) : Env := newEnv L.scope n mainGlobals (lCells L n) (L.qual ++ ".<locals>.") (some f) (.ref L.c) none builtinsNs
def lcx (P : Program) (w : World) (K : PySem.W.Frag) (mg : Str → Option Value) (base : Heap) (N : List Str) (L : LF) (f : Addr) (A : Around) (outer : List Env) (s : Shared) (H : Hp) : Cx where
  prog := P
  w := w
  K := K
  mg := mg
  base := base
  A := A.deeper (lEnv L f s.heap.objs.size)
  N := N
  s_0 := s
  H_0 := H
  env := lEnv L f s.heap.objs.size
  outer := outer
  stack := lEnv L f s.heap.objs.size :: outer
  ex := []
  calm := true
  fn := fun x => L.scope.names.lookup x == some .cell
  pn := []
  xe := fun _ _ => False
section
variable {P : Program} {w : World} {K : PySem.W.Frag} {mg : Str → Option Value} {base : Heap} {N ps fr : List Str} {L : LF} {f : Addr} {A : Around} {outer : List Env} {s : Shared} {H : Hp} {ws : List (Option V)}
/-- the frame laid, nothing bound yet -/
theorem linv {tk : Nat} (S : LScope N ps fr L.scope) (hd : A.handled = none) (e0 : Env0 P w K mg base A outer s H) (C : CellsAt L.cl fr ws s.heap H) (cm : ∀ y c, (y, c) ∈ L.cl → L.cl.lookup y = some c ∧ y ∈ fr) :
    Inv (lcx P w K mg base N L f A outer s H) [] (ps.map (fun _ => none) ++ (ws ++ List.replicate (N.length - ps.length - fr.length) none)) H
      { s with heap := pushCells (s.heap.push { cls := .type "frame", data := .dict #[] }) L.scope.names, toks := tk } := by
  have kp : ∀ b o, s.heap.get? b = some o → (pushCells (s.heap.push { cls := .type "frame", data := .dict #[] }) L.scope.names).get? b = some o := fun b o e => pushCells_keeps _ _ _ _ (Heap.get?_push_of_some _ e)
  have noA : ∀ b : Addr, b ∉ (lcx P w K mg base N L f A outer s H).ex := fun b z => absurd (show b ∈ ([] : List Addr) from z) (by simp)
  have clen := C.len
  have esz : (s.heap.push { cls := .type "frame", data := .dict #[] }).objs.size = s.heap.objs.size + 1 := Heap.size_push ..
  have hcl : lCells L s.heap.objs.size = cellsFrom (s.heap.push { cls := .type "frame", data := .dict #[] }).objs.size L.scope.names L.cl := by rw [esz]
  have old : ∀ y c, (y, c) ∈ L.cl → c < s.heap.objs.size := fun y c m => by
    obtain ⟨_, v, z⟩ := C.all y c (cm y c m).1
    exact z.lt
  have mem : ∀ {y c}, (lCells L s.heap.objs.size).lookup y = some c → (L.cl.lookup y = some c ∧ y ∈ fr) ∨ ((y, NameKind.cell) ∈ L.scope.names ∧ s.heap.objs.size + 1 ≤ c ∧ CellAt (pushCells (s.heap.push { cls := .type "frame", data := .dict #[] }) L.scope.names) c none) := fun {y c} e => by
    rw [hcl] at e
    rcases cells_mem (PySem.mem_of_lookup e) with hm | ⟨h1, h2, h3⟩
    · exact .inl (cm y c hm)
    · rw [esz] at h2
      exact .inr ⟨h1, h2, h3⟩
  have cap : ∀ {y c}, y ∈ fr → L.cl.lookup y = some c → (lCells L s.heap.objs.size).lookup y = some c := fun {y c} hy e => by
    obtain ⟨c', e'⟩ := mem_lookup (cells_acc (names := L.scope.names) (n := s.heap.objs.size + 1) (PySem.mem_of_lookup e))
    rcases mem e' with ⟨z, _⟩ | ⟨z, _, _⟩
    · rw [e] at z
      cases z
      exact e'
    · have u := S.uniq _ z
      rw [S.frk y hy] at u
      cases u
  refine ⟨⟨e0.mod, S.kind, rfl, rfl, Nat.le_refl _, fun y z c e1 e2 => ?_, fun y hy => ?_, fun y c z e => ?_, fun _ => hd, Around.frames_deeper e0.frames, .inr ⟨rfl, rfl⟩, fun b z => absurd z (noA b), e0.bs, e0.bsz, fun b _ _ => noA b,
      fun b z => absurd z (noA b), e0.funs, e0.frf⟩,
    rfl, e0.bare, Un.kept kp, ⟨_, (Heap.Ns.new s.heap (.type "frame")).keeps (pushCells_keeps _ _), fun i y v e1 e2 e3 => ?_⟩, fun y c e => ?_, e0.hok.fresh (Nat.le_refl _), fun y c e => ?_,
      fun q hq => absurd (show q ∈ ([] : List (Addr × Obj)) ++ [] from hq) (by simp), e0.hok.kept kp, ?_⟩
  · have e1 : (lCells L s.heap.objs.size).lookup y = some c := e1
    have e2 : (lCells L s.heap.objs.size).lookup z = some c := e2
    rw [hcl] at e1 e2
    refine cells_inj (fun p hp => ?_) (fun y z c a b => C.inj y z c (cm y c a).1 (cm z c b).1) (PySem.mem_of_lookup e1) (PySem.mem_of_lookup e2)
    rw [esz]
    exact Nat.lt_succ_of_lt (old p.1 p.2 hp)
  · have hy : L.scope.names.lookup y = some .cell ∨ L.scope.names.lookup y = some .free := hy
    show ∃ c, (lCells L s.heap.objs.size).lookup y = some c
    rcases hy with hy | hy
    · obtain ⟨c, hm⟩ := cells_has (n := s.heap.objs.size + 1) (acc := L.cl) (PySem.mem_of_lookup hy)
      exact mem_lookup hm
    · obtain ⟨i, hi⟩ := List.mem_iff_getElem?.mp (S.free _ (PySem.mem_of_lookup hy) rfl)
      obtain ⟨c, hc, _⟩ := C.has i y hi
      exact ⟨c, cap (List.mem_of_getElem? hi) hc⟩
  · have z : (L.scope.names.lookup y == some NameKind.cell) = true := z
    have z : L.scope.names.lookup y = some .cell := by simpa using z
    have e : (lCells L s.heap.objs.size).lookup y = some c := e
    rcases mem e with ⟨_, h2⟩ | ⟨_, h2, _⟩
    · rw [S.frk y h2] at z
      cases z
    · exact Nat.le_of_succ_le h2
  · have e1 : N[i]? = some y := e1
    by_cases h1 : i < ps.length
    · rw [List.getElem?_append_left (by rw [List.length_map]; omega), List.getElem?_map] at e2
      cases e : ps[i]? with
      | none => rw [e] at e2; cases e2
      | some a => rw [e] at e2; cases e2
    · rw [List.getElem?_append_right (by rw [List.length_map]; omega), List.length_map] at e2
      by_cases h2 : i < ps.length + fr.length
      · have hq : (ps ++ fr)[i]? = some y := by
          rw [← S.pre, List.getElem?_take_of_lt (by omega)]
          exact e1
        rw [List.getElem?_append_right (by omega)] at hq
        rw [List.getElem?_append_left (by omega)] at e2
        obtain ⟨c, hc, hv⟩ := C.has (i - ps.length) y hq
        obtain ⟨u, ru, hu⟩ := hv v e2
        have hy := List.mem_of_getElem? hq
        exact ⟨u, ru, .inr ⟨.inr (S.frk y hy), c, cap hy hc, hu.keeps kp⟩⟩
      · rw [List.getElem?_append_right (by omega), List.getElem?_replicate] at e2
        split at e2 <;> cases e2
  · have e : (lCells L s.heap.objs.size).lookup y = some c := e
    rcases mem e with ⟨h1, _⟩ | ⟨_, _, h3⟩
    · obtain ⟨v, z⟩ := (C.all y c h1).2
      exact ⟨v, z.keeps kp⟩
    · exact ⟨_, h3⟩
  · have e : (lCells L s.heap.objs.size).lookup y = some c := e
    rcases mem e with ⟨h1, _⟩ | ⟨_, h2, _⟩
    · exact (C.all y c h1).1
    · exact e0.hok.fresh (Nat.le_of_succ_le h2)
  · show _ = N.length
    have := S.len
    rw [List.length_append, List.length_append, List.length_map, List.length_replicate]
    omega
/-- the values of the parameters, stored one by one -/
def setAll (σ : L2.St) (k : Nat) : List V → L2.St
  | [] => σ
  | v :: vs => setAll (σ.set k (some v)) (k + 1) vs
theorem bind_all {X : Cx} {M : Model} {A : Around} {E : Value → Shared → Prop} (hN : X.N.Nodup) (f : Str × Value → PUnit → Sem (ForInStep PUnit)) (hf : ∀ n v u, f (n, v) u = (do storeName X.env n v; pure (.yield ⟨⟩))) :
    ∀ (qs : List Str) (vs : List V) (us : List Value) (k : Nat) (σ : L2.St) (H : Hp) (s : Shared) (Q : PUnit → Shared → Prop), Vals vs us → qs.length = us.length → Inv X [] σ H s → (∀ i x, qs[i]? = some x → X.N[k + i]? = some x) →
      (∀ x ∈ qs, X.env.scope.names.lookup x = some .local ∨ (X.env.scope.names.lookup x = some .cell ∧ X.fn x = true)) → (∀ s', Inv X [] (setAll σ k vs) H s' → Q ⟨⟩ s') → wpAny M A (forIn (qs.zip us) ⟨⟩ f) Q E s
  | [], vs, us, k, σ, H, s, Q, r, hl, I, hi, hx, h => by
    cases us with
    | nil =>
      cases r
      rw [List.zip_nil_left, List.forIn_nil]
      exact wpAny_pure (h s I)
    | cons u us => simp at hl
  | q :: qs, vs, us, k, σ, H, s, Q, r, hl, I, hi, hx, h => by
    cases us with
    | nil => simp at hl
    | cons u us =>
      cases r with
      | cons r rr =>
        rename_i v vs
        rw [List.zip_cons_cons, List.forIn_cons, hf]
        have loc : Loc X.env.scope q := (hx q List.mem_cons_self).elim Or.inl fun z => Or.inr z.1
        have hfn : X.fn q = true ∨ X.env.scope.names.lookup q = some .local := (hx q List.mem_cons_self).elim Or.inr fun z => Or.inl z.2
        refine wpAny_bind (wpAny_bind (store_ok I hN (hi 0 q rfl) loc r (fun s' I' => wpAny_pure ?_) hfn))
        exact bind_all hN f hf qs vs us (k + 1) _ H s' Q rr (by simpa using hl) I' (fun i x e => by
          have := hi (i + 1) x e
          rw [show k + 1 + i = k + (i + 1) by omega]
          exact this) (fun x m => hx x (List.mem_cons_of_mem _ m)) h
end
/-- what a lambda promises: ws, what its captured cell holds at the call -/
structure LOk (P : Program) (w : World) (K : PySem.W.Frag) (mg : Str → Option Value) (base : Heap) (k : Nat) (L : LF) (ps fr : List Str) (sp : List (Option V) → Sp) : Prop where
  len : ∀ ws vs H Q E, sp ws vs H Q E → vs.length = ps.length
  run : ∀ (A : Around) (outer : List Env) (s : Shared) (H : Hp) (f : Addr) (us : List Value) (vs : List V) (ws : List (Option V)) (Q : VK), Room k A → Env0 P w K mg base A outer s H → H f = some (LamO f L) → H L.c = some (CodeO L.c L.qual) →
    CellsAt L.cl fr ws s.heap H → Vals vs us → sp ws vs H Q E0 → codeAny (model P w) A (.call (.ref f) ⟨us, []⟩) (CR CX0 outer P w H s Q E0) s
section
variable {P : Program} {w : World} {K : PySem.W.Frag} {mg : Str → Option Value} {base : Heap} {N ps fr : List Str} {L : LF} {k j : Nat} {sp : List (Option V) → Sp}
theorem LOk.mono (o : LOk P w K mg base j L ps fr sp) (h : j ≤ k) : LOk P w K mg base k L ps fr sp := ⟨o.len, fun A outer s H f us vs ws Q hr => o.run A outer s H f us vs ws Q (hr.mono h)⟩
theorem lok_of (S : LScope N ps fr L.scope) (cm : ∀ y c, (y, c) ∈ L.cl → L.cl.lookup y = some c ∧ y ∈ fr) (hb : ∀ (pm ctv : Value) (us : List Value), us.length = ps.length → bindArgs (PySem.W.kla_fn "<lambda>" L.qual L.params L.body L.scope L.cl pm (.ref L.c) ctv) ⟨us, []⟩ = pure (ps.zip us))
    (len : ∀ ws vs H Q E, sp ws vs H Q E → vs.length = ps.length)
    (hbody : ∀ (A : Around) (outer : List Env) (s : Shared) (H : Hp) (f : Addr) (vs : List V) (ws : List (Option V)) (Q : VK), Room k (A.deeper (lEnv L f s.heap.objs.size)) → ws.length = fr.length → sp ws vs H Q E0 →
      ∃ t, PE (lcx P w K mg base N L f A outer s H) L.body t ∧ t (setAll (ps.map (fun _ => none) ++ (ws ++ List.replicate (N.length - ps.length - fr.length) none)) 0 vs) H Q) :
    LOk P w K mg base (k + 1) L ps fr sp := by
  refine ⟨len, fun A outer s H f us vs ws Q hr e0 hf hc C r hsp => ?_⟩
  have hl := len _ _ _ _ _ hsp
  obtain ⟨⟨pm, ctv, ho⟩, _, _⟩ := e0.hok f _ hf
  have hul : ps.length = us.length := by rw [← hl]; exact r.length
  refine PySem.W.kla_callFunE hr.depth ho rfl S.co S.gen rfl (codeO_at e0.hok hc) ?_
  rw [hb pm ctv us hul.symm]
  refine wpAny_pure ?_
  simp only [newFunctionEnv, Option.isSome_none, Bool.false_eq_true, if_false]
  refine wpAny_bind (wpAny_alloc ?_)
  refine wpAny_bind (wpAny_layCells _ (fun name kind cells => by cases hkc : kind == NameKind.cell <;> simp [hkc]) _ _ _ _ ?_)
  rw [show ({ s with heap := s.heap.push { cls := .type "frame", data := .dict #[] } } : Shared).heap.objs.size = s.heap.objs.size + 1 from Heap.size_push ..]
  obtain ⟨t, ht, hq⟩ := hbody A outer s H f vs ws Q (hr.deeper _) C.len hsp
  have I0 := linv (f := f) (tk := s.toks) (N := N) (ps := ps) (fr := fr) (ws := ws) S hr.hd e0 C cm
  refine wpAny_bind (bind_all (X := lcx P w K mg base N L f A outer s H) S.nd _ (fun _ _ _ => rfl) ps vs us 0 _ H _ _ r hul I0 (fun i x e => ?_) (fun x m => ?_) fun s' J => wpAny_pure ?_)
  · rw [Nat.zero_add]
    have hi : i < ps.length := (List.getElem?_eq_some_iff.mp e).1
    have q : (ps ++ fr)[i]? = some x := by rw [List.getElem?_append_left hi]; exact e
    rw [← S.pre, List.getElem?_take_of_lt (by omega)] at q
    exact q
  · rcases S.par x m with z | z
    · exact .inl z
    · exact .inr ⟨z, by show (L.scope.names.lookup x == some NameKind.cell) = true; rw [z]; rfl⟩
  · refine ⟨J.nolimit, ?_⟩
    refine PySem.W.kla_codeExpr (wpAny_mono (ht.run [] s' _ H Q J hq) (fun v s2 hq2 => ?_) fun e s2 z => False.elim z)
    obtain ⟨w', H', J', rv, q⟩ := hq2
    exact ⟨w', H', J'.os, J'.bare, J'.base, J'.hok, rv, q⟩
end
/-! ### its call -/
def ers (H : Hp) (c : Addr) : Hp := fun b => if b = c then none else H b
theorem ers_ne {H : Hp} {b c : Addr} (h : b ≠ c) : ers H c b = H b := if_neg h
theorem ers_self {H : Hp} {c : Addr} : ers H c c = none := if_pos rfl
theorem ers_some {H : Hp} {b c : Addr} {o : HO} (h : ers H c b = some o) : b ≠ c ∧ H b = some o := by
  unfold ers at h
  split at h
  · cases h
  · exact ⟨by assumption, h⟩
theorem ers_none {H : Hp} {b c : Addr} (h : H b = none) : ers H c b = none := by
  unfold ers
  split
  · rfl
  · exact h
section
variable {P : Program} {w : World} {K : PySem.W.Frag} {mg : Str → Option Value} {base : Heap} {A : Around} {outer : List Env} {s s' : Shared} {H : Hp} {c : Addr} {v : V}
theorem hok_ers {h : Heap} (ok : HOk P w H h) (hc : H c = some (.frz ob (CelO c v))) : HOk P w (ers H c) h := fun b o e => by
  obtain ⟨hb, e'⟩ := ers_some e
  refine (ok b o e').stay (fun _ _ _ q => q) (fun d q => ?_) fun d xs q => ?_
  · rw [ers_ne (fun z => by rw [z, hc] at q; cases q)]
    exact q
  · rw [ers_ne (fun z => by rw [z, hc] at q; cases q)]
    exact q
theorem env0_ers (e : Env0 P w K mg base A outer s H) (hc : H c = some (.frz ob (CelO c v))) : Env0 P w K mg base A outer s (ers H c) :=
  ⟨e.frames, e.mod, fun b o q => ⟨(e.bs b o q).1, ers_none (e.bs b o q).2⟩, e.bsz, e.funs, fun b q => ers_none (e.frf b q), hok_ers e.hok hc, e.bare⟩
/-- behind a call that did not know the cell: it is known again -/
theorem ce_ers {Q : VK} {u : Value} (ok : HOk P w H s.heap) (hfr : ∀ b ∈ frs outer, H b = none) (hc : H c = some (.frz ob (CelO c v))) (h : CE outer P w (ers H c) s (fun x H2 => H2 c = none → Q x (upd H2 c (.frz ob (CelO c v)))) u s') : CE outer P w H s Q u s' := by
  obtain ⟨x, H', os, bare, un, hok, rv, q⟩ := h
  obtain ⟨hob, ⟨cu, crv, co, cho, chd⟩, _, _⟩ := ok c _ hc
  have ncf : c ∉ frs outer := fun z => by
    have := hfr c z
    rw [hc] at this
    cases this
  have hn : H' c = none := un.free c co cho ers_self (by simp)
  refine ⟨x, upd H' c (.frz ob (CelO c v)), os, bare, ⟨fun b o e n hb hx => un.keep b o e (ers_none n) hb hx, fun b o e n hb hx => un.slot b o e (ers_none n) hb hx, fun b o e n hx => ?_, un.there, fun b xs e => ?_, fun b o z e => ?_, fun b ps e => ?_⟩, fun b o e => ?_, rv, q hn⟩
  · rw [upd_ne (fun z => by rw [z, hc] at n; cases n)]
    exact un.free b o e (ers_none n) hx
  · have hb : b ≠ c := fun z => by rw [z, hc] at e; cases e
    rw [upd_ne hb]
    exact un.tups b xs (by rw [ers_ne hb]; exact e)
  · by_cases hb : b = c
    · rw [hb] at e ⊢
      rw [hc] at e
      rw [upd_same]
      exact e
    · rw [upd_ne hb]
      exact un.frzs b o z (by rw [ers_ne hb]; exact e)
  · have hb : b ≠ c := fun z => by rw [z, hc] at e; cases e
    rw [upd_ne hb]
    exact un.tbls b ps (by rw [ers_ne hb]; exact e)
  · by_cases hb : b = c
    · subst hb
      rw [upd_same] at e
      cases e
      have e1 := un.keep b ob hob ers_self ncf (by simp)
      have eo : co = ob := Option.some.inj (cho.symm.trans hob)
      subst eo
      exact ⟨e1, ⟨cu, crv, _, e1, chd⟩, ⟨_, e1⟩, fun h1 h2 ⟨u', r', o', a1, a2⟩ st => ⟨u', r', o', st _ a1, a2⟩⟩
    · rw [upd_ne hb] at e
      refine (hok b o e).stay (fun _ _ _ z => z) (fun d z => ?_) fun d xs z => ?_
      · rw [upd_ne (fun y => by rw [y, hn] at z; cases z)]
        exact z
      · rw [upd_ne (fun y => by rw [y, hn] at z; cases z)]
        exact z
end
/-- f(..), f a name that holds a lambda -/
def tCallClo (P : Program) (w : World) (K : PySem.W.Frag) (mg : Str → Option Value) (base : Heap) (k i : Nat) (t : TA) : TE := fun σ H Q => ∃ (f : Addr) (L : LF) (ps fr : List Str) (sp : List (Option V) → Sp),
  σ[i]? = some (some (.ref f)) ∧ H f = some (LamO f L) ∧ LOk P w K mg base k L ps fr sp ∧ t σ H fun vs H1 => H1 f = some (LamO f L) ∧ H1 L.c = some (CodeO L.c L.qual) ∧
    ((L.cl = [] ∧ fr = [] ∧ sp [] vs H1 Q E0) ∨ ∃ (y : Str) (c : Addr) (ob : Obj) (v : V), L.cl = [(y, c)] ∧ fr = [y] ∧ H1 c = some (.frz ob (CelO c v)) ∧ sp [some v] vs (ers H1 c) (fun u H2 => H2 c = none → Q u (upd H2 c (.frz ob (CelO c v)))) E0)
section
variable {X : Cx}
theorem lamAt_of {pins : List (Addr × Obj)} {σ : L2.St} {H : Hp} {s : Shared} {f : Addr} {L : LF} (I : Inv X pins σ H s) (e : H f = some (LamO f L)) : PySem.W.FnAt f s.heap := by
  obtain ⟨⟨pm, ctv, ho⟩, _, _⟩ := I.hok f _ e
  exact ⟨_, _, _, _, ho⟩
theorem run_lam {pins : List (Addr × Obj)} {σ : L2.St} {H : Hp} {s : Shared} {f : Addr} {L : LF} {k : Nat} {ps fr : List Str} {sp : List (Option V) → Sp} {us : List Value} {vs : List V} {Q : VK} (I : Inv X pins σ H s) (hr : Room k X.A) (h1 : H f = some (LamO f L)) (h2 : H L.c = some (CodeO L.c L.qual)) (ok : LOk X.prog X.w X.K X.mg X.base k L ps fr sp) (r : Vals vs us)
    (h : (L.cl = [] ∧ fr = [] ∧ sp [] vs H Q E0) ∨ ∃ (y : Str) (c : Addr) (ob : Obj) (v : V), L.cl = [(y, c)] ∧ fr = [y] ∧ H c = some (.frz ob (CelO c v)) ∧ sp [some v] vs (ers H c) (fun u H2 => H2 c = none → Q u (upd H2 c (.frz ob (CelO c v)))) E0) :
    wpAny (model X.prog X.w) X.A (call (.ref f) us) (EP X pins σ Q) X.xe s := by
  obtain ⟨⟨pm, ctv, ho⟩, _, _⟩ := I.hok f _ h1
  obtain ⟨⟨oc, fvs, ft, hoc, hdc, _⟩, _, _⟩ := I.hok L.c _ h2
  rcases h with ⟨e1, e2, q⟩ | ⟨y, c, ob, v, e1, e2, hc, q⟩
  · subst e2
    refine wpAny_call (codeAny_mono (ok.run X.A X.stack s H f us vs [] Q hr I.env0 h1 h2 ⟨rfl, fun y c z => ?_, fun y z c a => ?_, fun i y z => by simp at z⟩ r q) fun r s' hq => ?_)
    · rw [e1] at z
      cases z
    · rw [e1] at a
      cases a
    · cases r with
      | error e => exact False.elim hq
      | ok fl =>
        cases fl with
        | ret u => exact I.after hq
        | next => exact False.elim hq
        | brk => exact False.elim hq
        | cont => exact False.elim hq
  · subst e2
    obtain ⟨hob, ⟨cu, crv, co, cho, chd⟩, _, _⟩ := I.hok c _ hc
    have n1 : f ≠ c := fun z => by
      rw [z, cho] at ho
      have e := Option.some.inj ho
      rw [e] at chd
      cases chd
    have n2 : L.c ≠ c := fun z => by
      rw [z, cho] at hoc
      have e := Option.some.inj hoc
      rw [← e, chd] at hdc
      cases hdc
    have look : ∀ x d, L.cl.lookup x = some d → x = y ∧ d = c := fun x d z => by
      rw [e1] at z
      have m := PySem.mem_of_lookup z
      simp only [List.mem_singleton, Prod.mk.injEq] at m
      exact m
    have ly : L.cl.lookup y = some c := by
      rw [e1]
      simp [List.lookup]
    refine wpAny_call (codeAny_mono (ok.run X.A X.stack s (ers H c) f us vs [some v] _ hr (env0_ers I.env0 hc) (by rw [ers_ne n1]; exact h1) (by rw [ers_ne n2]; exact h2)
      ⟨rfl, fun x d z => ?_, fun x z d a b => (look x d a).1.trans (look z d b).1.symm, fun i x z => ?_⟩ r q) fun r s' hq => ?_)
    · rw [(look x d z).2]
      exact ⟨ers_self, _, co, cho, chd⟩
    · match i, z with
      | 0, z =>
        have e : y = x := by simpa using z
        subst e
        exact ⟨c, ly, fun v' ev => by
          have e' : v = v' := by simpa using ev
          subst e'
          exact ⟨cu, crv, co, cho, chd⟩⟩
      | i + 1, z => simp at z
    · cases r with
      | error e => exact False.elim hq
      | ok fl =>
        cases fl with
        | ret u => exact I.after (ce_ers I.hok I.env0.frf hc hq)
        | next => exact False.elim hq
        | brk => exact False.elim hq
        | cont => exact False.elim hq
theorem pe_callClo {k i : Nat} {x : Str} {e : Expr} {es : List Expr} {t : TA} {p pos : Pos} (hr : Room k X.A) (hN : X.N[i]? = some x) (hv : Vis X.env.scope x) (ha : PA X (e :: es) t)
    (hd : (x == ("__debug__" : Str)) = false := by decide) (hcd : (x == ("__classdict__" : Str)) = false := by decide)
    (he : starEach (e :: es) X.env = (false, eval e X.env) :: starEach es X.env := by rfl) (hpl : (backTo pos (starEach es X.env)).any (·.1) = false := by rfl) :
    PE X (.Call (.Name x p) (e :: es) [] pos) (tCallClo X.prog X.w X.K X.mg X.base k i t) := by
  refine ⟨fun pins s σ H Q I h => ?_⟩
  obtain ⟨f, L, ps, fr, sp, hs, hf, ok, ht⟩ := h
  refine wpAny_Call_Name_kw (thn ((pe_var (pos := p) hN hv hd hcd).run pins s σ H (fun v H1 => v = .ref f ∧ H1 = H) I ⟨.ref f, hs, rfl, rfl⟩) fun u s1 ⟨v, H1, I1, r1, q1⟩ => ?_)
  obtain ⟨ev, eH⟩ := q1
  subst ev
  rw [eH] at I1
  obtain rfl : u = Value.ref f := r1
  refine PySem.W.callWith_F (first := []) (lamAt_of I1 hf) (thn (ha.run pos pins s1 σ H _ I1 ht) fun us s2 ⟨vs, H2, I2, r, h1, h2, q⟩ => ⟨lamAt_of I2 h1, ?_⟩) he hpl
  show wpAny _ _ (call (.ref f) us) _ _ _
  exact run_lam I2 hr h1 h2 ok r q
end
end TgL
/-! TgEq -/
set_option Elab.async false
set_option linter.all false
set_option maxRecDepth 100000
set_option maxHeartbeats 4000000
/-! == and != of two instances of a class with an own __eq__ (and no own __ne__) -/
namespace TgE
open PySem PySem.W PySem.Spec PyProof.Rows
section
variable {prog : Program} {w : World} {A : Around} {E : Value → Shared → Prop} {s : Shared} {K : Frag} {x C f : Addr} {ox : Obj} {od : Option Obj} {b : Value}
/-- a special name that the class has from object, bound -/
theorem ifBound_slot {M : Model} {name : Str} {id : String} {args : List Value} {Q : Option Value → Shared → Prop} (X : K.In s.heap) (I : InstAt s.heap x ox C od) (hs : findIn K (.ref C) name = some (some (.builtin id))) (S : Slot "object" name id)
    (h : wpAny M A (call (.builtin id) (.ref x :: args)) (fun v => Q (some v)) E s) : wpAny M A (callSpecialIfBound? (.ref x) name args) Q E s := by
  simp only [callSpecialIfBound?, bindSpecialIfBound?]
  refine wpAny_holding (wpAny_bind (wpAny_bind (wpAny_bind (I.type.here ((looks_findIn X hs).here ?_)))))
  simp only [S.bind]
  refine wpAny_bind (wpAny_askSetting (wpAny_ite ?_))
  have fin : wpAny M A (call (.builtin id) ([.ref x] ++ args) >>= fun v => pure (some v)) Q E s := wpAny_bind (wpAny_mono h (fun v s' h' => wpAny_pure h') fun _ _ h' => h')
  split
  · exact wpAny_bind (wpAny_pure (wpAny_pure (by exact fin)))
  · exact wpAny_tryCatch (wpAny_bind (wpAny_pure (wpAny_pure (by exact fin))))
theorem ne_check {M : Model} {Q : Unit → Shared → Prop} (X : K.In s.heap) (I : InstAt s.heap x ox C od) (hm : subIn K (.ref C) (.type "object") = some true) (h : Q () s) : wpAny M A (checkBuiltinCall "object.__ne__" ⟨[.ref x, b], []⟩) Q E s := by
  have hk := F.cmpKind_ne
  have hs := F.cmpSplit_ne
  simp only [checkBuiltinCall, hk, hs]
  refine wpAny_bind ?_
  unfold isInstance
  refine wpAny_bind (I.type.here ?_)
  refine (looks_subIn X hm).here ?_
  simp only [Bool.not_true, Bool.false_eq_true, if_false]
  refine wpAny_pure ?_
  exact h
theorem ne_K {Q : Value → Shared → Prop} (hu : A.units + 1 < cLine) (X : K.In s.heap) (I : InstAt s.heap x ox C od) (hb : Looks (model prog w) s.heap (typeOf b) (.ref C))
    (hs : findIn K (.ref C) "__eq__" = some (some (.ref f))) (hf : isFn K (.ref f) = true) (hn : findIn K (.ref C) "__ne__" = some (some (.builtin "object.__ne__"))) (hm : subIn K (.ref C) (.type "object") = some true)
    (h : codeAny (model prog w) A.in1 (.call (.ref f) ⟨[.ref x, b], []⟩) (fun r s' => ∃ k : Bool, r = .ok (.ret (.bool k)) ∧ Q (.bool (!k)) s') s) : wpAny (model prog w) A (richCompare .NotEq (.ref x) b) Q E s := by
  have one : wpAny (model prog w) A (tryCompare (.ref x) "__ne__" b) (fun r s' => ∃ v, r = some v ∧ Q v s') E s := by
    unfold tryCompare
    refine wpAny_bind (ifBound_slot X I hn F.cmp_object.ne (wpAny_call (codeAny_call_builtin F.cmp_object.ne.plain F.cmpEntry_ne (ne_check X I hm ?_))))
    unfold Builtin.«object.__ne__»
    have hu' : A.in1.units < cLine := hu
    repeat (first | with_reducible refine wpAny_cRoomFor hu' ?_ | with_reducible refine ifBound_K X I hs hf ?_ | wp_step)
    refine codeAny_mono h (fun r s' q => ?_)
    obtain ⟨k, rfl, q⟩ := q
    repeat (first | with_reducible refine wpAny_truthy_bool ?_ | wp_step)
    exact ⟨_, rfl, q⟩
  unfold richCompare
  simp only [oneThing_ref]
  refine wpAny_holding (wpAny_bind (wpAny_cRoomFor (Nat.lt_of_succ_lt hu) ?_))
  refine wpAny_bind (I.type.here (wpAny_bind (hb.here ?_)))
  rw [if_neg (by simp)]
  refine wpAny_bind (wpAny_pure ?_)
  simp only [Bool.false_eq_true, if_false]
  refine wpAny_bind (wpAny_mono one (fun r s' z => ?_) fun _ _ e => e)
  obtain ⟨v, rfl, hq⟩ := z
  exact wpAny_pure hq
end
end TgE
namespace L2
open PySem PySem.Spec PyProof.Rows
section
variable {X : Cx} {C f : Addr} {fd : FuncData} {ps : List Str} {sp : Sp} {n : Nat}
/-- x == y, x != y of two instances of C, by the promise of its own __eq__ -/
def rEqOwn (C : Addr) (sp : Sp) (neg : Bool) : R2 := fun x y H Q => ∃ a b dx dy fs gs, x = .ref a ∧ y = .ref b ∧ H a = some (.ins C dx fs) ∧ H b = some (.ins C dy gs) ∧
  sp [.ref a, .ref b] H (fun v H' => ∃ k, v = .bl k ∧ Q (.bl (if neg then !k else k)) H') E0
theorem op_eqOwn (F : FnOk X.prog X.w X.K X.mg X.base CX0 n f fd ps sp) (hr : Room n X.A) (hs : PySem.W.findIn X.K (.ref C) "__eq__" = some (some (.ref f))) (hf : PySem.W.isFn X.K (.ref f) = true) (hb : Binds X.K fd ps []) : OpR X (compareOp .Eq) (rEqOwn C sp false) := by
  intro pins s σ H x y v u Q I rx ry hq
  obtain ⟨a, b, dx, dy, fs, gs, rfl, rfl, ha, hb', q⟩ := hq
  cases rx
  cases ry
  obtain ⟨mA, J, _⟩ := ins_get I.hok ha
  obtain ⟨mB, J', _⟩ := ins_get I.hok hb'
  obtain ⟨od, J, _⟩ := J.look
  obtain ⟨od', J', _⟩ := J'.look
  obtain ⟨m, hF⟩ := I.fr
  show wpAny (model X.prog X.w) X.A (richCompare .Eq _ _) (EP X pins σ Q) X.xe s
  refine PySem.W.cmp_K (op := .Eq) (tb := .ref C) hr.units0 hF I.ok.mod.kin J J'.type (by simp [PySem.W.notFirst]) hs hf ?_
  refine wpAny_mono (run_fn (vs := [.ref a, .ref b]) (us := [.ref a, .ref b]) F hr hb .nil pass0 I (.cons rfl (.cons rfl .nil)) (by exact q)) (fun r s' z => ?_) fun _ _ e => e
  obtain ⟨v, H', I', rv, k, rfl, q'⟩ := z
  cases rv
  exact ⟨.bl k, H', I', rfl, q'⟩
theorem op_neOwn (F : FnOk X.prog X.w X.K X.mg X.base CX0 n f fd ps sp) (hr : Room (n + 1) X.A) (hs : PySem.W.findIn X.K (.ref C) "__eq__" = some (some (.ref f))) (hf : PySem.W.isFn X.K (.ref f) = true) (hb : Binds X.K fd ps [])
    (hn : PySem.W.findIn X.K (.ref C) "__ne__" = some (some (.builtin "object.__ne__"))) (hm : PySem.W.subIn X.K (.ref C) (.type "object") = some true) : OpR X (compareOp .NotEq) (rEqOwn C sp true) := by
  intro pins s σ H x y v u Q I rx ry hq
  obtain ⟨a, b, dx, dy, fs, gs, rfl, rfl, ha, hb', q⟩ := hq
  cases rx
  cases ry
  obtain ⟨mA, J, _⟩ := ins_get I.hok ha
  obtain ⟨mB, J', _⟩ := ins_get I.hok hb'
  obtain ⟨od, J, _⟩ := J.look
  obtain ⟨od', J', _⟩ := J'.look
  show wpAny (model X.prog X.w) X.A (richCompare .NotEq _ _) (EP X pins σ Q) X.xe s
  refine TgE.ne_K (hu_of hr) I.kIn J J'.type hs hf hn hm ?_
  have hl := F.len _ _ _ _ q
  refine codeAny_mono (F.run X.A.in1 X.stack s H ⟨[.ref a, .ref b], []⟩ [.ref a, .ref b] [.ref a, .ref b] _ E0 hr.in1 I.env0.in1 (by
    have := hb s [.ref a, .ref b] I.kIn (by simpa using hl)
    simpa using this) (.cons rfl (.cons rfl .nil)) q) fun r s' hq => ?_
  cases r with
  | error e => exact False.elim hq
  | ok fl =>
    cases fl with
    | ret u =>
      obtain ⟨v, H', I', rv, k, rfl, q'⟩ := I.after hq
      cases rv
      exact ⟨k, rfl, .bl (!k), H', I', rfl, q'⟩
    | next => exact False.elim hq
    | brk => exact False.elim hq
    | cont => exact False.elim hq
end
end L2
/-! TgIter -/
set_option Elab.async false
set_option linter.all false
set_option maxRecDepth 100000
set_option maxHeartbeats 4000000
/-! walks: items of a dict with tuple keys; enumerate of a tuple; zip(t, u, strict=True) of tuples -/
namespace TgI
open PySem PySem.Spec PyProof.Rows L2

/-! ### items of a dict with tuple keys -/
section
variable {X : Cx} {pins : List (Addr × Obj)} {σ : L2.St} {H : Hp} {s : Shared} {d : Addr} {o : Obj}
theorem frzTv {kvs : List (List Key × V)} (I : Inv X pins σ H s) (h : H d = some (.frz o (.dT kvs))) :
    (d == sysModules) = false ∧ ∃ (es : Array DictEntry) (ep : Nat), o.data = .dict es ep ∧ es.size = kvs.length ∧ DT.Raw s.heap d es ep ∧ s.heap.DictRaw d es ep ∧
      ∀ (i : Nat) (k : List Key) (v : V), kvs[i]? = some (k, v) → ∃ (en : DictEntry) (q : Addr), es[i]? = some en ∧ en.key = .ref q ∧ H q = some (.tup (k.map kV)) ∧ RelV v en.val := by
  obtain ⟨hd, z, hs, xs, pr, o', es, ep, ho, hx, hdt, he, _⟩ := I.hok d _ h
  rw [hd] at ho
  cases ho
  refine ⟨hs, es, ep, hdt, ?_, ⟨o, hd, hx, hdt⟩, ⟨o, hd, hx, hdt⟩, fun i k v e => ?_⟩
  · have l1 : es.size = xs.length := size_of_entries he
    have l2 : kvs.length = xs.length := Paired.length pr
    omega
  · obtain ⟨b, hb, e1, e2, e3⟩ := paired_get pr e
    have q := entry_at he i
    rw [hb] at q
    exact ⟨_, b.2.1, q, rfl, e2, e3⟩
end
/-- the pairs of the locked dict, each a new tuple of the key's own tuple and the value -/
def Itit (d : Addr) (o : Obj) (kvs : List (List Key × V)) : It :=
  ⟨fun i H => H d = some (.frz o (.dT kvs)) ∧ i < kvs.length,
   fun i H x H' => ∃ (T : Addr) (k : List Key) (v : V) (q : Addr), kvs[i]? = some (k, v) ∧ x = .ref T ∧ H T = none ∧ H q = some (.tup (k.map kV)) ∧ H' = upd H T (.tup [.ref q, v]),
   fun i H => H d = some (.frz o (.dT kvs)) ∧ kvs.length ≤ i⟩
section
variable {P : Program} {w : World} {K : PySem.W.Frag} {d : Addr} {o : Obj} {es : Array DictEntry} {ep : Nat}
theorem turn_itemsT {kvs : List (List Key × V)} {elts : List Expr} {kk : Nat} {tpos : Pos} (it : Addr) (hod : o.data = .dict es ep) :
    Turn P w K (.Tuple elts kk tpos) (Itit d o kvs) [it] it (fun i h => ∃ ok ov, IsItemIter h it d i kvs.length ep ok ov) where
  mem := by simp
  obj := fun i h st b hb => by
    have e : b = it := by simpa using hb
    subst e
    obtain ⟨ok, ov, e⟩ := st
    exact ⟨_, e, fun v z => nomatch z⟩
  keep := fun i h h' st k => let ⟨ok, ov, e⟩ := st; ⟨ok, ov, k it (by simp) _ e⟩
  item := by
    intro X hP hw hK hc i pins s σ H E I hf st hg
    subst hP hw hK
    obtain ⟨hd, hi⟩ := hg
    obtain ⟨hs, es', ep', hdt, hsz, hr0, hr, ent⟩ := frzTv I hd
    obtain ⟨rfl, rfl⟩ := dict_ep hod hdt
    obtain ⟨⟨k, v⟩, hkv⟩ : ∃ p, kvs[i]? = some p := ⟨kvs[i], List.getElem?_eq_getElem hi⟩
    obtain ⟨en, q, hen, hkey, hq, rv⟩ := ent i k v hkv
    obtain ⟨ok, ov, he⟩ := st
    rw [← hsz] at he
    have hlt : it < s.heap.objs.size := Heap.lt_size he
    obtain ⟨hi', hen'⟩ := Array.getElem?_eq_some_iff.mp hen
    refine PySem.wpAny_pyNext_items_item_raw he hr hi' fun h' ho hT hz hk => ?_
    rw [hen'] at ho hT
    refine ⟨_, rfl, wpAny_letOwnedTupleGo_items (s := { s with heap := h' }) ho fun h'' he' sb => ?_⟩
    have hT2 : h''.get? s.heap.objs.size = some { cls := .type "tuple", data := .seq #[en.key, en.val] } := (sb.2 _ (Nat.ne_of_gt hlt)).trans hT
    have new : ObjOk X.prog X.w (upd H s.heap.objs.size (.tup [.ref q, v])) h'' s.heap.objs.size (.tup [.ref q, v]) :=
      ⟨by show 2 ≤ sizeLine; decide, [en.key, en.val], .cons hkey (.cons rv .nil), ⟨_, hT2, rfl, _, rfl⟩⟩
    have I1 : Inv X pins σ (upd H s.heap.objs.size (.tup [.ref q, v])) { s with heap := h'' } :=
      I.turnedNew (t' := s.toks) (ch := [it]) (fun b ob hb e => (sb.2 b (by simpa using hb)).trans (hk b ob (by simpa using hb) e)) hf (Nat.le_refl _) new
    refine ⟨.ref s.heap.objs.size, _, I1, rfl, ⟨_, k, v, q, hkv, rfl, I.hok.fresh (Nat.le_refl _), hq, rfl⟩, ⟨en.key, en.val, ?_⟩, fun b hb => ?_⟩
    · rw [← hsz]; exact he'
    · have e : b = it := by simpa using hb
      rw [e, upd_ne (Nat.ne_of_lt hlt)]
      exact (hf it (by simp)).1
  done := by
    intro X hP hw hK hc i pins s σ H E I hf st hg
    subst hP hw hK
    obtain ⟨hd, hi⟩ := hg
    obtain ⟨f0, f1, f2, f3, f4, f5⟩ := hf it (by simp)
    obtain ⟨hs, es', ep', hdt, hsz, hr0, hr, ent⟩ := frzTv I hd
    obtain ⟨rfl, rfl⟩ := dict_ep hod hdt
    obtain ⟨ok, ov, he⟩ := st
    rw [← hsz] at he
    exact PySem.wpAny_pyNext_items_end_raw (I.ok.hd hc) he hr (by omega) fun h' eb => ⟨rfl, I.turned (t' := s.toks) (fun b ob hb e => eb b ob hb e) f0 f1 f3 f4 f5⟩
  self := fun A i s Q E st h => let ⟨_, _, e⟩ := st; PySem.W.kcp_self e h
end
def iItemsT (td : TE) : TI := fun σ H R => td σ H fun x H1 => ∃ d o kvs, x = .ref d ∧ H1 d = some (.frz o (.dT kvs)) ∧ R (Itit d o kvs) H1
theorem pi_itemsT {X : Cx} {e : Expr} {td : TE} {apos cpos : Pos} {elts : List Expr} {kk : Nat} {tpos : Pos} (he : PE X e td) (hbase : attributeBase e "items" X.env (eval e X.env) = eval e X.env := by rfl) (hline : (apos.endLine == cpos.line) = true := by rfl) :
    PI X (.Tuple elts kk tpos) (.Call (.Attribute e "items" apos) [] [] cpos) (iItemsT td) := by
  refine ⟨fun pins s σ H R I h => ?_⟩
  refine wpAny_Call_method (T := "dict") (id := "dict.items") hbase rfl hline F.plainAttrs_dict F.slot_dict_items F.type_dict_items (thn (he.run pins s σ H _ I h) fun u s1 ⟨x, H1, I1, rx, d, o, kvs, ex, hd, q⟩ => ?_)
  subst ex
  obtain rfl : u = Value.ref d := rx
  obtain ⟨hs, es, ep, hdt, hsz, hr0, hr, ent⟩ := frzTv I1 hd
  refine ⟨hr0.typeIs, fun b eb => ?_, ?_⟩
  · obtain ⟨o', ho', hx', _⟩ := hr0
    cases eb
    exact ⟨o', ho', hx'.2.1⟩
  have I2 : Inv X pins σ H1 { s1 with heap := s1.heap.push { cls := .type "dict_items", data := .fields #[.ref d] } } := I1.kept (t' := s1.toks) fun b ob q => Heap.get?_push_of_some _ q
  show wpAny _ _ (callWith cpos (.builtin "dict.items") [.ref d] [] []) _ X.xe s1
  refine method_meetsIn F.slot_dict_items F.entry_dict_items rfl (PySem.evalArgs_none ⟨rfl, hr0.typeIs, F.args_dict_items_1 _, _, DT.meetsItems (es := es) (ep := ep) hs, hr0, ?_⟩)
  refine DT.iterI (d := d) ⟨_, Heap.get?_push_size _ rfl, rfl, rfl⟩ (hr0.push _) (pi_one (tk := s1.toks) I2 _ (turn_itemsT _ hdt) ⟨.none, .none, ?_⟩ q)
  rw [← hsz]
  exact Heap.get?_push_size _ rfl
/-- what it yields -/
def YItT (kvs : List (List Key × V)) : Nat → Hp → V → Hp → Prop := fun i H x H' => ∃ (T : Addr) (k : List Key) (v : V) (q : Addr), kvs[i]? = some (k, v) ∧ x = .ref T ∧ H T = none ∧ H q = some (.tup (k.map kV)) ∧ H' = upd H T (.tup [.ref q, v])
theorem walk_itemsT {d : Addr} {o : Obj} {kvs : List (List Key × V)} : Walk (Itit d o kvs) kvs.length (fun H => H d = some (.frz o (.dT kvs))) (YItT kvs) :=
  ⟨fun _ _ hi q => ⟨q, hi⟩, fun _ q => ⟨q, Nat.le_refl _⟩, fun _ _ _ _ _ _ y => y⟩

/-! ### enumerate(tuple) -/
def IteT (K : PySem.W.Frag) (a : Addr) : It :=
  ⟨fun i H => ∃ (xs : List V) (x : V), SqT K H a xs ∧ xs[i]? = some x, fun i H v H' => ∃ T x, v = .ref T ∧ H T = none ∧ H' = upd H T (.tup [.int (i : Nat), x]) ∧ ∀ xs, SqT K H a xs → xs[i]? = some x, fun i H => ∃ xs : List V, SqT K H a xs ∧ xs.length ≤ i⟩
/-- a tuple's iterator, drawn by an enumerate -/
theorem drawsT {prog : Program} {w : World} {A : Around} (hh : A.handled = none) (it l : Addr) (hne : l ≠ it) (items : Array Value) :
    Draws prog w A it [it, l] items.size (fun i v => items[i]? = some v) (fun i h => h.IsTupleIter it l i ∧ h.IsTuple l items) where
  live := fun _ _ st => let ⟨o, ho, _⟩ := st.1; ⟨o, ho⟩
  frame := fun _ _ _ st hk => ⟨st.1.at fun o e => hk it (by simp) o e, st.2.at fun o e => hk l (by simp) o e⟩
  item := fun i s Q E hi st hQ => by
    refine RZ.nextOf_tuple_item st.1 st.2 (x := items[i]) (by simp [hi]) fun h' hit' hs' => ?_
    exact hQ _ h' s.toks (by simp [hi]) ⟨hit', st.2.extBut hs'.extBut hne⟩ hs'
  done := fun s Q E st hE => RZ.nextOf_tuple_end hh st.1 st.2 (by simp) hE
theorem turn_enumT {P : Program} {w : World} {K : PySem.W.Frag} {elts : List Expr} {kk : Nat} {tpos : Pos} (a e it : Addr) :
    Turn P w K (.Tuple elts kk tpos) (IteT K a) [e, it] e (fun i h => (∃ old, IsEnum h e it ((i : Nat) : Int) old) ∧ h.IsTupleIter it a i ∧ e ≠ it ∧ a ≠ it ∧ a ≠ e) where
  mem := by simp
  obj := fun i h st b hb => by
    obtain ⟨⟨old, he⟩, ⟨o, ho, hc, hd⟩, _⟩ := st
    have e' : b = e ∨ b = it := by simpa using hb
    rcases e' with z | z
    · rw [z]; exact ⟨_, he, fun v q => nomatch q⟩
    · rw [z]; exact ⟨o, ho, fun v q => by rw [hd] at q; cases q⟩
  keep := fun i h h' st k => let ⟨⟨old, he⟩, hi, hne⟩ := st; ⟨⟨old, k e (by simp) _ he⟩, hi.at fun o q => k it (by simp) o q, hne⟩
  item := by
    intro X hP hw hK hc i pins s σ H E I hf st hg
    subst hP hw hK
    obtain ⟨⟨old, he⟩, hit, hne, ha1, ha2⟩ := st
    obtain ⟨xs, x, hq, hx⟩ := hg
    obtain ⟨its, rv, p, hz⟩ := I.tuple hq
    obtain ⟨u, hu, ru⟩ := rv.get hx
    have hel : e < s.heap.objs.size := Heap.lt_size he
    have hil : it < s.heap.objs.size := by obtain ⟨_, q, _⟩ := hit; exact Heap.lt_size q
    have hi : i < its.toArray.size := by
      have := (List.getElem?_eq_some_iff.mp hu).1
      simpa using this
    refine wpAny_pyNext_enum_itemD (drawsT (prog := X.prog) (w := X.w) (A := X.A.in1) (I.ok.hd hc) it a ha1 its.toArray) he ⟨hit, p⟩ hi hne (by simp [hne, Ne.symm ha2]) fun x' h' tk hx' ho hit' hT hsz hk => ?_
    have ex : x' = u := by
      have hx' : its.toArray[i]? = some x' := hx'
      have : its.toArray[i]? = some u := by simpa using hu
      rw [this] at hx'
      exact (Option.some.inj hx').symm
    subst ex
    refine ⟨_, rfl, wpAny_letOwnedTupleGo_enum (s := { s with heap := h', toks := tk + 1 }) ho fun h'' he' sb => ?_⟩
    have hT2 : h''.get? s.heap.objs.size = some { cls := .type "tuple", data := .seq #[.int i tk, x'] } := (sb.2 _ (Nat.ne_of_gt hel)).trans hT
    have new : ObjOk X.prog X.w (upd H s.heap.objs.size (.tup [.int (i : Nat), x])) h'' s.heap.objs.size (.tup [.int (i : Nat), x]) :=
      ⟨by show 2 ≤ sizeLine; decide, [.int i tk, x'], .cons ⟨_, rfl⟩ (.cons ru .nil), ⟨_, hT2, rfl, _, rfl⟩⟩
    have I1 : Inv X pins σ (upd H s.heap.objs.size (.tup [.int (i : Nat), x])) { s with heap := h'', toks := tk + 1 } :=
      I.turnedNew (ch := [e, it]) (fun b ob hb q => (sb.2 b (fun z => hb (by simp [z]))).trans (hk b ob (fun z => hb (by simp [z])) (fun z => hb (by simp [z])) q)) hf (Nat.le_refl _) new
    refine ⟨.ref s.heap.objs.size, _, I1, rfl, ⟨_, x, rfl, I.hok.fresh (Nat.le_refl _), rfl, fun ys hy => by rw [I.tuple_inj hy hq]; exact hx⟩, ⟨⟨x', ?_⟩, hit'.1.at fun o q => (sb.2 it (Ne.symm hne)).trans q, hne, ha1, ha2⟩, fun b hb => ?_⟩
    · have e1 : ((i + 1 : Nat) : Int) = (i : Int) + 1 := by omega
      rw [e1]; exact he'
    · have hb' : b < s.heap.objs.size := by
        have e' : b = e ∨ b = it := by simpa using hb
        rcases e' with z | z
        · rw [z]; exact hel
        · rw [z]; exact hil
      rw [upd_ne (Nat.ne_of_lt hb')]
      exact (hf b hb).1
  done := by
    intro X hP hw hK hc i pins s σ H E I hf st hg
    subst hP hw hK
    obtain ⟨⟨old, he⟩, hit, hne, ha1, ha2⟩ := st
    obtain ⟨xs, hq, hx⟩ := hg
    obtain ⟨its, rv, p, hz⟩ := I.tuple hq
    obtain ⟨f0, f1, f2, f3, f4, f5⟩ := hf it (by simp)
    have hl := rv.length
    have hT : s.TypeIs (.ref e) "enumerate" := ⟨_, he, rfl⟩
    unfold pyNext
    refine wpAny_bind (wpAny_attempt (wpAny_callSpecial?_slot (name := Str.ofString "__next__") hT F.slot_enumerate_next
      (wpAny_call_entry F.slot_enumerate_next hT F.entry_enumerate_next ?_ (F.args_enumerate_next_1 _))))
    show wpAny _ _ (field (.ref e) 2 >>= _) _ _ _
    refine wpAny_bind (wpAny_field he rfl (x := .ref it) rfl ?_)
    refine wpAny_bind (RZ.nextOf_tuple_end (I.ok.hd hc) hit p (by simp; omega) fun h' x he' hx' => ?_)
    obtain ⟨o, ho, hc⟩ := hx'
    refine wpAny_bind (wpAny_isInstance (T := "StopIteration") (b := true) ⟨o, ho, hc⟩ isSubtype_stop ?_)
    exact wpAny_pure ⟨rfl, I.turned (t' := s.toks) (fun b o hb q => he' b o hb q) f0 f1 f3 f4 f5⟩
  self := fun A i s Q E st h => let ⟨⟨_, he⟩, _⟩ := st; wpAny_pyIter_enum he h
set_option maxHeartbeats 1000000 in
theorem meets_enumT {v : Value} {o : Obj} {G : Heap → Prop} (B : Begins v o G) :
    Meets (Builtin.«enumerate.__new__» ⟨[.type "enumerate", v], []⟩) (fun _ R s => G s.heap ∧
      R (.ok (.ret (.ref (s.heap.push o).objs.size))) { s with heap := (s.heap.push o).push { cls := .type "enumerate", data := .fields #[.none, .bool false, .ref s.heap.objs.size, rawInt 0, .none, .none] } }) :=
  .of_wp fun prog w A R s h => by
    obtain ⟨hp, g, d, tk, os⟩ := s; obtain ⟨h1, h⟩ := h
    have hsub := sub_enumerate
    have q1 : ∀ {A' : Around} {E : Value → Shared → Prop} {Q : Value → Shared → Prop}, Q (.ref hp.objs.size) ⟨hp.push o, g, d, tk, os⟩ → wpAny (model prog w) A' (pyIter v) Q E ⟨hp, g, d, tk, os⟩ :=
      fun q => B.iter prog w _ _ ⟨hp, g, d, tk, os⟩ _ h1 q
    wp_walk using q1
    refine wpAny_stack_any fun st => wpAny_pure ?_
    split
    · rename_i c _ _ _ _ _
      cases (c == Value.type "enumerate")
      · wp_walk using q1
        exact ⟨_, rfl, h⟩
      · wp_walk using q1
        exact ⟨_, rfl, h⟩
    · wp_walk using q1
      exact ⟨_, rfl, h⟩
theorem call_enumT {prog : Program} {w : World} {A : Around} {E : Value → Shared → Prop} {s : Shared} {v : Value} {o : Obj} {G : Heap → Prop} {Q : Value → Shared → Prop} (B : Begins v o G) (h1 : G s.heap)
    (h : ∀ h', IsEnum h' (s.heap.objs.size + 1) s.heap.objs.size 0 .none → h'.get? s.heap.objs.size = some o → h'.objs.size = s.heap.objs.size + 2 →
      (∀ b o, s.heap.get? b = some o → h'.get? b = some o) → Q (.ref (s.heap.objs.size + 1)) { s with heap := h' }) :
    wpAny (model prog w) A (call (.type "enumerate") [v]) Q E s := by
  refine callType_new F.called_enumerate (by decide) (F.typeCall_enumerate_1 _) (F.newCall_enumerate_1 _) (fun obj => F.args_object_init_2 obj _) F.entry_enumerate_new
    (meets_enumT B) ⟨h1, ?_⟩
  have hz : (s.heap.push o).objs.size = s.heap.objs.size + 1 := Heap.size_push ..
  show _ ∧ _
  rw [hz]
  have he : IsEnum ((s.heap.push o).push { cls := .type "enumerate", data := .fields #[.none, .bool false, .ref s.heap.objs.size, rawInt 0, .none, .none] }) (s.heap.objs.size + 1) s.heap.objs.size 0 .none := by
    have := Heap.get?_push_size (s.heap.push o) (o := { cls := .type "enumerate", data := .fields #[.none, .bool false, .ref s.heap.objs.size, rawInt 0, .none, .none] }) rfl
    rw [hz] at this; exact this
  refine ⟨⟨_, he, rfl⟩, h _ he (Heap.get?_push_of_some _ (Heap.get?_push_size _ B.free)) (by rw [Heap.size_push, hz]) fun b o x => Heap.get?_push_of_some _ (Heap.get?_push_of_some _ x)⟩
def iEnumT (K : PySem.W.Frag) (ta : TA) : TI := fun σ H R => ta σ H fun vs H1 => ∃ a xs, vs = [.ref a] ∧ SqT K H1 a xs ∧ R (IteT K a) H1
theorem pi_enumT {X : Cx} {e : Expr} {ta : TA} {p pos tpos : Pos} {elts : List Expr} {kk : Nat} (hg : Gl X "enumerate") (hm : X.mg "enumerate" = none) (ha : PA X [e] ta) (hs : starEach [e] X.env = [(false, eval e X.env)] := by rfl) :
    PI X (.Tuple elts kk tpos) (.Call (.Name "enumerate" p) [e] [] pos) (iEnumT X.K ta) := by
  refine ⟨fun pins s σ H R I h => ?_⟩
  refine Call_ (ld_blt I hg hm boot_enumerate (PyProof.Rows.callWith_type1 (thn (ha.run pos pins s σ H _ I h) fun us s1 ⟨vs, H1, I1, r1, q1⟩ => ?_) hs rfl))
  obtain ⟨a, xs, ex, hq, q⟩ := q1
  subst ex
  cases r1 with
  | cons r rr =>
    cases rr
    cases r
    obtain ⟨its, rv, p', hz⟩ := I1.tuple hq
    have hal : a < s1.heap.objs.size := p'.lt
    refine call_enumT (begins_tuple a its.toArray) p' fun h' he hit hsz hk => wpAny_pyIter_enum he ?_
    have I2 : Inv X pins σ H1 { s1 with heap := h' } := I1.kept (t' := s1.toks) hk
    refine ⟨s1.heap.objs.size + 1, [s1.heap.objs.size + 1, s1.heap.objs.size], _, _, H1, rfl, I2, turn_enumT a (s1.heap.objs.size + 1) s1.heap.objs.size, ⟨⟨.none, he⟩, ⟨_, hit, rfl, rfl⟩, Nat.succ_ne_self _, Nat.ne_of_lt hal, Nat.ne_of_lt (Nat.lt_succ_of_lt hal)⟩, fun b hb => ?_, q⟩
    have e' : b = s1.heap.objs.size + 1 ∨ b = s1.heap.objs.size := by simpa using hb
    have hle : s1.heap.objs.size ≤ b := by
      rcases e' with z | z
      · rw [z]; exact Nat.le_add_right _ _
      · rw [z]; exact Nat.le_refl _
    exact I1.fpOk hle (I1.hok.fresh hle)
theorem walk_enumT {K : PySem.W.Frag} {a : Addr} {xs : List V} : Walk (IteT K a) xs.length (fun H => SqT K H a xs) (YPair (fun i => some (.int (i : Nat))) (fun i => xs[i]?)) := by
  refine ⟨fun i _ hi q => ⟨xs, xs[i], q, by simp [hi]⟩, fun _ q => ⟨xs, q, Nat.le_refl _⟩, fun i H v H' _ q y => ?_⟩
  obtain ⟨T, x, h1, h2, h3, h4⟩ := y
  exact ⟨T, .int (i : Nat), x, h1, h2, h3, rfl, h4 xs q⟩
end TgI
/-! TgMaxKey -/
set_option Elab.async false
set_option linter.all false
set_option maxRecDepth 100000
set_option maxHeartbeats 4000000
/-! max(list, key=a lambda without captured names that gives an int and leaves the heap) -/
namespace TgL
open PySem PySem.Spec PyProof.Rows L2 LamX NdefX
theorem mxk_key (a v : Value) : argsOk "max" ⟨[a], [(Str.ofString "key", v)]⟩ := by unfold argsOk; kernel_rfl
section
variable {X : Cx} {pins : List (Addr × Obj)} {σ : L2.St} {H : Hp}
/-- run_lam, one C level down -/
theorem run_lam1 {s : Shared} {f : Addr} {L : LF} {k : Nat} {ps : List Str} {sp : List (Option V) → Sp} {us : List Value} {vs : List V} {Q : VK} (I : Inv X pins σ H s) (hr : Room (k + 1) X.A) (h1 : H f = some (LamO f L)) (h2 : H L.c = some (CodeO L.c L.qual)) (ok : LOk X.prog X.w X.K X.mg X.base k L ps [] sp) (r : Vals vs us)
    (hcl : L.cl = []) (q : sp [] vs H Q E0) :
    wpAny (model X.prog X.w) X.A.in1 (call (.ref f) us) (EP X pins σ Q) (fun _ _ => False) s := by
  obtain ⟨⟨pm, ctv, ho⟩, _, _⟩ := I.hok f _ h1
  obtain ⟨⟨oc, fvs, ft, hoc, hdc, _⟩, _, _⟩ := I.hok L.c _ h2
  refine wpAny_call (codeAny_mono (ok.run X.A.in1 X.stack s H f us vs [] Q hr.in1 I.env0.in1 h1 h2 ⟨rfl, fun y c z => ?_, fun y z c a => ?_, fun i y z => by simp at z⟩ r q) fun r s' hq => ?_)
  · rw [hcl] at z
    cases z
  · rw [hcl] at a
    cases a
  · cases r with
    | error e => exact False.elim hq
    | ok fl =>
      cases fl with
      | ret u => exact I.after hq
      | next => exact False.elim hq
      | brk => exact False.elim hq
      | cont => exact False.elim hq
variable {l I S f : Addr} {xs : List V} {L : LF} {k : Nat} {ps : List Str} {sp : List (Option V) → Sp} {R : Result → Shared → Prop}
theorem fp_pins {s : Shared} {b : Addr} {o : Obj} (Iv : Inv X pins σ H s) (h : FpOk X pins H b) (e : s.heap.get? b = some o) (hd : ∀ v, o.data ≠ .cell v) : s.heap.get? b = some o ∧ H b = none ∧ b ≠ X.env.locals ∧ b ∉ X.fs ∧ ∀ v, o.data ≠ .cell v :=
  ⟨e, h.1, h.2.1, h.2.2.1, hd⟩
theorem mxk_loop (kf : Nat → Int) (hh : X.A.handled = none) (hr : Room (k + 1) X.A) (hl : SqL X.K H l xs) (h1 : H f = some (LamO f L)) (h2 : H L.c = some (CodeO L.c L.qual)) (ok : LOk X.prog X.w X.K X.mg X.base k L ps [] sp) (hcl : L.cl = [])
    (turn : ∀ i x, xs[i]? = some x → sp [] [x] H (fun u H' => u = .int (kf i) ∧ H' = H) E0) (fS : FpOk X pins H S) (fI : FpOk X pins H I) (hSI : S ≠ I)
    (hR : ∀ i x v s', xs[i]? = some x → RelV x v → (∀ j, j < xs.length → kf j ≤ kf i ∧ (j < i → kf j < kf i)) → Inv X pins σ H s' → R (.ok (.ret v)) s') :
    ∀ (r j i : Nat) (s : Shared) (xb : V) (vb : Value) (tb : Tok) (c : Nat), xs.length - (j + 1) = r → j + 1 ≤ xs.length → Inv X pins σ H s →
      s.heap.get? S = some (seqObj "list" #[vb, .int (kf i) tb] c) → s.heap.IsListIter I l (j + 1) → xs[i]? = some xb → RelV xb vb → i ≤ j → (∀ j', j' ≤ j → kf j' ≤ kf i ∧ (j' < i → kf j' < kf i)) →
      codeAny (model X.prog X.w) X.A (.builtin "max.loop" ⟨[.ref I, .ref f, .ref S], []⟩) R s := by
  have hname : (toString "max" ++ toString ".loop" : String) = "max.loop" := by decide
  obtain ⟨fI0, fI1, fI2, fI3, fI4, fI5⟩ := id fI
  obtain ⟨fS0, fS1, fS2, fS3, fS4, fS5⟩ := id fS
  intro r
  induction r with
  | zero =>
    intro j i s xb vb tb c hr' hj Iv hS hit hxb rb hij hbest
    have hin : j + 1 = xs.length := by omega
    obtain ⟨its, rv, p, hz⟩ := Iv.list hl
    have hlI : l ≠ I := fun z => by
      obtain ⟨o1, n1, e1, c1, _⟩ := p
      obtain ⟨o2, e2, c2, _⟩ := hit
      rw [z, e2] at e1
      cases e1
      rw [c1] at c2
      exact absurd c2 (by decide)
    have W := Walks.list (prog := X.prog) (w := X.w) (A := X.A.in1) hh I l hlI its.toArray
    have hsz : its.toArray.size = xs.length := by rw [List.size_toArray]; exact rv.length.symm
    refine codeAny_builtin PySem.F.entry_max_loop ?_
    rw [Around.under_plainId PySem.F.plain_max_loop _]
    show wpAny _ X.A.in1 (seqItems? (.ref S) >>= _) _ _ _
    refine wpAny_bind (wpAny_seqItems hS rfl ?_)
    show wpAny _ X.A.in1 (tryCatch (pyNext (.ref I)) _ >>= _) _ _ _
    refine wpAny_bind (wpAny_tryCatch (W.done _ _ _ ⟨by rw [hsz, ← hin]; exact hit, p.isList⟩ fun h' tk' hk' => ?_))
    have I1 : Inv X pins σ H { s with heap := h', toks := tk' } := Iv.turned (it := I) (fun b o hb e => hk' b o (by simpa using hb) e) fI0 fI1 fI3 fI4 fI5
    have hS' := hk' S _ (by simpa using hSI) hS
    have s1 := Heap.SameBut.update h' S (Obj.mapSeq fun _ => (#[] : Array Value))
    have I2 : Inv X pins σ H { s with heap := h'.update S (Obj.mapSeq fun _ => (#[] : Array Value)), toks := tk' } := Inv.turned (s := { s with heap := h', toks := tk' }) (it := S) (t' := tk') I1 (fun b o hb e => (s1.2 b hb).trans e) fS0 fS1 fS3 fS4 fS5
    show wpAny _ X.A.in1 (updateSeq S (fun _ => #[]) >>= _) _ _ _
    refine wpAny_bind ?_
    refine wpAny_updateSeq hS' rfl (wpAny_bind (wpAny_letGo (wpAny_pure ?_)))
    exact hR i xb vb _ hxb rb (fun j' hj' => hbest j' (by omega)) I2
  | succ r ih =>
    intro j i s xb vb tb c hr' hj Iv hS hit hxb rb hij hbest
    have hlt : j + 1 < xs.length := by omega
    obtain ⟨its, rv, p, hz⟩ := Iv.list hl
    have hlI : l ≠ I := fun z => by
      obtain ⟨o1, n1, e1, c1, _⟩ := p
      obtain ⟨o2, e2, c2, _⟩ := hit
      rw [z, e2] at e1
      cases e1
      rw [c1] at c2
      exact absurd c2 (by decide)
    have W := Walks.list (prog := X.prog) (w := X.w) (A := X.A.in1) hh I l hlI its.toArray
    have hsz : its.toArray.size = xs.length := by rw [List.size_toArray]; exact rv.length.symm
    refine codeAny_builtin PySem.F.entry_max_loop ?_
    rw [Around.under_plainId PySem.F.plain_max_loop _]
    show wpAny _ X.A.in1 (seqItems? (.ref S) >>= _) _ _ _
    refine wpAny_bind (wpAny_seqItems hS rfl ?_)
    show wpAny _ X.A.in1 (tryCatch (pyNext (.ref I)) _ >>= _) _ _ _
    refine wpAny_bind (wpAny_tryCatch (W.item (j + 1) _ _ _ (by rw [hsz]; exact hlt) ⟨hit, p.isList⟩ fun v h' tk' hP hst' hk' => ?_))
    have hv : its[j + 1]? = some v := by simpa using hP
    obtain ⟨x, hx⟩ : ∃ x, xs[j + 1]? = some x := ⟨_, List.getElem?_eq_getElem hlt⟩
    obtain ⟨u, hu, ru⟩ := rv.get hx
    obtain rfl : v = u := Option.some.inj (hv.symm.trans hu)
    obtain ⟨oI', hoI', hoc, hod⟩ := id hst'.1
    have I1 : Inv X pins σ H { s with heap := h', toks := tk' } := Iv.turned (it := I) (fun b o hb e => hk' b o (by simpa using hb) e) fI0 fI1 fI3 fI4 fI5
    have hS1 := hk' S _ (by simpa using hSI) hS
    have I2 : Inv X ((S, seqObj "list" #[vb, .int (kf i) tb] c) :: (I, oI') :: pins) σ H { s with heap := h', toks := tk' } := I1.pins_of fun p hp => by
      rcases List.mem_cons.mp hp with rfl | hp
      · exact fp_pins I1 fS hS1 (fun v z => nomatch z)
      · rcases List.mem_cons.mp hp with rfl | hp
        · exact fp_pins I1 fI hoI' (fun v z => by rw [hod] at z; cases z)
        · exact I1.pin p (List.mem_append_right _ hp)
    show wpAny _ X.A.in1 (tryCatch (holding [v] (call (.ref f) [v])) _ >>= _) _ _ _
    refine wpAny_bind (wpAny_tryCatch (wpAny_holding (wpAny_mono (run_lam1 I2 hr h1 h2 ok (.cons ru .nil) hcl (turn (j + 1) x hx)) (fun y s'' he => ?_) fun _ _ hF => hF.elim)))
    obtain ⟨y', H2, I3, ry, ey, eH⟩ := he
    subst eH
    rw [ey] at ry
    obtain ⟨t2, rfl⟩ : ∃ t2, y = Value.int (kf (j + 1)) t2 := ry
    have pS := I3.pin (S, seqObj "list" #[vb, .int (kf i) tb] c) (List.mem_append_right _ (.head _))
    have pI := I3.pin (I, oI') (List.mem_append_right _ (.tail _ (.head _)))
    have hS2 := pS.1
    have hit2 : s''.heap.IsListIter I l (j + 1 + 1) := ⟨oI', pI.1, hoc, hod⟩
    have I4 : Inv X pins σ H2 s'' := I3.pins_of fun p hp => I3.pin p (List.mem_append_right _ (.tail _ (.tail _ hp)))
    show wpAny _ X.A.in1 (tryCatch (holding [v, .int (kf (j + 1)) t2] (richCompare .Gt (.int (kf (j + 1)) t2) (.int (kf i) tb) >>= _)) _ >>= _) _ _ _
    refine wpAny_bind (wpAny_tryCatch (wpAny_holding (wpAny_bind (CmpOf.ints_gt (prog := X.prog) (w := X.w) (A := X.A.in1) (P := fun i v => ∃ t, v = .int (kf i) t) kf (fun i v h => h) (j + 1) i _ _ _ _ _ ⟨t2, rfl⟩ ⟨tb, rfl⟩ ?_))))
    refine wpAny_bind (wpAny_holding (wpAny_truthy_bool ?_))
    refine wpAny_bind (wpAny_letGo (wpAny_pure ?_))
    by_cases hb' : kf (j + 1) > kf i
    ·
      have s1 := Heap.SameBut.update s''.heap S (Obj.mapSeq fun _ => #[v, .int (kf (j + 1)) t2])
      obtain ⟨c2, hc2⟩ : ∃ c2, (s''.heap.update S (Obj.mapSeq fun _ => #[v, .int (kf (j + 1)) t2])).get? S = some (seqObj "list" #[v, .int (kf (j + 1)) t2] c2) := ⟨_, get?_update_seq hS2 fun _ => #[v, .int (kf (j + 1)) t2]⟩
      have I5 : Inv X pins σ H2 { s'' with heap := s''.heap.update S (Obj.mapSeq fun _ => #[v, .int (kf (j + 1)) t2]) } := I4.turned (it := S) (t' := s''.toks) (fun b o hb e => (s1.2 b hb).trans e) fS0 fS1 fS3 fS4 fS5
      simp only [hb', decide_true, if_true]
      refine wpAny_bind ?_
      refine wpAny_updateSeq hS2 rfl (wpAny_bind (wpAny_letGo ?_))
      rw [hname]
      refine wpAny_pure ⟨plainId_quiet PySem.F.plain_max_loop _, ih (j + 1) (j + 1) _ x v t2 c2 (by omega) hlt I5 hc2 ⟨oI', (s1.2 I hSI.symm).trans pI.1, hoc, hod⟩ hx ru (Nat.le_refl _) fun j' hj' => ?_⟩
      by_cases e : j' = j + 1
      · subst e
        exact ⟨by omega, fun _ => by omega⟩
      · have hb1 := hbest j' (by omega)
        have hb2 := hb1.1
        exact ⟨by omega, fun _ => by omega⟩
    ·
      simp only [hb', decide_false, Bool.false_eq_true, if_false]
      refine wpAny_bind (wpAny_letGo ?_)
      rw [hname]
      refine wpAny_pure ⟨plainId_quiet PySem.F.plain_max_loop _, ih (j + 1) i _ xb vb tb c (by omega) hlt I4 hS2 hit2 hxb rb (by omega) fun j' hj' => ?_⟩
      by_cases e : j' = j + 1
      · subst e
        exact ⟨by omega, fun _ => by omega⟩
      · exact hbest j' (by omega)
/-- max(l, key=f): the first item with the greatest key -/
def rMaxKey (X : Cx) (k : Nat) : List V → List V → Hp → VK → Prop := fun vs zs H Q => ∃ (l f : Addr) (xs : List V) (L : LF) (ps : List Str) (sp : List (Option V) → Sp) (kf : Nat → Int),
  vs = [.ref l] ∧ zs = [.ref f] ∧ SqL X.K H l xs ∧ 0 < xs.length ∧ H f = some (LamO f L) ∧ H L.c = some (CodeO L.c L.qual) ∧ LOk X.prog X.w X.K X.mg X.base k L ps [] sp ∧ L.cl = [] ∧
  (∀ i x, xs[i]? = some x → sp [] [x] H (fun u H' => u = .int (kf i) ∧ H' = H) E0) ∧
  ∀ i x, xs[i]? = some x → (∀ j, j < xs.length → kf j ≤ kf i ∧ (j < i → kf j < kf i)) → Q x H
theorem cr_maxKey {k : Nat} (hc : X.calm = true) (hr : Room (k + 1) X.A) : CallRK X (.builtin "max") [Str.ofString "key"] (rMaxKey X k) := by
  intro pins s σ H vs zs us ws Q Iv r rz h
  obtain ⟨l, f, xs, L, ps, sp, kf, rfl, rfl, hl, hne, h1, h2, ok, hcl, turn, hQ⟩ := h
  obtain rfl := Vals.ref1 r
  obtain ⟨w1, rfl, e1⟩ := vals1 rz
  obtain rfl : w1 = Value.ref f := e1
  have hh : X.A.handled = none := Iv.ok.hd hc
  have hname : (toString "max" ++ toString ".loop" : String) = "max.loop" := by decide
  obtain ⟨its, rv, p, hz⟩ := Iv.list hl
  have hls := p.isList
  show wpAny (model X.prog X.w) X.A (call (.builtin "max") [.ref l] [(Str.ofString "key", .ref f)]) _ _ _
  refine kmk_tree PySem.F.kind_max PySem.F.plain_max PySem.F.entry_max (mxk_key _ _) ?_
  show wpAny _ X.A.in1 (Builtin.Builtins.bindParams "max" ["key", "default"] 0 ⟨[], [(Str.ofString "key", .ref f)]⟩ >>= _) _ _ s
  refine wpAny_bind (wpAny_of_eq (show Builtin.Builtins.bindParams "max" ["key", "default"] 0 ⟨[], [(Str.ofString "key", .ref f)]⟩ = pure [some (.ref f), none] from rfl) ?_)
  refine wpAny_bind (wpAny_pure ?_)
  refine wpAny_bind (wpAny_pyIter_list hls ?_)
  refine wpAny_bind (wpAny_newList ?_ (Nat.zero_le _))
  rw [hname]
  have hS : (s.heap.push { cls := .type "list_iterator", data := .fields #[.ref l, .int 0 0] }).objs.size = s.heap.objs.size + 1 := size_push' ..
  have hlI : l ≠ s.heap.objs.size := Nat.ne_of_lt p.lt
  have hSI : (s.heap.push { cls := .type "list_iterator", data := .fields #[.ref l, .int 0 0] }).objs.size ≠ s.heap.objs.size := by rw [hS]; exact Nat.ne_of_gt (Nat.lt_succ_self _)
  refine wpAny_pure ⟨plainId_quiet PySem.F.plain_max_loop _, ?_⟩
  have gI : ((s.heap.push { cls := .type "list_iterator", data := .fields #[.ref l, .int 0 0] }).push (seqObj "list" #[] 0)).get? s.heap.objs.size = some { cls := .type "list_iterator", data := .fields #[.ref l, .int 0 0] } :=
    Heap.get?_push_of_some _ (Heap.get?_push_size _ rfl)
  have gS : ((s.heap.push { cls := .type "list_iterator", data := .fields #[.ref l, .int 0 0] }).push (seqObj "list" #[] 0)).get? (s.heap.push { cls := .type "list_iterator", data := .fields #[.ref l, .int 0 0] }).objs.size = some (seqObj "list" #[] 0) := Heap.get?_push_size _ rfl
  have fI : FpOk X pins H s.heap.objs.size := Iv.fpOk (Nat.le_refl _) (Iv.hok.fresh (Nat.le_refl _))
  have fS : FpOk X pins H (s.heap.push { cls := .type "list_iterator", data := .fields #[.ref l, .int 0 0] }).objs.size := by
    rw [hS]
    exact Iv.fpOk (Nat.le_succ _) (Iv.hok.fresh (Nat.le_succ _))
  obtain ⟨fI0, fI1, fI2, fI3, fI4, fI5⟩ := id fI
  obtain ⟨fS0, fS1, fS2, fS3, fS4, fS5⟩ := id fS
  have I0 : Inv X pins σ H { s with heap := (s.heap.push { cls := .type "list_iterator", data := .fields #[.ref l, .int 0 0] }).push (seqObj "list" #[] 0) } := Iv.kept (t' := s.toks) fun b o e => Heap.get?_push_of_some _ (Heap.get?_push_of_some _ e)
  obtain ⟨its, rv, p, hz⟩ := I0.list hl
  have W := Walks.list (prog := X.prog) (w := X.w) (A := X.A.in1) hh s.heap.objs.size l hlI its.toArray
  have hsz : its.toArray.size = xs.length := by rw [List.size_toArray]; exact rv.length.symm
  refine codeAny_builtin PySem.F.entry_max_loop ?_
  rw [Around.under_plainId PySem.F.plain_max_loop _]
  show wpAny _ X.A.in1 (seqItems? (.ref _) >>= _) _ _ _
  refine wpAny_bind (wpAny_seqItems gS rfl ?_)
  show wpAny _ X.A.in1 (tryCatch (pyNext (.ref s.heap.objs.size)) _ >>= _) _ _ _
  refine wpAny_bind (wpAny_tryCatch (W.item 0 _ _ _ (by rw [hsz]; exact hne) ⟨⟨_, gI, rfl, rfl⟩, p.isList⟩ fun v h' tk' hP hst' hk' => ?_))
  have hv : its[0]? = some v := by simpa using hP
  obtain ⟨x, hx⟩ : ∃ x, xs[0]? = some x := ⟨_, List.getElem?_eq_getElem hne⟩
  obtain ⟨u, hu, ru⟩ := rv.get hx
  obtain rfl : v = u := Option.some.inj (hv.symm.trans hu)
  obtain ⟨oI', hoI', hoc, hod⟩ := id hst'.1
  have I1 : Inv X pins σ H { s with heap := h', toks := tk' } := Inv.turned (s := { s with heap := (s.heap.push { cls := .type "list_iterator", data := .fields #[.ref l, .int 0 0] }).push (seqObj "list" #[] 0) }) (it := s.heap.objs.size) (t' := tk') I0 (fun b o hb e => hk' b o (by simpa using hb) e) fI0 fI1 fI3 fI4 fI5
  have hS1 := hk' _ _ (by simpa using hSI) gS
  have I2 : Inv X (((s.heap.push { cls := .type "list_iterator", data := .fields #[.ref l, .int 0 0] }).objs.size, seqObj "list" #[] 0) :: (s.heap.objs.size, oI') :: pins) σ H { s with heap := h', toks := tk' } := I1.pins_of fun p hp => by
    rcases List.mem_cons.mp hp with rfl | hp
    · exact fp_pins I1 fS hS1 (fun v z => nomatch z)
    · rcases List.mem_cons.mp hp with rfl | hp
      · exact fp_pins I1 fI hoI' (fun v z => by rw [hod] at z; cases z)
      · exact I1.pin p (List.mem_append_right _ hp)
  show wpAny _ X.A.in1 (tryCatch (holding [v] (call (.ref f) [v])) _ >>= _) _ _ _
  refine wpAny_bind (wpAny_tryCatch (wpAny_holding (wpAny_mono (run_lam1 I2 hr h1 h2 ok (.cons ru .nil) hcl (turn 0 x hx)) (fun y s'' he => ?_) fun _ _ hF => hF.elim)))
  obtain ⟨y', H2, I3, ry, ey, eH⟩ := he
  subst eH
  rw [ey] at ry
  obtain ⟨t2, rfl⟩ : ∃ t2, y = Value.int (kf 0) t2 := ry
  have pS := I3.pin (_, seqObj "list" #[] 0) (List.mem_append_right _ (.head _))
  have pI := I3.pin (_, oI') (List.mem_append_right _ (.tail _ (.head _)))
  have hS2 := pS.1
  have I4 : Inv X pins σ H2 s'' := I3.pins_of fun p hp => I3.pin p (List.mem_append_right _ (.tail _ (.tail _ hp)))
  have s1 := Heap.SameBut.update s''.heap (s.heap.push { cls := .type "list_iterator", data := .fields #[.ref l, .int 0 0] }).objs.size (Obj.mapSeq fun _ => #[v, .int (kf 0) t2])
  obtain ⟨c2, hc2⟩ : ∃ c2, (s''.heap.update (s.heap.push { cls := .type "list_iterator", data := .fields #[.ref l, .int 0 0] }).objs.size (Obj.mapSeq fun _ => #[v, .int (kf 0) t2])).get? (s.heap.push { cls := .type "list_iterator", data := .fields #[.ref l, .int 0 0] }).objs.size = some (seqObj "list" #[v, .int (kf 0) t2] c2) := ⟨_, get?_update_seq hS2 fun _ => #[v, .int (kf 0) t2]⟩
  have I5 : Inv X pins σ H2 { s'' with heap := s''.heap.update (s.heap.push { cls := .type "list_iterator", data := .fields #[.ref l, .int 0 0] }).objs.size (Obj.mapSeq fun _ => #[v, .int (kf 0) t2]) } := I4.turned (t' := s''.toks) (fun b o hb e => (s1.2 b hb).trans e) fS0 fS1 fS3 fS4 fS5
  show wpAny _ _ (updateSeq (s.heap.push { cls := .type "list_iterator", data := .fields #[.ref l, .int 0 0] }).objs.size (fun _ => #[v, .int (kf 0) t2]) >>= _) _ _ _
  refine wpAny_bind ?_
  refine wpAny_updateSeq hS2 rfl ?_
  rw [hname]
  refine wpAny_pure ⟨plainId_quiet PySem.F.plain_max_loop _, mxk_loop kf hh hr hl h1 h2 ok hcl turn fS fI hSI (fun i x v s' hx rx hb I' => ⟨x, _, I', rx, hQ i x hx hb⟩) _ 0 0 _ x v t2 c2 rfl hne I5 hc2 ⟨oI', (s1.2 _ hSI.symm).trans pI.1, hoc, hod⟩ hx ru (Nat.le_refl _) fun j' hj' => ?_⟩
  have e : j' = 0 := by omega
  subst e
  exact ⟨by omega, fun h => absurd h (Nat.lt_irrefl _)⟩
end
end TgL
/-! TgZip -/
set_option Elab.async false
set_option linter.all false
set_option maxRecDepth 100000
set_option maxHeartbeats 4000000
/-! zip(t, u, strict=True) of two tuples of one length -/
namespace TgZ
open PySem PySem.Spec PyProof.Rows L2 RZ
/-- the record of a strict zip -/
abbrev IsZipS (h : Heap) (z TI TO : Addr) (f0 : Value) : Prop :=
  h.get? z = some { cls := .type "zip", dict := none, data := .fields #[f0, .bool false, .bool true, .ref TI, .ref TO], slots := #[] }
section
variable {prog : Program} {w : World} {A : Around} {E : Value → Shared → Prop} {s : Shared}
theorem nextOrEnd_item {it l : Addr} {i : Nat} {items} {x : Value} {Q : Option Value → Shared → Prop} (hit : s.heap.IsTupleIter it l i)
    (hl : s.heap.IsTuple l items) (hx : items[i]? = some x)
    (hQ : ∀ h', h'.IsTupleIter it l (i + 1) → Heap.SameBut it s.heap h' → Q (some x) { s with heap := h' }) :
    wpAny (model prog w) A (Builtin.SmallTypes.nextOrEnd (.ref it)) Q E s := by
  unfold Builtin.SmallTypes.nextOrEnd
  exact wpAny_bind (wpAny_attempt (nextOf_tuple_item hit hl hx fun h' a b => wpAny_pure (hQ h' a b)))
theorem nextOrEnd_end {it l : Addr} {i : Nat} {items} {Q : Option Value → Shared → Prop} (hh : A.handled = none)
    (hit : s.heap.IsTupleIter it l i) (hl : s.heap.IsTuple l items) (hx : items[i]? = none)
    (hE : ∀ h', Heap.ExtBut it s.heap h' → Q none { s with heap := h' }) :
    wpAny (model prog w) A (Builtin.SmallTypes.nextOrEnd (.ref it)) Q E s := by
  unfold Builtin.SmallTypes.nextOrEnd
  refine wpAny_bind (wpAny_attempt (nextOf_tuple_end hh hit hl hx fun h' e hs he => ?_))
  obtain ⟨o, ho, hc⟩ := he
  refine wpAny_bind (wpAny_isInstance (T := "StopIteration") (b := true) ⟨o, ho, hc⟩ isSubtype_stop ?_)
  exact wpAny_pure (hE h' hs)

theorem zipS_next_item {z TI TO i1 i2 l1 l2 : Addr} {k1 k2 : Nat} {xs ys : Array Value} {x y a b : Value} {Q : Value → Shared → Prop} (D : ZipApart z TI TO i1 i2 l1 l2)
    (hz : IsZipS s.heap z TI TO .none) (hTI : IsPair s.heap TI (.ref i1) (.ref i2)) (hTO : IsPair s.heap TO a b)
    (h1 : s.heap.IsTupleIter i1 l1 k1) (h2 : s.heap.IsTupleIter i2 l2 k2) (hl1 : s.heap.IsTuple l1 xs) (hl2 : s.heap.IsTuple l2 ys) (hx : xs[k1]? = some x) (hy : ys[k2]? = some y)
    (hQ : ∀ h', IsZipS h' z TI TO (rawInt s.heap.objs.size) → IsPair h' TO x y → h'.IsTupleIter i1 l1 (k1 + 1) → h'.IsTupleIter i2 l2 (k2 + 1) → IsPair h' s.heap.objs.size x y → h'.objs.size = s.heap.objs.size + 1 →
      (∀ c o, c ≠ z → c ≠ TO → c ≠ i1 → c ≠ i2 → s.heap.get? c = some o → h'.get? c = some o) → Q (.ref s.heap.objs.size) { s with heap := h' }) :
    wpAny (model prog w) A (Builtin.«zip.__next__» ⟨[.ref z], []⟩) (fun fin s' => ∃ v, fin = .done (.ret v) ∧ Q v s') E s := by
  show wpAny _ _ (field (.ref z) 2 >>= _) _ _ _
  refine wpAny_bind (wpAny_field hz rfl (x := .bool true) rfl ?_)
  show wpAny _ _ (field (.ref z) 3 >>= _) _ _ _
  refine wpAny_bind (wpAny_field hz rfl (x := .ref TI) rfl ?_)
  refine wpAny_bind (wpAny_seqItems hTI rfl ?_)
  show wpAny _ _ (Builtin.SmallTypes.ownedTupleIsFree (.ref z) >>= _) _ _ _
  refine wpAny_bind ?_
  unfold Builtin.SmallTypes.ownedTupleIsFree
  refine wpAny_bind (wpAny_field hz rfl (x := .none) rfl (wpAny_pure ?_))
  simp only [if_true]
  refine wpAny_bind (wpAny_rule ?_)
  refine wpAny_bind (wpAny_field hz rfl (x := .ref TO) rfl ?_)
  refine wpAny_bind (wpAny_setField_rec hz (by simp) fun h₁ hz₁ hs₁ => ?_)
  replace hz₁ : IsZipS h₁ z TI TO .ellipsis := hz₁
  refine wpAny_bind ?_
  simp only [List.zipIdx_cons, List.zipIdx_nil, List.forIn_cons, List.forIn_nil]
  refine wpAny_bind (wpAny_bind (wpAny_onRaise ?_))
  show wpAny _ _ (Builtin.SmallTypes.nextOrEnd (.ref i1)) _ _ _
  refine nextOrEnd_item (h1.extBut hs₁.extBut D.i1z) (hl1.extBut hs₁.extBut D.l1z) hx fun h₂ h1₂ hs₂ => ?_
  have hTO₂ : IsPair h₂ TO a b := hs₂.extBut _ _ D.TOi1 (hs₁.extBut _ _ D.TOz hTO)
  refine wpAny_bind (wpAny_seqItems hTO₂ rfl ?_)
  refine wpAny_bind (wpAny_updateSeq_pair hTO₂ fun h₃ hTO₃ hs₃ => ?_)
  replace hTO₃ : IsPair h₃ TO x b := hTO₃
  refine wpAny_bind (wpAny_letGo (wpAny_pure ?_))
  refine wpAny_bind (wpAny_bind (wpAny_onRaise ?_))
  show wpAny _ _ (Builtin.SmallTypes.nextOrEnd (.ref i2)) _ _ _
  refine nextOrEnd_item (((h2.extBut hs₁.extBut D.i2z).extBut hs₂.extBut D.i12.symm).extBut hs₃.extBut D.TOi2.symm)
    (((hl2.extBut hs₁.extBut D.l2z).extBut hs₂.extBut D.l2i1).extBut hs₃.extBut D.l2TO) hy fun h₄ h2₄ hs₄ => ?_
  have hTO₄ : IsPair h₄ TO x b := hs₄.extBut _ _ D.TOi2 hTO₃
  refine wpAny_bind (wpAny_seqItems hTO₄ rfl ?_)
  refine wpAny_bind (wpAny_updateSeq_pair hTO₄ fun h₅ hTO₅ hs₅ => ?_)
  replace hTO₅ : IsPair h₅ TO x y := hTO₅
  refine wpAny_bind (wpAny_letGo (wpAny_pure (wpAny_pure ?_)))
  refine wpAny_bind (wpAny_seqItems hTO₅ rfl ?_)
  refine wpAny_bind (wpAny_newTuple ?_)
  have hsz : h₅.objs.size = s.heap.objs.size := by rw [hs₅.1, hs₄.1, hs₃.1, hs₂.1, hs₁.1]
  have hz₅ : IsZipS h₅ z TI TO .ellipsis := hs₅.extBut _ _ D.TOz.symm (hs₄.extBut _ _ D.i2z.symm (hs₃.extBut _ _ D.TOz.symm (hs₂.extBut _ _ D.i1z.symm hz₁)))
  have hk₅ : ∀ c o, c ≠ z → c ≠ TO → c ≠ i1 → c ≠ i2 → s.heap.get? c = some o → h₅.get? c = some o := fun c o c1 c2 c3 c4 e =>
    hs₅.extBut _ _ c2 (hs₄.extBut _ _ c4 (hs₃.extBut _ _ c2 (hs₂.extBut _ _ c3 (hs₁.extBut _ _ c1 e))))
  have h1₅ : h₅.IsTupleIter i1 l1 (k1 + 1) := ((h1₂.extBut hs₃.extBut D.TOi1.symm).extBut hs₄.extBut D.i12).extBut hs₅.extBut D.TOi1.symm
  have h2₅ : h₅.IsTupleIter i2 l2 (k2 + 1) := h2₄.extBut hs₅.extBut D.TOi2.symm
  have hzlt : z < h₅.objs.size := Heap.lt_size hz₅
  show wpAny _ _ (Builtin.SmallTypes.ownedTupleHandOut (.ref z) (.ref h₅.objs.size) >>= _) _ _ _
  refine wpAny_bind ?_
  unfold Builtin.SmallTypes.ownedTupleHandOut
  have hz₆ : IsZipS (h₅.push { cls := .type "tuple", data := .seq #[x, y] }) z TI TO .ellipsis := Heap.get?_push_of_some _ hz₅
  refine wpAny_bind (wpAny_setField_rec hz₆ (by simp) fun h₇ hz₇ hs₇ => ?_)
  replace hz₇ : IsZipS h₇ z TI TO (rawInt h₅.objs.size) := hz₇
  refine wpAny_setField_rec hz₇ (by simp) fun h₈ hz₈ hs₈ => ?_
  replace hz₈ : IsZipS h₈ z TI TO (rawInt h₅.objs.size) := hz₈
  have up : ∀ c o, c ≠ z → h₅.get? c = some o → h₈.get? c = some o := fun c o c1 e => hs₈.extBut _ _ c1 (hs₇.extBut _ _ c1 (Heap.get?_push_of_some _ e))
  have hT₈ : IsPair h₈ h₅.objs.size x y := hs₈.extBut _ _ (Nat.ne_of_gt hzlt) (hs₇.extBut _ _ (Nat.ne_of_gt hzlt) (Heap.get?_push_size _ rfl))
  have hz8 : h₈.objs.size = h₅.objs.size + 1 := by rw [hs₈.1, hs₇.1, Heap.size_push]
  rw [hsz] at hz₈ hT₈ hz8
  refine wpAny_pure ⟨_, rfl, ?_⟩
  show Q (.ref h₅.objs.size) _
  rw [hsz]
  exact hQ h₈ hz₈ (up _ _ D.TOz hTO₅) (h1₅.at fun o e => up _ o D.i1z e) (h2₅.at fun o e => up _ o D.i2z e) hT₈ hz8 fun c o c1 c2 c3 c4 e => up c o c1 (hk₅ c o c1 c2 c3 c4 e)

/-- both are at their end -/
theorem zipS_next_end {z TI TO i1 i2 l1 l2 : Addr} {k1 k2 : Nat} {xs ys : Array Value} {a b : Value} {Q : PySem.Fin → Shared → Prop} (hh : A.handled = none) (D : ZipApart z TI TO i1 i2 l1 l2)
    (hz : IsZipS s.heap z TI TO .none) (hTI : IsPair s.heap TI (.ref i1) (.ref i2)) (hTO : IsPair s.heap TO a b)
    (h1 : s.heap.IsTupleIter i1 l1 k1) (h2 : s.heap.IsTupleIter i2 l2 k2) (hl1 : s.heap.IsTuple l1 xs) (hl2 : s.heap.IsTuple l2 ys) (hx : xs[k1]? = none) (hy : ys[k2]? = none)
    (hE : ∀ h' e, (∀ c o, c ≠ z → c ≠ TO → c ≠ i1 → c ≠ i2 → s.heap.get? c = some o → h'.get? c = some o) → (∃ o, h'.get? e = some o ∧ o.cls = .type "StopIteration") → E (.ref e) { s with heap := h' }) :
    wpAny (model prog w) A (Builtin.«zip.__next__» ⟨[.ref z], []⟩) Q E s := by
  show wpAny _ _ (field (.ref z) 2 >>= _) _ _ _
  refine wpAny_bind (wpAny_field hz rfl (x := .bool true) rfl ?_)
  show wpAny _ _ (field (.ref z) 3 >>= _) _ _ _
  refine wpAny_bind (wpAny_field hz rfl (x := .ref TI) rfl ?_)
  refine wpAny_bind (wpAny_seqItems hTI rfl ?_)
  show wpAny _ _ (Builtin.SmallTypes.ownedTupleIsFree (.ref z) >>= _) _ _ _
  refine wpAny_bind ?_
  unfold Builtin.SmallTypes.ownedTupleIsFree
  refine wpAny_bind (wpAny_field hz rfl (x := .none) rfl (wpAny_pure ?_))
  simp only [if_true]
  refine wpAny_bind (wpAny_rule ?_)
  refine wpAny_bind (wpAny_field hz rfl (x := .ref TO) rfl ?_)
  refine wpAny_bind (wpAny_setField_rec hz (by simp) fun h₁ hz₁ hs₁ => ?_)
  replace hz₁ : IsZipS h₁ z TI TO .ellipsis := hz₁
  refine wpAny_bind ?_
  simp only [List.zipIdx_cons, List.zipIdx_nil, List.forIn_cons, List.forIn_nil]
  refine wpAny_bind (wpAny_bind (wpAny_onRaise ?_))
  show wpAny _ _ (Builtin.SmallTypes.nextOrEnd (.ref i1)) _ _ _
  refine nextOrEnd_end hh (h1.extBut hs₁.extBut D.i1z) (hl1.extBut hs₁.extBut D.l1z) hx fun h₂ hs₂ => ?_
  have hz₂ : IsZipS h₂ z TI TO .ellipsis := hs₂ _ _ D.i1z.symm hz₁
  refine wpAny_bind (wpAny_setField_rec hz₂ (by simp) fun h₃ hz₃ hs₃ => ?_)
  have h2₃ : h₃.IsTupleIter i2 l2 k2 := ((h2.extBut hs₁.extBut D.i2z).extBut hs₂ D.i12.symm).extBut hs₃.extBut D.i2z
  have hl2₃ : h₃.IsTuple l2 ys := ((hl2.extBut hs₁.extBut D.l2z).extBut hs₂ D.l2i1).extBut hs₃.extBut D.l2z
  have k3 : ∀ c o, c ≠ z → c ≠ TO → c ≠ i1 → c ≠ i2 → s.heap.get? c = some o → h₃.get? c = some o := fun c o c1 _ c3 _ x => hs₃.extBut _ _ c1 (hs₂ _ _ c3 (hs₁.extBut _ _ c1 x))
  refine wpAny_bind ?_
  show wpAny _ _ (((Builtin.SmallTypes.nextOrEnd (.ref i2) >>= _) >>= _) >>= _) _ _ _
  refine wpAny_bind (wpAny_bind (wpAny_bind (nextOrEnd_end hh h2₃ hl2₃ hy fun h₄ hs₄ => ?_)))
  simp only [Option.isSome_none, Bool.false_eq_true, if_false]
  refine wpAny_pure ?_
  show wpAny _ _ (pure _) _ _ _
  refine wpAny_pure ?_
  refine wpAny_bind (wpAny_rule ?_)
  unfold Builtin.SmallTypes.stopIteration
  show wpAny _ _ (newExc (.type "StopIteration") [] >>= _) _ _ _
  refine wpAny_bind ?_
  simp only [newExc, newTuple]
  refine wpAny_bind (wpAny_newObj_type ?_ (by size_fits))
  refine wpAny_bind (m := firstArgMember _ _) (wpAny_of_eq (a := Value.none) (by first | rfl | (simp only [firstArgMember]; rfl)) ?_)
  refine wpAny_newObj_type ?_ (by size_fits)
  simp only [raiseNew]
  refine wpAny_bind (wpAny_handled ?_)
  first | rw [show A.in1.handled = none from hh] | rw [hh]
  refine wpAny_bind (wpAny_pure (wpAny_throw ?_))
  exact hE _ _ (fun c o c1 c2 c3 c4 x => Heap.get?_push_of_some _ (Heap.get?_push_of_some _ (hs₄ c o c4 (k3 c o c1 c2 c3 c4 x)))) ⟨_, Heap.get?_push_size _ rfl, rfl⟩

theorem pyNext_zipS_item {z TI TO i1 i2 l1 l2 : Addr} {k1 k2 : Nat} {xs ys : Array Value} {x y a b : Value} {Q : Option Value → Shared → Prop} (D : ZipApart z TI TO i1 i2 l1 l2)
    (hz : IsZipS s.heap z TI TO .none) (hTI : IsPair s.heap TI (.ref i1) (.ref i2)) (hTO : IsPair s.heap TO a b)
    (h1 : s.heap.IsTupleIter i1 l1 k1) (h2 : s.heap.IsTupleIter i2 l2 k2) (hl1 : s.heap.IsTuple l1 xs) (hl2 : s.heap.IsTuple l2 ys) (hx : xs[k1]? = some x) (hy : ys[k2]? = some y)
    (hQ : ∀ h', IsZipS h' z TI TO (rawInt s.heap.objs.size) → IsPair h' TO x y → h'.IsTupleIter i1 l1 (k1 + 1) → h'.IsTupleIter i2 l2 (k2 + 1) → IsPair h' s.heap.objs.size x y → h'.objs.size = s.heap.objs.size + 1 →
      (∀ c o, c ≠ z → c ≠ TO → c ≠ i1 → c ≠ i2 → s.heap.get? c = some o → h'.get? c = some o) → Q (some (.ref s.heap.objs.size)) { s with heap := h' }) :
    wpAny (model prog w) A (pyNext (.ref z)) Q E s := by
  have hT : s.TypeIs (.ref z) "zip" := ⟨_, hz, rfl⟩
  unfold pyNext
  exact wpAny_bind (wpAny_attempt (wpAny_callSpecial?_slot (name := Str.ofString "__next__") hT F.slot_zip_next
    (wpAny_call_entry F.slot_zip_next hT F.entry_zip_next
      (zipS_next_item D hz hTI hTO h1 h2 hl1 hl2 hx hy fun h' a1 a2 a3 a4 a5 a6 a7 => wpAny_pure (hQ h' a1 a2 a3 a4 a5 a6 a7)) (F.args_zip_next_1 _))))
theorem pyNext_zipS_end {z TI TO i1 i2 l1 l2 : Addr} {k1 k2 : Nat} {xs ys : Array Value} {a b : Value} {Q : Option Value → Shared → Prop} (hh : A.handled = none) (D : ZipApart z TI TO i1 i2 l1 l2)
    (hz : IsZipS s.heap z TI TO .none) (hTI : IsPair s.heap TI (.ref i1) (.ref i2)) (hTO : IsPair s.heap TO a b)
    (h1 : s.heap.IsTupleIter i1 l1 k1) (h2 : s.heap.IsTupleIter i2 l2 k2) (hl1 : s.heap.IsTuple l1 xs) (hl2 : s.heap.IsTuple l2 ys) (hx : xs[k1]? = none) (hy : ys[k2]? = none)
    (hQ : ∀ h', (∀ c o, c ≠ z → c ≠ TO → c ≠ i1 → c ≠ i2 → s.heap.get? c = some o → h'.get? c = some o) → Q none { s with heap := h' }) : wpAny (model prog w) A (pyNext (.ref z)) Q E s := by
  have hT : s.TypeIs (.ref z) "zip" := ⟨_, hz, rfl⟩
  unfold pyNext
  refine wpAny_bind (wpAny_attempt (wpAny_callSpecial?_slot (name := Str.ofString "__next__") hT F.slot_zip_next
    (wpAny_call_entry F.slot_zip_next hT F.entry_zip_next (zipS_next_end hh D hz hTI hTO h1 h2 hl1 hl2 hx hy fun h' e hk he => ?_) (F.args_zip_next_1 _))))
  obtain ⟨o, ho, hc⟩ := he
  refine wpAny_bind (wpAny_isInstance (T := "StopIteration") (b := true) ⟨o, ho, hc⟩ isSubtype_stop ?_)
  exact wpAny_pure (hQ _ hk)
theorem letGo_zipS {elts : List Expr} {x1} {pos : Pos} {z TI TO T : Addr} {Q : Unit → Shared → Prop} (hz : IsZipS s.heap z TI TO (rawInt T))
    (hQ : ∀ h', IsZipS h' z TI TO .none → Heap.SameBut z s.heap h' → Q () { s with heap := h' }) :
    wpAny (model prog w) A (letOwnedTupleGo (.Tuple elts x1 pos) (.ref z) (.ref T)) Q E s := by
  unfold letOwnedTupleGo
  refine wpAny_bind (wpAny_load hz ?_)
  show wpAny _ _ (if (["enumerate", "zip", "dict_itemiterator", "dict_reverseitemiterator", "odict_iterator", "itertools.zip_longest", "itertools.pairwise"].contains "zip" &&
      (#[rawInt T, .bool false, .bool true, .ref TI, .ref TO] : Array Value)[0]? == some (rawInt T)) = true then _ else _) Q E s
  rw [if_pos (by simp)]
  refine wpAny_bind (wpAny_rule ?_)
  show wpAny _ _ (setField (.ref z) 0 .none) Q E s
  exact wpAny_setField_rec hz (by simp) fun h' hz' hs' => hQ h' hz' hs'
theorem iter_zipS {z TI TO : Addr} {f0 : Value} {Q : Value → Shared → Prop} (hz : IsZipS s.heap z TI TO f0) (hQ : Q (.ref z) s) : wpAny (model prog w) A (pyIter (.ref z)) Q E s := by
  have hT : s.TypeIs (.ref z) "zip" := ⟨_, hz, rfl⟩
  refine wpAny_pyIter_slot hT F.slot_zip_iter (wpAny_call_entry F.slot_zip_iter hT F.entry_zip_iter ?_ (F.args_zip_iter_1 _))
  show wpAny _ _ (ret (.ref z)) _ _ s
  exact wpAny_pure ⟨_, rfl, "zip", _, hT, F.slot_zip_next.lookup, hQ⟩
end

abbrev zipSH5 (h : Heap) (l1 l2 : Addr) : Heap := (zipTH4 h l1 l2).push { cls := .type "zip", data := .fields #[.none, .bool false, .bool true, .ref (zipTH2 h l1 l2).objs.size, .ref (zipTH3 h l1 l2).objs.size] }
theorem meets_zipS_new (l1 l2 : Addr) (xs ys : Array Value) :
    Meets (Builtin.«zip.__new__» ⟨[.type "zip", .ref l1, .ref l2], [(Str.ofString "strict", .bool true)]⟩) (fun _ R s => s.heap.IsTuple l1 xs ∧ s.heap.IsTuple l2 ys ∧
      R (.ok (.ret (.ref (zipTH4 s.heap l1 l2).objs.size))) { s with heap := zipSH5 s.heap l1 l2 }) :=
  .of_wp fun prog w A R s h => by
    obtain ⟨hp, g, d, tk, os⟩ := s; obtain ⟨hl1, hl2, h⟩ := h
    have hsub := sub_zip
    have e1 : (Str.ofString "strict" != ("strict" : Str)) = false := by decide +kernel
    have hL1 : Heap.IsTuple (Shared.heap ⟨hp, g, d, tk, os⟩) l1 xs := hl1
    have hL2 : Heap.IsTuple (Shared.heap ⟨hp.push { cls := .type "tuple_iterator", data := .fields #[.ref l1, .int 0 0] }, g, d, tk, os⟩) l2 ys := Heap.IsTuple.push hl2 _
    wp_walk using wpAny_pyIter_tuple hL1, wpAny_pyIter_tuple hL2
    exact ⟨_, rfl, h⟩
theorem typeCall_zip_strict (a b v : Value) : checkTypeCall "zip" ⟨[a, b], [(Str.ofString "strict", v)]⟩ = pure () := by kernel_rfl
theorem newCall_zip_strict (a b v : Value) : checkBuiltinCall "zip.__new__" ⟨[.type "zip", a, b], [(Str.ofString "strict", v)]⟩ = pure () := by kernel_rfl
theorem args_object_init_strict (obj a b v : Value) : argsOk "object.__init__" ⟨[obj, a, b], [(Str.ofString "strict", v)]⟩ := by unfold argsOk; kernel_rfl
theorem call_zipS {prog : Program} {w : World} {A : Around} {E : Value → Shared → Prop} {s : Shared} {l1 l2 : Addr} {xs ys : Array Value} {Q : Value → Shared → Prop} (hl1 : s.heap.IsTuple l1 xs) (hl2 : s.heap.IsTuple l2 ys)
    (h : ∀ h', IsZipS h' (s.heap.objs.size + 4) (s.heap.objs.size + 2) (s.heap.objs.size + 3) .none → IsPair h' (s.heap.objs.size + 2) (.ref s.heap.objs.size) (.ref (s.heap.objs.size + 1)) →
      IsPair h' (s.heap.objs.size + 3) .none .none → h'.IsTupleIter s.heap.objs.size l1 0 → h'.IsTupleIter (s.heap.objs.size + 1) l2 0 → h'.objs.size = s.heap.objs.size + 5 →
      (∀ c o, s.heap.get? c = some o → h'.get? c = some o) → Q (.ref (s.heap.objs.size + 4)) { s with heap := h' }) :
    wpAny (model prog w) A (call (.type "zip") [.ref l1, .ref l2] [(Str.ofString "strict", .bool true)]) Q E s := by
  refine callType_newKw F.called_zip (by decide) (typeCall_zip_strict _ _ _) (newCall_zip_strict _ _ _) (fun obj => args_object_init_strict obj _ _ _) F.entry_zip_new
    (meets_zipS_new l1 l2 xs ys) ⟨hl1, hl2, ?_⟩
  have z1 : (zipTH1 s.heap l1).objs.size = s.heap.objs.size + 1 := Heap.size_push ..
  have z2 : (zipTH2 s.heap l1 l2).objs.size = s.heap.objs.size + 2 := by rw [Heap.size_push, z1]
  have z3 : (zipTH3 s.heap l1 l2).objs.size = s.heap.objs.size + 3 := by rw [Heap.size_push, z2]
  have z4 : (zipTH4 s.heap l1 l2).objs.size = s.heap.objs.size + 4 := by rw [Heap.size_push, z3]
  have z5 : (zipSH5 s.heap l1 l2).objs.size = s.heap.objs.size + 5 := by rw [Heap.size_push, z4]
  have g5 : (zipSH5 s.heap l1 l2).get? (zipTH4 s.heap l1 l2).objs.size = some _ := Heap.get?_push_size _ rfl
  have g4 : (zipSH5 s.heap l1 l2).get? (zipTH3 s.heap l1 l2).objs.size = some _ := Heap.get?_push_of_some _ (Heap.get?_push_size _ rfl)
  have g3 : (zipSH5 s.heap l1 l2).get? (zipTH2 s.heap l1 l2).objs.size = some _ := Heap.get?_push_of_some _ (Heap.get?_push_of_some _ (Heap.get?_push_size _ rfl))
  have g2 : (zipSH5 s.heap l1 l2).get? (zipTH1 s.heap l1).objs.size = some _ := Heap.get?_push_of_some _ (Heap.get?_push_of_some _ (Heap.get?_push_of_some _ (Heap.get?_push_size _ rfl)))
  have g1 : (zipSH5 s.heap l1 l2).get? s.heap.objs.size = some _ := Heap.get?_push_of_some _ (Heap.get?_push_of_some _ (Heap.get?_push_of_some _ (Heap.get?_push_of_some _ (Heap.get?_push_size _ rfl))))
  show _ ∧ _
  rw [z2, z3, z4] at g5
  rw [z1, z2] at g3
  rw [z3] at g4
  rw [z1] at g2
  rw [z4]
  exact ⟨⟨_, g5, rfl⟩, h _ g5 g3 g4 ⟨_, g1, rfl, rfl⟩ ⟨_, g2, rfl, rfl⟩ z5 fun c o x =>
    Heap.get?_push_of_some _ (Heap.get?_push_of_some _ (Heap.get?_push_of_some _ (Heap.get?_push_of_some _ (Heap.get?_push_of_some _ x))))⟩

/-- the tuples at a and b, of one length -/
def ItzS (K : PySem.W.Frag) (a b : Addr) : It :=
  ⟨fun i H => ∃ (xs ys : List V) (x y : V), SqT K H a xs ∧ SqT K H b ys ∧ xs[i]? = some x ∧ ys[i]? = some y,
    fun i H v H' => ∃ T x y, v = .ref T ∧ H T = none ∧ H' = upd H T (.tup [x, y]) ∧ (∀ xs, SqT K H a xs → xs[i]? = some x) ∧ ∀ ys, SqT K H b ys → ys[i]? = some y,
    fun i H => ∃ xs ys : List V, SqT K H a xs ∧ SqT K H b ys ∧ xs.length ≤ i ∧ ys.length ≤ i⟩
theorem turn_zipS {P : Program} {w : World} {K : PySem.W.Frag} {elts : List Expr} {kk : Nat} {tpos : Pos} {a b z TI TO i1 i2 : Addr} (D : ZipApart z TI TO i1 i2 a b) :
    Turn P w K (.Tuple elts kk tpos) (ItzS K a b) [z, TI, TO, i1, i2] z (fun i h => IsZipS h z TI TO .none ∧ IsPair h TI (.ref i1) (.ref i2) ∧ (∃ x y, IsPair h TO x y) ∧ h.IsTupleIter i1 a i ∧ h.IsTupleIter i2 b i) where
  mem := by simp
  obj := fun i h st c hc => by
    obtain ⟨hz, hTI, ⟨x, y, hTO⟩, ⟨o1, e1, _, d1⟩, ⟨o2, e2, _, d2⟩⟩ := st
    have e' : c = z ∨ c = TI ∨ c = TO ∨ c = i1 ∨ c = i2 := by simpa using hc
    rcases e' with q | q | q | q | q
    · rw [q]; exact ⟨_, hz, fun v q => nomatch q⟩
    · rw [q]; exact ⟨_, hTI, fun v q => nomatch q⟩
    · rw [q]; exact ⟨_, hTO, fun v q => nomatch q⟩
    · rw [q]; exact ⟨o1, e1, fun v q => by rw [d1] at q; cases q⟩
    · rw [q]; exact ⟨o2, e2, fun v q => by rw [d2] at q; cases q⟩
  keep := fun i h h' st k => by
    obtain ⟨hz, hTI, ⟨x, y, hTO⟩, h1, h2⟩ := st
    exact ⟨k z (by simp) _ hz, k TI (by simp) _ hTI, ⟨x, y, k TO (by simp) _ hTO⟩, h1.at fun o q => k i1 (by simp) o q, h2.at fun o q => k i2 (by simp) o q⟩
  item := by
    intro X hP hw hK hc i pins s σ H E I hf st hg
    subst hP hw hK
    obtain ⟨hz, hTI, ⟨x0, y0, hTO⟩, h1, h2⟩ := st
    obtain ⟨xs, ys, x, y, hqx, hqy, hx, hy⟩ := hg
    obtain ⟨its, rv, p, _⟩ := I.tuple hqx
    obtain ⟨its2, rv2, p2, _⟩ := I.tuple hqy
    obtain ⟨u, hu, ru⟩ := rv.get hx
    obtain ⟨u2, hu2, ru2⟩ := rv2.get hy
    have hzl : z < s.heap.objs.size := Heap.lt_size hz
    refine pyNext_zipS_item D hz hTI hTO h1 h2 p p2 (x := u) (y := u2) (by simpa using hu) (by simpa using hu2) fun h' z' TO' h1' h2' hT hsz hk => ?_
    refine ⟨_, rfl, letGo_zipS (s := { s with heap := h' }) z' fun h'' z'' sb => ?_⟩
    have hT2 : h''.get? s.heap.objs.size = some { cls := .type "tuple", data := .seq #[u, u2] } := (sb.2 _ (Nat.ne_of_gt hzl)).trans hT
    have new : ObjOk X.prog X.w (upd H s.heap.objs.size (.tup [x, y])) h'' s.heap.objs.size (.tup [x, y]) :=
      ⟨by show 2 ≤ sizeLine; decide, [u, u2], .cons ru (.cons ru2 .nil), ⟨_, hT2, rfl, _, rfl⟩⟩
    have I1 : Inv X pins σ (upd H s.heap.objs.size (.tup [x, y])) { s with heap := h'' } :=
      I.turnedNew (t' := s.toks) (ch := [z, TI, TO, i1, i2]) (fun c o hb q => (sb.2 c (fun q' => hb (by simp [q']))).trans (hk c o (fun q' => hb (by simp [q'])) (fun q' => hb (by simp [q'])) (fun q' => hb (by simp [q'])) (fun q' => hb (by simp [q'])) q)) hf (Nat.le_refl _) new
    refine ⟨.ref s.heap.objs.size, _, I1, rfl, ⟨_, x, y, rfl, I.hok.fresh (Nat.le_refl _), rfl, fun l hl => by rw [I.tuple_inj hl hqx]; exact hx, fun l hl => by rw [I.tuple_inj hl hqy]; exact hy⟩, ⟨z'', ?_, ⟨u, u2, ?_⟩, ?_, ?_⟩, fun c hcm => ?_⟩
    · exact (sb.2 _ D.TIz).trans (hk _ _ D.TIz D.TITO D.TIi1 D.TIi2 hTI)
    · exact (sb.2 _ D.TOz).trans TO'
    · exact h1'.at fun o q => (sb.2 _ D.i1z).trans q
    · exact h2'.at fun o q => (sb.2 _ D.i2z).trans q
    · have hlt : c < s.heap.objs.size := by
        have e' : c = z ∨ c = TI ∨ c = TO ∨ c = i1 ∨ c = i2 := by simpa using hcm
        rcases e' with q | q | q | q | q
        · rw [q]; exact hzl
        · rw [q]; exact Heap.lt_size hTI
        · rw [q]; exact Heap.lt_size hTO
        · rw [q]; obtain ⟨_, e1, _⟩ := h1; exact Heap.lt_size e1
        · rw [q]; obtain ⟨_, e2, _⟩ := h2; exact Heap.lt_size e2
      rw [upd_ne (Nat.ne_of_lt hlt)]
      exact (hf c hcm).1
  done := by
    intro X hP hw hK hc i pins s σ H E I hf st hg
    subst hP hw hK
    obtain ⟨hz, hTI, ⟨x0, y0, hTO⟩, h1, h2⟩ := st
    obtain ⟨xs, ys, hqx, hqy, hend1, hend2⟩ := hg
    obtain ⟨its, rv, p, _⟩ := I.tuple hqx
    obtain ⟨its2, rv2, p2, _⟩ := I.tuple hqy
    have l1 := rv.length
    have l2 := rv2.length
    exact pyNext_zipS_end (I.ok.hd hc) D hz hTI hTO h1 h2 p p2 (by simp; omega) (by simp; omega) fun h' hk => ⟨rfl, I.turnedL (t' := s.toks) (ch := [z, TI, TO, i1, i2]) (fun c o hb q =>
      hk c o (fun q' => hb (by simp [q'])) (fun q' => hb (by simp [q'])) (fun q' => hb (by simp [q'])) (fun q' => hb (by simp [q'])) q) hf⟩
  self := fun A i s Q E st h => iter_zipS st.1 h
theorem walk_zipS {K : PySem.W.Frag} {a b : Addr} {xs ys : List V} (hl : xs.length = ys.length) : Walk (ItzS K a b) xs.length (fun H => SqT K H a xs ∧ SqT K H b ys) (YPair (fun i => xs[i]?) (fun i => ys[i]?)) := by
  refine ⟨fun i _ hi q => ?_, fun _ q => ⟨xs, ys, q.1, q.2, Nat.le_refl _, by omega⟩, fun i H v H' _ q y => ?_⟩
  · have h2 : i < ys.length := by omega
    exact ⟨xs, ys, xs[i], ys[i], q.1, q.2, by simp [hi], by simp [h2]⟩
  · obtain ⟨T, x, z, h1, h2, h3, h4, h5⟩ := y
    exact ⟨T, x, z, h1, h2, h3, h4 xs q.1, h5 ys q.2⟩
theorem callWith_typeK {M : Model} {A : Around} {E : Value → Shared → Prop} {s : Shared} {pos : Pos} {T : String} {first : List Value} {args : List (Bool × Sem Value)} {keywords : List (Option Str × Sem Value)} {Q : Value → Shared → Prop}
    (hplain : args.any (·.1) = false) (hkw : keywords.any (·.1.isNone) = false)
    (h : wpAny M A (evalArgs (.type T) true args keywords) (fun a s₁ => wpAny M A (call (.type T) (first ++ a.pos) a.kw) Q E s₁) E s) :
    wpAny M A (callWith pos (.type T) first args keywords) Q E s := by
  unfold callWith
  refine wpAny_bind (wpAny_holding (wpAny_mono h (fun a s₁ h₁ => wpAny_bind (wpAny_standAt ?_)) fun _ _ x => x))
  simp only [hplain, hkw, Bool.or_false]
  refine wpAny_bind (wpAny_pure ?_)
  exact wpAny_bind (wpAny_mono h₁ (fun r s₂ hr => wpAny_bind (wpAny_holding (wpAny_point (wpAny_pure hr)))) fun _ _ x => x)
def iZipS (K : PySem.W.Frag) (ta : TA) : TI := fun σ H R => ta σ H fun vs H1 => ∃ a b xs ys, vs = [.ref a, .ref b] ∧ SqT K H1 a xs ∧ SqT K H1 b ys ∧ R (ItzS K a b) H1
theorem pi_zipS {X : Cx} {e e2 : Expr} {ta : TA} {p pos tpos kp cp : Pos} {ck : Nat} {elts : List Expr} {kk : Nat} (hg : Gl X "zip") (hm : X.mg "zip" = none) (ha : PA X [e, e2] ta)
    (he : backTo pos (starEach [e, e2] X.env) = (false, eval e X.env) :: backTo pos (starEach [e2] X.env) := by rfl) (hpl : (backTo pos (starEach [e, e2] X.env)).any (·.1) = false := by rfl) :
    PI X (.Tuple elts kk tpos) (.Call (.Name "zip" p) [e, e2] [⟨some "strict", .Constant (.bool true) ck cp, kp⟩] pos) (iZipS X.K ta) := by
  refine ⟨fun pins s σ H R I h => ?_⟩
  refine wpAny_Call_Name_kw (ld_blt I hg hm PyProof.Rows.boot_zip ?_)
  refine callWith_typeK hpl rfl ?_
  rw [he]
  refine evalArgs_kwB rfl ?_
  rw [← he]
  refine thn (ha.run pos pins s σ H _ I h) fun us s1 ⟨vs, H1, I1, r1, q1⟩ => ?_
  obtain ⟨a, b, xs, ys, ex, hqx, hqy, q⟩ := q1
  subst ex
  have hk : PK X [⟨some "strict", .Constant (.bool true) ck cp, kp⟩] _ := pk_cons (nm := "strict") (pe_bl (b := true)) pk_nil
  refine thn (hk.run pos pins s1 σ H1 (fun zs H2 => zs = [.bl true] ∧ H2 = H1) I1 ⟨rfl, rfl⟩) fun ws s2 ⟨zs, H2, I2, r2, ez, eH⟩ => ?_
  subst ez
  subst eH
  obtain ⟨w1, rfl, e1⟩ := vals1 r2
  obtain rfl : w1 = Value.bool true := e1
  cases r1 with
  | cons r rr =>
    cases rr with
    | cons r' rr =>
      cases rr
      cases r
      cases r'
      obtain ⟨its, rv, p1, _⟩ := I2.tuple hqx
      obtain ⟨its2, rv2, p2, _⟩ := I2.tuple hqy
      have la : a < s2.heap.objs.size := p1.lt
      have lb : b < s2.heap.objs.size := p2.lt
      show wpAny (model X.prog X.w) X.A (call (.type "zip") [.ref a, .ref b] [(Str.ofString "strict", .bool true)]) _ _ _
      refine call_zipS p1 p2 fun h' hz hTI hTO h1 h2 hsz hk => iter_zipS hz ?_
      have I3 : Inv X pins σ H2 { s2 with heap := h' } := I2.kept (t' := s2.toks) hk
      refine ⟨s2.heap.objs.size + 4, [s2.heap.objs.size + 4, s2.heap.objs.size + 2, s2.heap.objs.size + 3, s2.heap.objs.size, s2.heap.objs.size + 1], _, _, H2, rfl, I3, turn_zipS (PySem.W.ktu_apart s2.heap.objs.size a b la lb), ⟨hz, hTI, ⟨_, _, hTO⟩, h1, h2⟩, fun c hcm => ?_, q⟩
      have e' : c = s2.heap.objs.size + 4 ∨ c = s2.heap.objs.size + 2 ∨ c = s2.heap.objs.size + 3 ∨ c = s2.heap.objs.size ∨ c = s2.heap.objs.size + 1 := by simpa using hcm
      have hle : s2.heap.objs.size ≤ c := by
        rcases e' with z | z | z | z | z
        · rw [z]; exact Nat.le_add_right _ _
        · rw [z]; exact Nat.le_add_right _ _
        · rw [z]; exact Nat.le_add_right _ _
        · rw [z]; exact Nat.le_refl _
        · rw [z]; exact Nat.le_add_right _ _
      exact I2.fpOk hle (I2.hok.fresh hle)
end TgZ
/-! TgSmall -/
set_option Elab.async false
set_option linter.all false
set_option maxRecDepth 100000
set_option maxHeartbeats 4000000
/-! d.pop(k) of tuple keys, t.index, min(tuple), d.update(e), a method called with keywords -/
namespace TgS
open PySem PySem.Spec PyProof.Rows L2 LamX NdefX
section
variable {X : Cx}
/-! ### d.pop(k), the key a tuple and there -/
def rPopT1 : V → List V → Hp → VK → Prop := fun x xs H Q => ∃ (a : Addr) (kvs : List (List L2.Key × V)) (k : List L2.Key) (b : Addr) (v : V), x = .ref a ∧ xs = [.ref b] ∧ H a = some (.dT kvs) ∧ H b = some (.tup (k.map kV)) ∧ valV kvs k = some v ∧ Q v (upd H a (.dT (dropK kvs k)))
theorem mt_popT1 (hu : X.A.units + 1 < cLine) : MtR X "dict.pop" rPopT1 := by
  intro pins s σ H x xs v us Q I rx rxs h
  obtain ⟨a, kvs, k, b, v0, rfl, rfl, ha, hb, ev, q1⟩ := h
  cases rx
  obtain rfl := Vals.ref1 rxs
  obtain ⟨z, hd, xs', rel, dd⟩ := dt_of I.hok ha
  have hz : xs'.length ≤ sizeLine := by rw [← Paired.length rel]; exact z
  have r := rel.val k
  rw [ev] at r
  obtain ⟨p, hp, rv⟩ : ∃ p, atKey xs' k = some p ∧ RelV v0 p.2 := by
    cases e : atKey xs' k with
    | none =>
      rw [e] at r
      exact (show False from r).elim
    | some p =>
      rw [e] at r
      exact ⟨p, rfl, r⟩
  refine call_pop_heap (knd := tupleKind (mixKind X.prog X.w)) (more := []) (.inl rfl) (F.args_dict_pop_2 _ _) (tupleKind_room_in1 hu) (key_of I.hok hb) hd dd hp (fun h' dd' hs => ?_) hz
  obtain ⟨o, es, ep, hq, h2, h3, h4, _, h5⟩ := dd'
  have I2 : Inv X pins σ (upd H a (.dT (dropK kvs k))) { s with heap := h', toks := s.toks + (tupleKind (mixKind X.prog X.w)).draws k } :=
    d_write I (by rw [ha]; exact True.intro) hs ⟨o, hq⟩ ⟨Nat.le_trans (dropK_le kvs k) z, hd, _, (DX.KT_drop k rel).keeps (fun c ys ec => (by rw [upd_ne (ne_of ec ha (fun z => nomatch z))]; exact ec)), o, es, ep, hq, h2, h3, h4, h5⟩
  exact ⟨v0, _, I2, rv, q1⟩

/-! ### t.index(n), ints -/
def rIndexT (K : PySem.W.Frag) : V → List V → Hp → VK → Prop := fun x xs H Q => ∃ (a : Addr) (ns : List Int) (n : Int), x = .ref a ∧ xs = [.int n] ∧ SqT K H a (ns.map V.int) ∧ n ∈ ns ∧ Q (.int (ns.idxOf n : Nat)) H
theorem mt_indexT : MtR X "tuple.index" (rIndexT X.K) := by
  intro pins s σ H x xs v us Q I rx rxs h
  obtain ⟨a, ns, n, rfl, rfl, hs, hn, q⟩ := h
  cases rx
  obtain ⟨u, rfl, t, rfl⟩ := vals1 rxs
  obtain ⟨its, rv, p, _⟩ := I.tuple hs
  refine PySem.SeqAt.tuple_index_ints p rv.ints hn ?_
  exact ⟨.int _, H, I.tok _, ⟨_, rfl⟩, q⟩

/-! ### min(t), ints -/
def rMinT (K : PySem.W.Frag) : List V → Hp → VK → Prop := fun vs H Q => ∃ (a : Addr) (ns : List Int), vs = [V.ref a] ∧ SqT K H a (ns.map V.int) ∧ 0 < ns.length ∧ ∀ m, m ∈ ns → (∀ y, y ∈ ns → m ≤ y) → Q (.int m) H
theorem cr_minT (hc : X.calm = true) : CallR X (.builtin "min") (rMinT X.K) := by
  intro pins s σ H vs us Q I r h
  obtain ⟨a, ns, rfl, hs, hne, q⟩ := h
  obtain ⟨its, rv, hl, _⟩ := I.tuple hs
  rw [Vals.ref1 r]
  have hi := rv.ints
  obtain ⟨xs, e⟩ := hi.allInts.items
  have hn : numsOf (intItems xs).toList = ns := by rw [← e]; exact hi.numsOf
  rw [nums_intItems] at hn
  subst hn
  rw [e] at hl
  have hsz : 0 < xs.size := by simpa using hne
  have hla : a < s.heap.objs.size := hl.lt
  have hTW := Walks.tuple (prog := X.prog) (w := X.w) (A := X.A.in1) (I.ok.hd hc) s.heap.objs.size a (Nat.ne_of_lt hla) (intItems xs)
  refine call_min_walk (wpAny_pyIter_tuple hl ?_)
  refine ⟨_, _, _, _, _, _, _, rfl, hTW, ⟨⟨_, Heap.get?_push_size _ rfl, rfl, rfl⟩, hl.push _⟩, ?_, by simpa [intItems] using hsz, CmpOf.ints_lt (numAt xs) (fun _ _ => intItems_at), fun v h' tk hP hk => ?_⟩
  · intro b hb
    rw [Heap.size_push]
    rcases List.mem_cons.mp hb with e1 | hb
    · rw [e1]
      exact Nat.lt_succ_self _
    · rw [List.mem_singleton.mp hb]
      exact Nat.lt_succ_of_lt hla
  · have hk' : ∀ b o, s.heap.get? b = some o → h'.get? b = some o := fun b o e => by
      refine hk b o (fun hm => ?_) (Heap.get?_push_of_some _ e)
      rcases List.mem_cons.mp hm with e1 | hm
      · exact absurd (e1 ▸ Heap.lt_size e) (Nat.lt_irrefl _)
      · cases hm
    obtain ⟨t, rfl⟩ := intItems_at hP
    obtain ⟨h1, h2⟩ := argBest_lt (numAt xs) (xs.size - 1)
    have e0 : (intItems xs).size = xs.size := by simp [intItems]
    rw [e0]
    refine ⟨.int _, H, I.kept hk', ⟨t, rfl⟩, q _ ?_ fun y hy => ?_⟩
    · rw [numAt_eq]; exact PySem.getD_mem (by rw [List.length_map, Array.length_toList]; omega)
    · obtain ⟨j, hj, rfl⟩ := mem_getD hy
      rw [List.length_map, Array.length_toList] at hj
      rw [← numAt_eq]; exact h2 j (by omega)

/-! ### d.update(e), a dict -/
def rUpdD : V → List V → Hp → VK → Prop := fun x xs H Q => ∃ (a b : Addr) (kvs more : List (L2.Key × V)), x = .ref a ∧ xs = [.ref b] ∧ a ≠ b ∧ H a = some (.dK kvs) ∧ H b = some (.dK more) ∧ kvs.length + more.length ≤ sizeLine ∧ Q .non (upd H a (.dK (mergeK kvs more)))
theorem mt_updD : MtR X "dict.update" rUpdD := by
  intro pins s σ H x xs v us Q I rx rxs h
  obtain ⟨a, b, kvs, more, rfl, rfl, hab, ha, hb, hz, q⟩ := h
  cases rx
  obtain rfl := Vals.ref1 rxs
  obtain ⟨z1, hs1, vs1, kv1, d1⟩ := dk_of I.hok ha
  obtain ⟨z2, hs2, vs2, kv2, d2⟩ := dk_of I.hok hb
  refine call_meetsIn PySem.F.slot_dict_update d1.typeIs PySem.F.entry_dict_update (PySem.F.args_dict_update_2 _ _) (meets_dict_update (mixKind X.prog X.w) a b hab hs2)
    ⟨vs1, vs2, d1, d2, by rw [← kv1.length, ← kv2.length]; exact hz, fun h' d1' d2' hs => ?_⟩
  obtain ⟨o, es, ep, hq, h2⟩ := id d1'
  have hm := length_mergeK more kvs
  have I2 : Inv X pins σ (upd H a (.dK (mergeK kvs more))) { s with heap := h', toks := s.toks } :=
    d_write I (by rw [ha]; exact True.intro) hs ⟨o, hq⟩ (dk_new (Nat.le_trans hm hz) hs1 (kv2.merge kv1) d1')
  exact ⟨.non, _, I2, rfl, q⟩
end
section
variable {X : Cx} {CX : CXT} {k n : Nat} {C f : Addr} {fd : FuncData} {ps ks : List Str} {sp : Sp} {m : Str} {p pos apos : Pos} {o e : Expr} {es : List Expr} {kws : List Keyword} {ta : TE} {t tk : TA} {g : List Value → List Value → List Value} {gV : List V → List V → List V}
/-! ### o.m(e, .., k = v), while the cell of the name y is known -/
/-- what runs in a callee that knows the cell, back in a frame that does not -/
theorem ce_back {P : Program} {w : World} {outer : List Env} {s s' : Shared} {H : Hp} {c : Addr} {ob : Obj} {v : V} {Q : VK} {u : Value} (hn : H c = none) (hob : s.heap.get? c = some ob) (h : CE outer P w (upd H c (.frz ob (TgL.CelO c v))) s (fun x H2 => Q x (TgL.ers H2 c)) u s') : CE outer P w H s Q u s' := by
  obtain ⟨x, H', os, bare, un, hok, rv, q⟩ := h
  have hc' : H' c = some (.frz ob (TgL.CelO c v)) := un.frzs c ob _ upd_same
  have e1 : s'.heap.get? c = some ob := (hok c _ hc').1
  refine ⟨x, TgL.ers H' c, os, bare, ⟨fun b o e n hb hx => ?_, fun b o e n hb hx => ?_, fun b o e n hx => ?_, un.there, fun b xs e => ?_, fun b o z e => ?_, fun b ps e => ?_⟩, TgL.hok_ers hok hc', rv, q⟩
  · by_cases hbc : b = c
    · subst hbc
      rw [hob] at e
      cases e
      exact e1
    · exact un.keep b o e (by rw [upd_ne hbc]; exact n) hb hx
  · by_cases hbc : b = c
    · subst hbc
      rw [hob] at e
      cases e
      exact ⟨ob.slots, e1⟩
    · exact un.slot b o e (by rw [upd_ne hbc]; exact n) hb hx
  · by_cases hbc : b = c
    · subst hbc
      exact TgL.ers_self
    · rw [TgL.ers_ne hbc]
      exact un.free b o e (by rw [upd_ne hbc]; exact n) hx
  · have hbc : b ≠ c := ne_of_none e hn
    rw [TgL.ers_ne hbc]
    exact un.tups b xs (by rw [upd_ne hbc]; exact e)
  · have hbc : b ≠ c := ne_of_none e hn
    rw [TgL.ers_ne hbc]
    exact un.frzs b o z (by rw [upd_ne hbc]; exact e)
  · have hbc : b ≠ c := ne_of_none e hn
    rw [TgL.ers_ne hbc]
    exact un.tbls b ps (by rw [upd_ne hbc]; exact e)
/-- the reading: slot i holds the value v of the captured name, whose cell c the callee knows -/
def tMethKC (cells : List (Str × Addr)) (y : Str) (i : Nat) (C : Addr) (m : Str) (n l : Nat) (sp : Sp) (gV : List V → List V → List V) (ta : TE) (t tk : TA) : TE := fun σ H Q => ta σ H fun x H1 => ∃ a dx fs, x = .ref a ∧ H1 a = some (.ins C dx fs) ∧ fs.lookup m = none ∧
  t σ H1 fun vs H2 => tk σ H2 fun zs H3 => vs.length + 1 = n ∧ zs.length = l ∧ ∃ v, σ[i]? = some (some v) ∧ ∀ (c : Addr) (ob : Obj), cells.lookup y = some c → H3 c = none →
    sp (gV (.ref a :: vs) zs) (upd H3 c (.frz ob (TgL.CelO c v))) (fun u H' => Q u (TgL.ers H' c)) E0
theorem pe_methKC {pl : Sem Bool} {y : Str} {i : Nat} (hN : X.N[i]? = some y) (hy : X.env.scope.names.lookup y = some .cell) (hfn : X.fn y = true) (he : PE X o ta) (c : Cls X.K C) (hm : Meth X.K C m f) (F : FnOk X.prog X.w X.K X.mg X.base CX0 k f fd ps sp) (hr : Room k X.A) (hb : KBn X.K fd ps n ks g gV)
    (ha : PA X (e :: es) t) (hkw : PK X kws tk)
    (hall : (backToKw pos (keywordEach kws X.env)).all (·.1.isSome) = true := by rfl) (hks : (backToKw pos (keywordEach kws X.env)).filterMap (·.1) = ks := by rfl)
    (hst : starEach (e :: es) X.env = (false, eval e X.env) :: starEach es X.env := by rfl) (hpl : ((backTo pos (starEach (e :: es) X.env)).any (·.1) || (backToKw pos (keywordEach kws X.env)).any (·.1.isNone)) = false := by rfl)
    (ht : eval (.Call (.Attribute o m apos) (e :: es) kws pos) X.env = (do
      let ov ← eval o X.env
      standAt apos.atName
      let (f, first) ← holding [ov] (getMethod ov m pl)
      callWith pos f first (backTo pos (starEach (e :: es) X.env)) (backToKw pos (keywordEach kws X.env))) := by rfl) :
    PE X (.Call (.Attribute o m apos) (e :: es) kws pos) (tMethKC X.env.cells y i C m n ks.length sp gV ta t tk) := by
  refine ⟨fun pins s σ H Q I h => ?_⟩
  refine PySem.W.methodCall_KW (pl := pl) (thn (he.run pins s σ H _ I h) fun u s1 ⟨x, H1, I1, rx, a, dx, fs, ex, ea, l, q⟩ => ?_) ht
  subst ex
  obtain rfl : u = Value.ref a := rx
  refine getmeth_ok I1 ea c hm l ?_
  refine PySem.W.callWith_KW (first := [.ref a]) (h₀ := X.base) I.ok.mod.kin hm.kp hall (thn (ha.run pos pins s1 σ H1 _ I1 q) fun us s2 ⟨vs, H2, I2, r, q2⟩ => ?_) hpl hst
  refine thn (hkw.run pos pins s2 σ H2 _ I2 q2) fun ws s3 ⟨zs, H3, I3, rz, l1, l2, v, hv, q3⟩ => ⟨I3.kIn, ?_⟩
  rw [hks]
  obtain ⟨cl, hcl⟩ := I3.ok.has y (.inl hy)
  obtain ⟨mo, hno, hlk⟩ := id I3.loc
  obtain ⟨u0, ru0, hl0⟩ := hlk i y v hN hv (.inr (.inl hy))
  have hu0 : s3.heap.IsCell cl (some u0) := by
    rcases hl0 with ⟨z, _⟩ | ⟨_, c', e', z⟩
    · have z : X.env.scope.names.lookup y = some .local := z
      rw [hy] at z
      cases z
    · rw [hcl] at e'
      cases e'
      exact z
  obtain ⟨ob, hob, hdat⟩ := id hu0
  have hnone := I3.freeC y cl hcl
  have hq := q3 cl ob hcl hnone
  have r1 : Vals (V.ref a :: vs) (Value.ref a :: us) := .cons rfl r
  have r2 := hb.rel r1 rz
  have e0 := I3.env0
  have hge : X.s_0.heap.objs.size ≤ cl := I3.ok.cab y cl hfn hcl
  have hbase : ∀ b o, X.base.get? b = some o → b ≠ cl := fun b o e z => by
    have h1 := Heap.lt_size e
    have h2 := I3.ok.bsz
    rw [z] at h1
    exact absurd (Nat.lt_of_lt_of_le h1 (Nat.le_trans h2 hge)) (Nat.lt_irrefl _)
  have hfrs : ∀ b ∈ frs X.stack, b ≠ cl := fun b hb z => by
    rcases List.mem_cons.mp (I3.stkSub b hb) with e | hb
    · exact I3.cne y cl hcl (z.symm.trans e)
    · obtain ⟨_, o', ho', _⟩ := I3.ok.funs.mem hb
      have h1 := Heap.lt_size ho'
      rw [z] at h1
      exact absurd (Nat.lt_of_lt_of_le h1 hge) (Nat.lt_irrefl _)
  have e1 : Env0 X.prog X.w X.K X.mg X.base X.A X.stack s3 (upd H3 cl (.frz ob (TgL.CelO cl v))) :=
    ⟨e0.frames, e0.mod, fun b o e => ⟨(e0.bs b o e).1, by rw [upd_ne (hbase b o e)]; exact (e0.bs b o e).2⟩, e0.bsz, e0.funs, fun b hb => by rw [upd_ne (hfrs b hb)]; exact e0.frf b hb, fun b o e => by
      by_cases hb : b = cl
      · subst hb
        rw [upd_same] at e
        cases e
        exact ⟨hob, ⟨u0, ru0, ob, hob, hdat⟩, ⟨_, hob⟩, fun h1 h2 ⟨u', r', o', a1, a2⟩ st => ⟨u', r', o', st _ a1, a2⟩⟩
      · rw [upd_ne hb] at e
        exact (e0.hok b o e).stay (fun _ _ _ q => q) (fun d q => by rw [upd_ne (ne_of_none q hnone)]; exact q) fun d xs q => by rw [upd_ne (ne_of_none q hnone)]; exact q, e0.bare⟩
  have n1 : (Value.ref a :: us).length = n := by
    rw [List.length_cons, ← r.length]
    exact l1
  show wpAny _ _ (call (.ref f) (.ref a :: us) (ks.zip ws)) _ _ _
  refine wpAny_call (codeAny_mono (F.run X.A X.stack s3 _ ⟨Value.ref a :: us, ks.zip ws⟩ (g (Value.ref a :: us) ws) (gV (.ref a :: vs) zs) _ E0 hr e1 (hb.to s3 (Value.ref a :: us) ws I3.kIn n1 (rz.length.symm.trans l2)) r2 hq) fun r s' hq' => ?_)
  cases r with
  | error e => exact False.elim hq'
  | ok fl =>
    cases fl with
    | ret u => exact I3.after (ce_back hnone hob hq')
    | next => exact False.elim hq'
    | brk => exact False.elim hq'
    | cont => exact False.elim hq'
end
end TgS
/-! TgBase -/
set_option Elab.async false
set_option linter.all false
set_option maxRecDepth 100000
set_option maxHeartbeats 4000000
/-! the text by places, the facts of the top, heaps and their steps -/
namespace Tg
open PySem PySem.Spec PyProof.Rows L2 LamX
def top (i : Nat) : Stmt := PySem.Challenge.pw_timegranary_k63_whole_kept_folds.main.body.getD i (.Pass ⟨0, 0, 0, 0⟩)
abbrev s_Finit : Stmt := inClass (top 7) 0
abbrev s_Feq : Stmt := inClass (top 7) 1
abbrev s_Frepr : Stmt := inClass (top 7) 2
abbrev s_fields : Stmt := top 8
abbrev s_copied : Stmt := top 9
abbrev s_step : Stmt := top 10
abbrev s_chosen : Stmt := top 11
abbrev s_summed : Stmt := top 12
abbrev s_together : Stmt := top 13
abbrev s_fold_of : Stmt := top 14
abbrev s_cell_of : Stmt := top 16
abbrev s_right_widths : Stmt := top 18
abbrev s_Ginit : Stmt := inClass (top 19) 0
abbrev s_look : Stmt := inClass (top 19) 1
abbrev s_fold_at : Stmt := inClass (top 19) 2
abbrev s_since_at : Stmt := inClass (top 19) 3
abbrev s_cells_of : Stmt := inClass (top 19) 4
abbrev s_renew : Stmt := inClass (top 19) 5
abbrev s_made_anew : Stmt := inClass (top 19) 6
abbrev s_whole_of : Stmt := inClass (top 19) 7
abbrev s_let_go : Stmt := inClass (top 19) 8
abbrev s_right : Stmt := inClass (top 19) 9
abbrev s_right_by : Stmt := inClass (top 19) 10
abbrev s_all_cells : Stmt := inClass (top 19) 11
abbrev s_lay : Stmt := inClass (top 19) 12
abbrev s_check_keeps : Stmt := top 21
abbrev s_Kinit : Stmt := inClass (top 22) 0
abbrev s_moved_to : Stmt := inClass (top 22) 1
abbrev s_expire : Stmt := inClass (top 22) 2
abbrev s_grade_of : Stmt := inClass (top 22) 3
abbrev s_gone_before : Stmt := inClass (top 22) 4
abbrev s_finest : Stmt := inClass (top 22) 5
abbrev s_Einit : Stmt := inClass (top 23) 0
abbrev s_moved : Stmt := inClass (top 23) 1
abbrev s_edge_of : Stmt := inClass (top 23) 2
abbrev s_law_mixed : Stmt := top 25
abbrev s_law_purse : Stmt := top 26
abbrev s_law_draw : Stmt := top 27
abbrev s_law_fold : Stmt := top 28
abbrev s_law_read : Stmt := top 29
abbrev s_law_points : Stmt := top 30
abbrev s_law_cell : Stmt := top 31
abbrev s_law_widths : Stmt := top 32
abbrev s_law_base : Stmt := top 33
abbrev s_law_time : Stmt := top 34
abbrev s_law_worth : Stmt := top 35
abbrev s_law_news : Stmt := top 36
abbrev s_law_changed : Stmt := top 37
abbrev s_law_due : Stmt := top 38
abbrev s_law_keeps : Stmt := top 39
abbrev s_law_horizons : Stmt := top 40
abbrev s_law_told : Stmt := top 41
abbrev s_law_renewed : Stmt := top 42
abbrev s_law_expired : Stmt := top 43
abbrev s_law_stands : Stmt := top 44
abbrev s_law_finest_right : Stmt := top 45
abbrev s_law_deed_right : Stmt := top 46
abbrev s_law : Stmt := top 47
/-! ### facts -/
def DefIn (K : PySem.W.Frag) (mg : Str → Option Value) (x : Str) (st : Stmt) : Prop := ∃ f fd, FunD K x x (defArgs st) (defBody st) (defScope st) [] [] f fd ∧ mg x = some (.ref f)
def DefInC (K : PySem.W.Frag) (mg : Str → Option Value) (x : Str) (st : Stmt) (c : Addr) : Prop := ∃ f fd, FunD K x x (defArgs st) (defBody st) (defScope st) [] [] f fd ∧ mg x = some (.ref f) ∧ fd.code = .ref c
def MetIn (K : PySem.W.Frag) (C : Addr) (m qual : Str) (st : Stmt) : Prop := ∃ f fd, FunD K m qual (defArgs st) (defBody st) (defScope st) [] [] f fd ∧ Meth K C m f
def MetInC (K : PySem.W.Frag) (C : Addr) (m qual : Str) (st : Stmt) (c : Addr) : Prop := ∃ f fd, FunD K m qual (defArgs st) (defBody st) (defScope st) [] [] f fd ∧ Meth K C m f ∧ fd.code = .ref c
def MakIn (K : PySem.W.Frag) (mg : Str → Option Value) (x : Str) (C : Addr) (qual : Str) (st : Stmt) (kws : List (Str × V)) : Prop := ∃ f fd, FunD K "__init__" qual (defArgs st) (defBody st) (defScope st) [] kws f fd ∧ Mk K C f ∧ mg x = some (.ref C)
def kwF : List (Str × V) := [("count", .int 0), ("total", .int 0), ("squares", .int 0), ("least", .non), ("greatest", .non), ("first", .non), ("last", .non), ("rise", .int 0), ("held", .int 0)]
def kwS : List (Str × V) := [("rise", .int 0), ("held", .int 0), ("first", .non), ("last", .non)]
structure Ev (K : PySem.W.Frag) (mg : Str → Option Value) (base : Heap) where
  cF : Addr
  cG : Addr
  cK : Addr
  cE : Addr
  tS : Addr × Addr
  tM : Addr × Addr
  tR : Addr × Addr
  clF : Cls K cF
  clG : Cls K cG
  clK : Cls K cK
  clE : Cls K cE
  isF : C8.InsC K cF
  gF : mg "Fold" = some (.ref cF)
  neF : PySem.W.findIn K (.ref cF) "__ne__" = some (some (.builtin "object.__ne__"))
  obF : PySem.W.subIn K (.ref cF) (.type "object") = some true
  naF : ∀ x ∈ (["count", "total", "squares", "least", "greatest", "first", "last", "rise", "held"] : List Str), NoAttr K cF x
  naG : ∀ x ∈ (["widths", "cells_kept", "ends", "busy"] : List Str), NoAttr K cG x
  naK : ∀ x ∈ (["widths", "keeps", "horizons"] : List Str), NoAttr K cK x
  naE : NoAttr K cE "by_place"
  FG : cF ≠ cG
  FK : cF ≠ cK
  FE : cF ≠ cE
  mF : MakIn K mg "Fold" cF "Fold.__init__" s_Finit kwF
  mG : MakIn K mg "Grains" cG "Grains.__init__" s_Ginit []
  mK : MakIn K mg "Keeping" cK "Keeping.__init__" s_Kinit [("horizons", .non)]
  mE : MakIn K mg "Edges" cE "Edges.__init__" s_Einit []
  d_summed : ∃ f fd, FunD K "summed" "summed" (defArgs s_summed) (defBody s_summed) (defScope s_summed) [] kwS f fd ∧ mg "summed" = some (.ref f) ∧ fd.code = .ref tS.1
  d_law_renewed : DefInC K mg "_law_renewed" s_law_renewed tR.1
  e_moved : MetInC K cE "moved" "Edges.moved" s_moved tM.1
  bS : TabB base mg tS.1 tS.2
  bM : TabB base mg tM.1 tM.2
  bR : TabB base mg tR.1 tR.2
  nSM : tS.2 ≠ tM.2
  nSR : tS.2 ≠ tR.2
  nMR : tM.2 ≠ tR.2
  d_fields : DefIn K mg "fields" s_fields
  d_copied : DefIn K mg "copied" s_copied
  d_step : DefIn K mg "step" s_step
  d_chosen : DefIn K mg "chosen" s_chosen
  d_together : DefIn K mg "together" s_together
  d_fold_of : DefIn K mg "fold_of" s_fold_of
  d_cell_of : DefIn K mg "cell_of" s_cell_of
  d_right_widths : DefIn K mg "right_widths" s_right_widths
  d_check_keeps : DefIn K mg "check_keeps" s_check_keeps
  d_law_mixed : DefIn K mg "_law_mixed" s_law_mixed
  d_law_purse : DefIn K mg "_law_purse" s_law_purse
  d_law_draw : DefIn K mg "_law_draw" s_law_draw
  d_law_fold : DefIn K mg "_law_fold" s_law_fold
  d_law_read : DefIn K mg "_law_read" s_law_read
  d_law_points : DefIn K mg "_law_points" s_law_points
  d_law_cell : DefIn K mg "_law_cell" s_law_cell
  d_law_widths : DefIn K mg "_law_widths" s_law_widths
  d_law_base : DefIn K mg "_law_base" s_law_base
  d_law_time : DefIn K mg "_law_time" s_law_time
  d_law_worth : DefIn K mg "_law_worth" s_law_worth
  d_law_news : DefIn K mg "_law_news" s_law_news
  d_law_changed : DefIn K mg "_law_changed" s_law_changed
  d_law_due : DefIn K mg "_law_due" s_law_due
  d_law_keeps : DefIn K mg "_law_keeps" s_law_keeps
  d_law_horizons : DefIn K mg "_law_horizons" s_law_horizons
  d_law_told : DefIn K mg "_law_told" s_law_told
  d_law_expired : DefIn K mg "_law_expired" s_law_expired
  d_law_stands : DefIn K mg "_law_stands" s_law_stands
  d_law_finest_right : DefIn K mg "_law_finest_right" s_law_finest_right
  d_law_deed_right : DefIn K mg "_law_deed_right" s_law_deed_right
  e_Feq : MetIn K cF "__eq__" "Fold.__eq__" s_Feq
  e_look : MetIn K cG "look" "Grains.look" s_look
  e_fold_at : MetIn K cG "fold_at" "Grains.fold_at" s_fold_at
  e_cells_of : MetIn K cG "cells_of" "Grains.cells_of" s_cells_of
  e_renew : MetIn K cG "renew" "Grains.renew" s_renew
  e_made_anew : MetIn K cG "made_anew" "Grains.made_anew" s_made_anew
  e_whole_of : MetIn K cG "whole_of" "Grains.whole_of" s_whole_of
  e_let_go : MetIn K cG "let_go" "Grains.let_go" s_let_go
  e_right : MetIn K cG "right" "Grains.right" s_right
  e_right_by : MetIn K cG "right_by" "Grains.right_by" s_right_by
  e_moved_to : MetIn K cK "moved_to" "Keeping.moved_to" s_moved_to
  e_expire : MetIn K cK "expire" "Keeping.expire" s_expire
  e_finest : MetIn K cK "finest" "Keeping.finest" s_finest
  e_edge_of : MetIn K cE "edge_of" "Edges.edge_of" s_edge_of
  b_isinstance : mg "isinstance" = none
  b_max : mg "max" = none
  b_min : mg "min" = none
  b_len : mg "len" = none
  b_enumerate : mg "enumerate" = none
  b_sorted : mg "sorted" = none
  b_set : mg "set" = none
  b_tuple : mg "tuple" = none
  b_zip : mg "zip" = none
  b_all : mg "all" = none
  b_sum : mg "sum" = none
  b_range : mg "range" = none
  b_dict : mg "dict" = none
/-- the tables of the three defs that make lambdas -/
def Ev.T {K : PySem.W.Frag} {mg : Str → Option Value} {base : Heap} (T : Ev K mg base) : List (Addr × Str) := [(T.tS.2, "summed.<locals>.<lambda>"), (T.tM.2, "Edges.moved.<locals>.<lambda>"), (T.tR.2, "_law_renewed.<locals>.<lambda>")]
/-! ### rules -/
theorem peMono {X : Cx} {e : Expr} {t t' : TE} (h : PE X e t) (m : ∀ σ H Q, t' σ H Q → t σ H Q) : PE X e t' := ⟨fun pins s σ H Q I q => h.run pins s σ H Q I (m σ H Q q)⟩
def tFin0 (tb tf : TS) : TS := fun D σ H => tb { nx := fun σ1 H1 => tf D σ1 H1, rt := fun _ _ => False } σ H
theorem ps_fin0 {X : Cx} {body fs : List Stmt} {f₀ : Stmt} {pos : Pos} {tb tf : TS} (hb : PSs X.nox body tb) (hf : PSs X.nox (f₀ :: fs) tf) : PS X (.Try body [] [] (f₀ :: fs) pos) (tFin0 tb tf) := by
  refine ⟨fun pins s σ H D I h => ?_⟩
  refine wpAny_Try_finally (wpAny_mono (hb.run pins s σ H _ (I.wish _) h) (fun f s1 z => ?_) fun _ _ z => False.elim z)
  have z' := SP.unwish z
  cases f with
  | next =>
    obtain ⟨σ1, H1, I1, q⟩ := z'
    refine wpAny_execs_nil (wpAny_mono (hf.run pins s1 σ1 H1 D (I1.wish _) q) (fun g s2 y => ?_) fun _ _ z => False.elim z)
    have y' := SP.unwish y
    cases g <;> exact y'
  | ret u =>
    obtain ⟨v, σ1, H1, I1, rv, q⟩ := z'
    exact q.elim
  | brk =>
    obtain ⟨σ1, H1, I1, q⟩ := z'
    exact q.elim
  | cont =>
    obtain ⟨σ1, H1, I1, q⟩ := z'
    exact q.elim
section
variable {P : Program} {w : World} {K : PySem.W.Frag} {mg : Str → Option Value} {base : Heap} {x qual : Str} {params : Arguments} {body : List Stmt} {scope : Scope} {kws : List (Str × V)} {f : Addr} {fd : FuncData}
/-- the rule of a def, its code object told -/
theorem okC {N ps : List Str} {k : Nat} {sp : Sp} (F : FunD K x qual params body scope [] kws f fd) (S : FnScope N ps scope) (len : ∀ vs H Q E, sp vs H Q E → vs.length = ps.length)
    (hbody : ∀ (cdv : Value) (A : Around) (outer : List Env) (s : Shared) (H : Hp) (vs : List V) (Q : VK) (E : XK), fd.code = cdv → Room k (A.deeper (envOfC qual scope s.heap.objs.size f cdv)) → sp vs H Q E →
      ∃ t, PSs (cxOf CX0 P w K mg base N qual scope f cdv A outer s H E).nox body t ∧ t { nx := fun _ H' => Q .non H', rt := Q } (start N vs) H) : FnOk P w K mg base CX0 (k + 1) f fd ps sp := by
  obtain ⟨oc, od, dV, kV, doc, pm, an, cdv, ct, osl, rfl, lk, hcd, _, _⟩ := F.ex
  exact fn_of lk hcd S len fun A outer s H vs Q E hr hsp => (hbody cdv A outer s H vs Q E rfl hr hsp).elim fun t ⟨h, q⟩ => ⟨t, h.nox, q⟩
theorem calD {st : Stmt} {N ps : List Str} {k : Nat} {sp : Sp} (F : DefIn K mg x st) (S : FnScope N ps (defScope st))
    (hb : ∀ (kV doc pm : Value) (an : Option Addr) (cdv ct : Value) (us : List Value), us.length = ps.length → bindArgs (PySem.W.fnOf x x (defArgs st) (defBody st) (defScope st) .none kV doc pm an cdv ct) ⟨us, []⟩ = pure (ps.zip us))
    (len : ∀ vs H Q E, sp vs H Q E → vs.length = ps.length)
    (hbody : ∀ (f : Addr) (cdv : Value) (A : Around) (outer : List Env) (s : Shared) (H : Hp) (vs : List V) (Q : VK) (E : XK), Room k (A.deeper (envOfC x (defScope st) s.heap.objs.size f cdv)) → sp vs H Q E →
      ∃ t, PSs (cxOf CX0 P w K mg base N x (defScope st) f cdv A outer s H E).nox (defBody st) t ∧ t { nx := fun _ H' => Q .non H', rt := Q } (start N vs) H) : C8.Cal P w K mg base (k + 1) x sp [] := by
  obtain ⟨f, fd, F, hm⟩ := F
  exact ⟨f, fd, ps, [], F.ok S len fun cdv A outer s H vs Q E hr h => (hbody f cdv A outer s H vs Q E hr h).elim fun t ⟨h, q⟩ => ⟨t, h.nox, q⟩, hm, F.kp, F.bindsN hb, .nil⟩
theorem metD {m : Str} {C : Addr} {st : Stmt} {N ps : List Str} {k : Nat} {sp : Sp} (c : Cls K C) (F : MetIn K C m qual st) (S : FnScope N ps (defScope st))
    (hb : ∀ (kV doc pm : Value) (an : Option Addr) (cdv ct : Value) (us : List Value), us.length = ps.length → bindArgs (PySem.W.fnOf m qual (defArgs st) (defBody st) (defScope st) .none kV doc pm an cdv ct) ⟨us, []⟩ = pure (ps.zip us))
    (len : ∀ vs H Q E, sp vs H Q E → vs.length = ps.length)
    (hbody : ∀ (f : Addr) (cdv : Value) (A : Around) (outer : List Env) (s : Shared) (H : Hp) (vs : List V) (Q : VK) (E : XK), Room k (A.deeper (envOfC qual (defScope st) s.heap.objs.size f cdv)) → sp vs H Q E →
      ∃ t, PSs (cxOf CX0 P w K mg base N qual (defScope st) f cdv A outer s H E).nox (defBody st) t ∧ t { nx := fun _ H' => Q .non H', rt := Q } (start N vs) H) : C8.Met P w K mg base (k + 1) C m sp [] := by
  obtain ⟨f, fd, F, hm⟩ := F
  exact ⟨f, fd, ps, [], c, hm, F.ok S len fun cdv A outer s H vs Q E hr h => (hbody f cdv A outer s H vs Q E hr h).elim fun t ⟨h, q⟩ => ⟨t, h.nox, q⟩, F.bindsN hb, .nil⟩
end
/-! ### heaps -/
/-- all tracked things stay but those at M (tuples and Folds there too) and the tables, which grow -/
def tupO : HO → Prop
  | .tup _ => True
  | .frz _ (.tup _) => True
  | _ => False
def stays (C : Addr) (M : List Addr) (b : Addr) (o : HO) : Prop := (b ∉ M ∧ ∀ ps, o ≠ .tbl ps) ∨ tupO o ∨ ∃ dx fs, o = .ins C dx fs
structure Kp (C : Addr) (T : List (Addr × Str)) (M : List Addr) (H H' : Hp) : Prop where
  st : ∀ b o, H b = some o → stays C M b o → H' b = some o
  tb : Tabs T H → Tabs T H'
section
variable {C : Addr} {T : List (Addr × Str)} {M M' : List Addr} {H H1 H2 : Hp}
theorem Kp.refl (H : Hp) : Kp C T M H H := ⟨fun _ _ h _ => h, id⟩
theorem Kp.trans (a : Kp C T M H H1) (b : Kp C T M H1 H2) : Kp C T M H H2 := ⟨fun c o h n => b.st c o (a.st c o h n) n, fun t => b.tb (a.tb t)⟩
theorem Kp.mono (a : Kp C T M H H1) (h : ∀ b ∈ M, b ∈ M') : Kp C T M' H H1 := ⟨fun c o e n => a.st c o e (n.elim (fun z => .inl ⟨fun m => z.1 (h _ m), z.2⟩) .inr), a.tb⟩
theorem Kp.of (s : Same H H1) : Kp C T M H H1 := ⟨fun b o e _ => s b o e, fun t => t.ext s⟩
theorem Kp.tup (a : Kp C T M H H1) {b : Addr} {xs : List V} (h : H b = some (.tup xs)) : H1 b = some (.tup xs) := a.st b _ h (.inr (.inl trivial))
theorem Kp.fold (a : Kp C T M H H1) {b dx : Addr} {fs : List (Str × V)} (h : H b = some (.ins C dx fs)) : H1 b = some (.ins C dx fs) := a.st b _ h (.inr (.inr ⟨dx, fs, rfl⟩))
theorem Kp.at (a : Kp C T M H H1) {b : Addr} {o : HO} (h : H b = some o) (hb : b ∉ M) (ht : ∀ ps, o ≠ .tbl ps := by intro _ z; cases z) : H1 b = some o := a.st b _ h (.inl ⟨hb, ht⟩)
theorem Same.new {p : Addr} {o : HO} (h : H p = none) : Same H (upd H p o) := fun b u e => by
  rw [upd_ne (ne_of_none e h)]
  exact e
theorem Kp.new {p : Addr} {o : HO} (h : H p = none) : Kp C T M H (upd H p o) := .of (Same.new h)
/-- a thing at M is written: no tuple, no Fold, no table, no code object -/
def wr (C : Addr) : HO → Prop
  | .tup _ => False
  | .frz _ (.tup _) => False
  | .ins D _ _ => C ≠ D
  | .tbl _ => False
  | .ext _ => False
  | _ => True
theorem tup_wr {o : HO} (h : tupO o) (k : wr C o) : False := by
  cases o with
  | tup _ => exact k
  | frz _ u => cases u <;> first | exact k | exact h
  | _ => exact h
theorem Kp.set {p : Addr} {o u : HO} (h : H p = some u) (hp : p ∈ M) (hw : wr C u) : Kp C T M H (upd H p o) := by
  refine ⟨fun b v e n => ?_, fun t q hq => ?_⟩
  · by_cases hb : b = p
    · subst hb
      rw [h] at e
      cases e
      rcases n with z | z | ⟨dx, fs, z⟩
      · exact absurd hp z.1
      · exact (tup_wr z hw).elim
      · rw [z] at hw
        exact (hw rfl).elim
    · rw [upd_ne hb]
      exact e
  · obtain ⟨ps, e1, e2, e3⟩ := t q hq
    refine ⟨ps, ?_, e2, fun pos cv hc => ?_⟩
    · rw [upd_ne fun z => ?_]
      · exact e1
      · rw [z, h] at e1
        cases e1
        exact hw
    · obtain ⟨c, e4, e5⟩ := e3 pos cv hc
      refine ⟨c, e4, ?_⟩
      rw [upd_ne fun z => ?_]
      · exact e5
      · rw [z, h] at e5
        unfold CodeO at e5
        cases e5
        exact hw
end
/-- a tuple whose own object is known -/
structure WT (H : Hp) (a : Addr) (xs : List V) : Prop where
  ex : ∃ o, H a = some (.frz o (.tup xs)) ∧ o.cls = .type "tuple" ∧ o.dict = none
theorem WT.kp {C : Addr} {T : List (Addr × Str)} {M : List Addr} {H H' : Hp} {a : Addr} {xs : List V} (k : Kp C T M H H') (h : WT H a xs) : WT H' a xs := let ⟨o, e, c, d⟩ := h.ex; ⟨o, k.st a _ e (.inr (.inl trivial)), c, d⟩
theorem WT.sm {H H' : Hp} {a : Addr} {xs : List V} (k : Same H H') (h : WT H a xs) : WT H' a xs := let ⟨o, e, c, d⟩ := h.ex; ⟨o, k _ _ e, c, d⟩
theorem WT.sq {K : PySem.W.Frag} {H : Hp} {a : Addr} {xs : List V} (h : WT H a xs) : SqT K H a xs := let ⟨o, e, _, _⟩ := h.ex; .inl (.inr ⟨o, e⟩)
theorem WT.new {H : Hp} {p : Addr} {o : Obj} {xs : List V} (c : o.cls = .type "tuple") (d : o.dict = none) : WT (upd H p (.frz o (.tup xs))) p xs := ⟨o, upd_same, c, d⟩
/-- (..), its object told -/
def tTupF (ta : TA) : TE := fun σ H Q => ta σ H fun vs H1 => vs.length ≤ sizeLine ∧ ∀ p o, H1 p = none → o.cls = .type "tuple" → o.dict = none → Q (.ref p) (upd H1 p (.frz o (.tup vs)))
theorem pe_tupF {X : Cx} {es : List Expr} {t : TA} {pos : Pos} {x1} (h : PA X es t) : PE X (.Tuple es x1 pos) (tTupF t) := by
  refine ⟨fun pins s σ H Q I hq => ?_⟩
  refine wpAny_Tuple_spliced (thn (h.run pos pins s σ H _ I hq) fun us s1 ⟨xs, H1, I1, r, z, q⟩ => ⟨by rw [← r.length]; exact z, ?_⟩)
  have hf : H1 s1.heap.objs.size = none := I1.hok.fresh (Nat.le_refl _)
  refine ⟨.ref s1.heap.objs.size, upd H1 s1.heap.objs.size (.frz _ (.tup xs)), I1.laid (t' := s1.toks) (fun b u e => Heap.get?_push_of_some _ e) (Nat.le_refl _) ?_, rfl, q _ { cls := .type "tuple", data := .seq us.toArray } hf rfl rfl⟩
  exact ⟨Heap.get?_push_size _ rfl, z, us, r, ⟨_, Heap.get?_push_size _ rfl, rfl, _, rfl⟩⟩
/-- t.m(..), t a tuple whose own object is known -/
def tBMF (r : V → List V → Hp → VK → Prop) (to : TE) (t : TA) : TE := fun σ H Q => to σ H fun x H1 => (∃ a xs, x = .ref a ∧ WT H1 a xs) ∧ t σ H1 fun xs H2 => r x xs H2 Q
theorem pe_bmF {X : Cx} {o e : Expr} {es : List Expr} {to : TE} {t : TA} {name : Str} {apos cpos : Pos} {id : String} {r : V → List V → Hp → VK → Prop} (pa : PlainAttrs "tuple") (slot : Slot "tuple" name id) (hty : typeOf (.builtin id) = pure (.type "method_descriptor")) (hm : MtR X id r) (ho : PE X o to) (ha : PA X (e :: es) t)
    (hbase : attributeBase o name X.env (eval o X.env) = eval o X.env := by rfl)
    (hfew : ((backTo cpos (starEach (e :: es) X.env)).all (fun x => !x.1) && (backToKw cpos (keywordEach [] X.env)).all (fun x => x.1.isSome)
      && decide ((e :: es).length + ([] : List Keyword).length + (if ([] : List Keyword).isEmpty then 0 else 1) < 30)) = true := by rfl)
    (hline : (apos.endLine == cpos.line) = true := by rfl) (hs : starEach (e :: es) X.env = (false, eval e X.env) :: starEach es X.env := by rfl) (hplain : (backTo cpos (starEach es X.env)).any (·.1) = false := by rfl) :
    PE X (.Call (.Attribute o name apos) (e :: es) [] cpos) (tBMF r to t) := by
  refine ⟨fun pins s σ H Q I h => ?_⟩
  refine wpAny_Call_method_late hbase hfew hline rfl (thn (ho.run pins s σ H _ I h) fun v s1 z => ?_)
  obtain ⟨x, H1, I1, r1, ⟨a, xs, ex, ob, e, c, d⟩, q1⟩ := z
  subst ex
  obtain rfl : v = Value.ref a := r1
  obtain ⟨hob, _⟩ := I1.hok _ _ e
  refine ⟨"tuple", id, pa, slot, hty, ⟨ob, hob, c⟩, fun a' e' => by cases e'; exact ⟨ob, hob, d⟩, ?_⟩
  have hA := ha.run cpos pins s1 σ H1 _ I1 q1
  rw [hs] at hA ⊢
  refine Calls.callWith_builtin (by show (false || (backTo cpos (starEach es X.env)).any (·.1)) = false; rw [hplain] <;> rfl) (Calls.evalArgs_plain ?_)
  exact thn hA fun us s2 ⟨vs, H2, I2, r2, q2⟩ => hm pins s2 σ H2 (.ref a) vs _ us Q I2 rfl r2 q2
end Tg
/-! TgMath -/
set_option Elab.async false
set_option linter.all false
set_option maxRecDepth 100000
/-! plain mathematics: folds, cells, tables -/
namespace TgM
abbrev Pt := Int × Int
structure Fd where
  count : Int
  total : Int
  squares : Int
  least : Option Int
  greatest : Option Int
  first : Option Pt
  last : Option Pt
  rise : Int
  held : Int
deriving DecidableEq
def F0 : Fd := ⟨0, 0, 0, none, none, none, none, 0, 0⟩
def stp (a b : Int) : Int := if b ≥ a then b - a else (if (0 : Int) > b then 0 else b)
def mn : Option Int → Option Int → Option Int
  | none, b => b
  | some a, none => some a
  | some a, some b => some (if b < a then b else a)
def mx : Option Int → Option Int → Option Int
  | none, b => b
  | some a, none => some a
  | some a, some b => some (if b > a then b else a)
def loL : List Int → Option Int
  | [] => none
  | a :: r => mn (some a) (loL r)
def hiL : List Int → Option Int
  | [] => none
  | a :: r => mx (some a) (hiL r)
def sm : List Int → Int
  | [] => 0
  | a :: r => a + sm r
def riseL : List Pt → Int
  | [] => 0
  | [_] => 0
  | p :: q :: r => stp p.2 q.2 + riseL (q :: r)
def heldL : List Pt → Int
  | [] => 0
  | [_] => 0
  | p :: q :: r => p.2 * (q.1 - p.1) + heldL (q :: r)
def fo (l : List Pt) : Fd := ⟨(l.length : Int), sm (l.map (·.2)), sm (l.map fun p => p.2 * p.2), loL (l.map (·.2)), hiL (l.map (·.2)), l.head?, l.getLast?, riseL l, heldL l⟩
theorem fo_nil : fo [] = F0 := rfl
theorem fo_one (p : Pt) : fo [p] = ⟨1, p.2, p.2 * p.2, some p.2, some p.2, some p, some p, 0, 0⟩ := by simp [fo, sm, loL, hiL, mn, mx, riseL, heldL]
theorem mn_assoc (a b c : Option Int) : mn (mn a b) c = mn a (mn b c) := by
  cases a <;> cases b <;> cases c <;> simp [mn] <;> grind
theorem mx_assoc (a b c : Option Int) : mx (mx a b) c = mx a (mx b c) := by
  cases a <;> cases b <;> cases c <;> simp [mx] <;> grind
theorem mn_none (a : Option Int) : mn a none = a := by cases a <;> rfl
theorem mx_none (a : Option Int) : mx a none = a := by cases a <;> rfl
theorem lo_append (xs ys : List Int) : loL (xs ++ ys) = mn (loL xs) (loL ys) := by
  induction xs with
  | nil => rfl
  | cons a r ih => simp only [List.cons_append, loL, ih, mn_assoc]
theorem hi_append (xs ys : List Int) : hiL (xs ++ ys) = mx (hiL xs) (hiL ys) := by
  induction xs with
  | nil => rfl
  | cons a r ih => simp only [List.cons_append, hiL, ih, mx_assoc]
theorem sm_append (xs ys : List Int) : sm (xs ++ ys) = sm xs + sm ys := by
  induction xs with
  | nil => simp [sm]
  | cons a r ih => simp only [List.cons_append, sm, ih]; omega
theorem sm_sum (xs : List Int) : xs.sum = sm xs := by
  induction xs with
  | nil => rfl
  | cons a r ih => simp [sm, ih]
theorem loL_spec : ∀ {ns : List Int} {m : Int}, m ∈ ns → (∀ y ∈ ns, m ≤ y) → loL ns = some m
  | [], m, h, _ => by simp at h
  | a :: r, m, h, hm => by
    have ha := hm a (by simp)
    cases r with
    | nil =>
      simp at h
      subst h
      rfl
    | cons b r =>
      by_cases e : m ∈ b :: r
      · have ih := loL_spec e fun y hy => hm y (by simp [hy])
        simp only [loL] at ih ⊢
        rw [ih]
        simp [mn]
        omega
      · have e' : m = a := by
          rcases List.mem_cons.mp h with z | z
          · exact z
          · exact absurd z e
        subst e'
        cases q : loL (b :: r) with
        | none =>
          show mn (some m) (loL (b :: r)) = _
          rw [q]
          rfl
        | some c =>
          have hc : c ∈ b :: r := lo_mem q
          have := hm c (List.mem_cons_of_mem _ hc)
          show mn (some m) (loL (b :: r)) = _
          rw [q]
          simp [mn]
          omega
where lo_mem : ∀ {ns : List Int} {c : Int}, loL ns = some c → c ∈ ns
  | [], c, h => by simp [loL] at h
  | a :: r, c, h => by
    cases q : loL r with
    | none =>
      simp [loL, q, mn] at h
      simp [h]
    | some d =>
      have := lo_mem q
      simp only [loL, q, mn] at h
      split at h <;> grind
theorem hiL_spec : ∀ {ns : List Int} {m : Int}, m ∈ ns → (∀ y ∈ ns, y ≤ m) → hiL ns = some m
  | [], m, h, _ => by simp at h
  | a :: r, m, h, hm => by
    have ha := hm a (by simp)
    cases r with
    | nil =>
      simp at h
      subst h
      rfl
    | cons b r =>
      by_cases e : m ∈ b :: r
      · have ih := hiL_spec e fun y hy => hm y (by simp [hy])
        simp only [hiL] at ih ⊢
        rw [ih]
        simp [mx]
        omega
      · have e' : m = a := by
          rcases List.mem_cons.mp h with z | z
          · exact z
          · exact absurd z e
        subst e'
        cases q : hiL (b :: r) with
        | none =>
          show mx (some m) (hiL (b :: r)) = _
          rw [q]
          rfl
        | some c =>
          have hc : c ∈ b :: r := hi_mem q
          have := hm c (List.mem_cons_of_mem _ hc)
          show mx (some m) (hiL (b :: r)) = _
          rw [q]
          simp [mx]
          omega
where hi_mem : ∀ {ns : List Int} {c : Int}, hiL ns = some c → c ∈ ns
  | [], c, h => by simp [hiL] at h
  | a :: r, c, h => by
    cases q : hiL r with
    | none =>
      simp [hiL, q, mx] at h
      simp [h]
    | some d =>
      have := hi_mem q
      simp only [hiL, q, mx] at h
      split at h <;> grind
theorem riseL_append : ∀ (xs ys : List Pt) (p q : Pt), xs.getLast? = some p → ys.head? = some q → riseL (xs ++ ys) = riseL xs + riseL ys + stp p.2 q.2
  | [], ys, p, q, h, _ => by simp at h
  | [a], [], p, q, _, h => by simp at h
  | [a], b :: ys, p, q, h, h' => by
    simp at h h'
    subst h h'
    simp [riseL]
    omega
  | a :: b :: xs, ys, p, q, h, h' => by
    have ih := riseL_append (b :: xs) ys p q (by simpa using h) h'
    simp only [List.cons_append, riseL] at ih ⊢
    omega
theorem heldL_append : ∀ (xs ys : List Pt) (p q : Pt), xs.getLast? = some p → ys.head? = some q → heldL (xs ++ ys) = heldL xs + heldL ys + p.2 * (q.1 - p.1)
  | [], ys, p, q, h, _ => by simp at h
  | [a], [], p, q, _, h => by simp at h
  | [a], b :: ys, p, q, h, h' => by
    simp at h h'
    subst h h'
    simp [heldL]
    omega
  | a :: b :: xs, ys, p, q, h, h' => by
    have ih := heldL_append (b :: xs) ys p q (by simpa using h) h'
    simp only [List.cons_append, heldL] at ih ⊢
    omega
/-- two folds that hold points -/
theorem fo_append {xs ys : List Pt} {p q : Pt} (h : xs.getLast? = some p) (h' : ys.head? = some q) : fo (xs ++ ys) =
    ⟨(fo xs).count + (fo ys).count, (fo xs).total + (fo ys).total, (fo xs).squares + (fo ys).squares, mn (fo xs).least (fo ys).least, mx (fo xs).greatest (fo ys).greatest, (fo xs).first, (fo ys).last,
      (fo xs).rise + (fo ys).rise + stp p.2 q.2, (fo xs).held + (fo ys).held + p.2 * (q.1 - p.1)⟩ := by
  have hx : xs ≠ [] := by intro z; subst z; simp at h
  have hy : ys ≠ [] := by intro z; subst z; simp at h'
  simp only [fo, List.map_append, sm_append, lo_append, hi_append, riseL_append xs ys p q h h', heldL_append xs ys p q h h', List.length_append, Fd.mk.injEq, true_and, and_true]
  refine ⟨by omega, ?_, ?_⟩
  · cases xs with
    | nil => exact absurd rfl hx
    | cons a r => rfl
  · rw [List.getLast?_append]
    cases e : ys.getLast? with
    | none =>
      rw [List.getLast?_eq_none_iff] at e
      exact absurd e hy
    | some z => rfl
theorem fo_count_zero {l : List Pt} : (fo l).count = 0 ↔ l = [] := by
  cases l with
  | nil => simp [fo]
  | cons a r => simp [fo]; omega
theorem fo_count_nn (l : List Pt) : 0 ≤ (fo l).count := by simp [fo]
theorem fo_inj_nil {l : List Pt} (h : fo l = F0) : l = [] := fo_count_zero.mp (by rw [h]; rfl)

/-! ### sorted tables -/
def Srt (l : List Pt) : Prop := l.Pairwise fun p q => p.1 < q.1
theorem srt_ext : ∀ {xs ys : List Pt}, Srt xs → Srt ys → (∀ p, p ∈ xs ↔ p ∈ ys) → xs = ys
  | [], [], _, _, _ => rfl
  | [], y :: ys, _, _, h => by have := (h y).mpr (by simp); simp at this
  | x :: xs, [], _, _, h => by have := (h x).mp (by simp); simp at this
  | x :: xs, y :: ys, h1, h2, h => by
    unfold Srt at h1 h2
    rw [List.pairwise_cons] at h1 h2
    have e : x = y := by
      have a := (h x).mp (by simp)
      have b := (h y).mpr (by simp)
      rcases List.mem_cons.mp a with a | a
      · exact a
      · rcases List.mem_cons.mp b with b | b
        · exact b.symm
        · have := h1.1 y b
          have := h2.1 x a
          omega
    subst e
    have nx : ∀ p ∈ xs, p ≠ x := fun p hp z => by have := h1.1 p hp; rw [z] at this; omega
    have ny : ∀ p ∈ ys, p ≠ x := fun p hp z => by have := h2.1 p hp; rw [z] at this; omega
    have : xs = ys := srt_ext h1.2 h2.2 fun p => by
      constructor
      · intro hp
        rcases List.mem_cons.mp ((h p).mp (List.mem_cons_of_mem _ hp)) with z | z
        · exact absurd z (nx p hp)
        · exact z
      · intro hp
        rcases List.mem_cons.mp ((h p).mpr (List.mem_cons_of_mem _ hp)) with z | z
        · exact absurd z (ny p hp)
        · exact z
    rw [this]
theorem Srt.filter {l : List Pt} (h : Srt l) (p : Pt → Bool) : Srt (l.filter p) := List.Pairwise.filter p h
theorem Srt.inj {l : List Pt} (h : Srt l) {p q : Pt} (hp : p ∈ l) (hq : q ∈ l) (e : p.1 = q.1) : p = q := by
  induction l with
  | nil => simp at hp
  | cons a r ih =>
    unfold Srt at h
    rw [List.pairwise_cons] at h
    rcases List.mem_cons.mp hp with z | z
    · rcases List.mem_cons.mp hq with y | y
      · rw [z, y]
      · have := h.1 q y
        rw [z] at e
        omega
    · rcases List.mem_cons.mp hq with y | y
      · have := h.1 p z
        rw [y] at e
        omega
      · exact ih h.2 z y
/-- the points from s on, below e -/
def pin (tb : List Pt) (s e : Int) : List Pt := tb.filter fun p => decide (s ≤ p.1) && decide (p.1 < e)
theorem mem_pin {tb : List Pt} {s e : Int} {p : Pt} : p ∈ pin tb s e ↔ p ∈ tb ∧ s ≤ p.1 ∧ p.1 < e := by simp [pin]
theorem pin_srt {tb : List Pt} (h : Srt tb) (s e : Int) : Srt (pin tb s e) := h.filter _
/-- the cell of a time -/
def cel (t w : Int) : Int := t / w * w
theorem cel_le {t w : Int} (hw : 0 < w) : cel t w ≤ t := by
  unfold cel
  have := Int.emod_add_mul_ediv t w
  have := Int.emod_nonneg t (by omega : w ≠ 0)
  rw [Int.mul_comm]
  omega
theorem lt_cel {t w : Int} (hw : 0 < w) : t < cel t w + w := by
  unfold cel
  have := Int.emod_add_mul_ediv t w
  have := Int.emod_lt_of_pos t hw
  rw [Int.mul_comm (t / w) w]
  omega
theorem cel_dvd (t w : Int) : w ∣ cel t w := ⟨t / w, by unfold cel; rw [Int.mul_comm]⟩
/-- a multiple at most t is at most t's cell -/
theorem le_cel {t w h : Int} (hw : 0 < w) (hd : w ∣ h) (hl : h ≤ t) : h ≤ cel t w := by
  obtain ⟨k, rfl⟩ := hd
  have h1 := lt_cel (t := t) hw
  obtain ⟨m, hm⟩ := cel_dvd t w
  rw [hm] at h1 ⊢
  have h2 : w * k < w * (m + 1) := by rw [Int.mul_add, Int.mul_one]; omega
  have h3 : k < m + 1 := Int.lt_of_mul_lt_mul_left h2 (by omega)
  exact Int.mul_le_mul_of_nonneg_left (by omega) (by omega)
theorem cel_eq {t w s : Int} (hw : 0 < w) (hd : w ∣ s) (h1 : s ≤ t) (h2 : t < s + w) : cel t w = s := by
  have a := le_cel hw hd h1
  have b := cel_le (t := t) hw
  obtain ⟨k, rfl⟩ := hd
  obtain ⟨m, hm⟩ := cel_dvd t w
  rw [hm] at a b ⊢
  have h3 : w * m < w * (k + 1) := by rw [Int.mul_add, Int.mul_one]; omega
  have h4 : m < k + 1 := Int.lt_of_mul_lt_mul_left h3 (by omega)
  have h5 : k ≤ m := by
    by_cases h6 : k ≤ m
    · exact h6
    · have h7 : w * (m + 1) ≤ w * k := Int.mul_le_mul_of_nonneg_left (by omega) (by omega)
      rw [Int.mul_add, Int.mul_one] at h7
      omega
  have : m = k := by omega
  rw [this]
theorem cel_mono {t w v : Int} (hw : 0 < w) (hv : 0 < v) (hd : w ∣ v) : cel t v ≤ cel t w := le_cel hw (Int.dvd_trans hd (cel_dvd t v)) (cel_le hv)
/-- the finer cell lies within the wider one -/
theorem cel_in {t w v : Int} (hw : 0 < w) (hv : 0 < v) (hd : w ∣ v) : cel t w + w ≤ cel t v + v := by
  have h1 := lt_cel (t := t) hv
  have h0 := cel_le (t := t) hw
  obtain ⟨a, ha⟩ := cel_dvd t w
  obtain ⟨b, hb⟩ := Int.dvd_add (Int.dvd_trans hd (cel_dvd t v)) hd
  rw [ha] at h0 ⊢
  rw [hb] at h1 ⊢
  have h2 : w * a < w * b := by omega
  have h3 : a < b := Int.lt_of_mul_lt_mul_left h2 (by omega)
  have h4 : w * (a + 1) ≤ w * b := Int.mul_le_mul_of_nonneg_left (by omega) (by omega)
  rw [Int.mul_add, Int.mul_one] at h4
  exact h4
theorem mem_cell {tb : List Pt} {w s : Int} {p : Pt} (hw : 0 < w) (hd : w ∣ s) : p ∈ pin tb s (s + w) ↔ p ∈ tb ∧ cel p.1 w = s := by
  rw [mem_pin]
  constructor
  · rintro ⟨h, h1, h2⟩
    exact ⟨h, cel_eq hw hd h1 h2⟩
  · rintro ⟨h, rfl⟩
    exact ⟨h, cel_le hw, lt_cel hw⟩
/-- a wide cell's points are the points of its cells, one behind another -/
theorem pin_cells {tb : List Pt} (ht : Srt tb) {w s e : Int} (hw : 0 < w) (hs : w ∣ s) (he : w ∣ e) : ∀ (ks : List Int), ks.Pairwise (· < ·) → (∀ k ∈ ks, w ∣ k ∧ s ≤ k ∧ k < e) →
    (∀ p ∈ tb, s ≤ p.1 → p.1 < e → cel p.1 w ∈ ks) → ks.flatMap (fun k => pin tb k (k + w)) = pin tb s e := by
  intro ks hk hm hp
  refine srt_ext ?_ (pin_srt ht s e) fun p => ?_
  · clear hp
    induction ks with
    | nil => simp [Srt]
    | cons k ks ih =>
      rw [List.pairwise_cons] at hk
      rw [List.flatMap_cons]
      unfold Srt
      rw [List.pairwise_append]
      refine ⟨pin_srt ht _ _, ih hk.2 fun j hj => hm j (List.mem_cons_of_mem _ hj), fun a ha b hb => ?_⟩
      obtain ⟨j, hj, hb⟩ := List.mem_flatMap.mp hb
      rw [mem_pin] at ha hb
      have h1 := hk.1 j hj
      obtain ⟨x, hx⟩ := (hm k (by simp)).1
      obtain ⟨y, hy⟩ := (hm j (List.mem_cons_of_mem _ hj)).1
      have h2 : x < y := Int.lt_of_mul_lt_mul_left (a := w) (by omega) (by omega)
      have h3 : w * (x + 1) ≤ w * y := Int.mul_le_mul_of_nonneg_left (by omega) (by omega)
      rw [Int.mul_add, Int.mul_one] at h3
      omega
  · rw [List.mem_flatMap, mem_pin]
    constructor
    · rintro ⟨k, hk', h⟩
      obtain ⟨hd, h1, h2⟩ := hm k hk'
      rw [mem_cell hw hd] at h
      obtain ⟨h3, h4⟩ := h
      have h5 := cel_le (t := p.1) hw
      have h6 := lt_cel (t := p.1) hw
      rw [h4] at h5 h6
      obtain ⟨x, hx⟩ := hd
      obtain ⟨y, hy⟩ := he
      have h7 : x < y := Int.lt_of_mul_lt_mul_left (a := w) (by omega) (by omega)
      have h8 : w * (x + 1) ≤ w * y := Int.mul_le_mul_of_nonneg_left (by omega) (by omega)
      rw [Int.mul_add, Int.mul_one] at h8
      exact ⟨h3, by omega, by omega⟩
    · rintro ⟨h1, h2, h3⟩
      refine ⟨cel p.1 w, hp p h1 h2 h3, ?_⟩
      rw [mem_cell hw (cel_dvd _ _)]
      exact ⟨h1, rfl⟩
end TgM
/-! TgD0 -/
set_option Elab.async false
set_option linter.all false
set_option maxRecDepth 100000
set_option maxHeartbeats 4000000
/-! Folds in the heap; Fold(..) -/
namespace Tg
open PySem PySem.Spec PyProof.Rows L2 LamX TgM
theorem dv {i j : Int} (h : 0 < j) (h2 : j < 9223372036854775808) : CDivW i j := wide_div (b := 63) h (by omega) (by decide) (by decide)
theorem mlr {i j : Int} (h : -18446744073709551616 < j) (h2 : j < 18446744073709551616) : CMul i j := .inr ⟨by omega, by omega⟩
theorem mll {i j : Int} (h : -18446744073709551616 < i) (h2 : i < 18446744073709551616) : CMul i j := .inl ⟨by omega, by omega⟩
/-- the attributes of a Fold -/
def fdV (c t q l g f a r h : V) : List (Str × V) := [("count", c), ("total", t), ("squares", q), ("least", l), ("greatest", g), ("first", f), ("last", a), ("rise", r), ("held", h)]
section
variable {P : Program} {w : World} {K : PySem.W.Frag} {mg : Str → Option Value} {base : Heap}
def sp_Finit (C : Addr) : Sp := fun vs H Q _ => ∃ (x dx : Addr) (c t q l g f a r h : V), vs = [.ref x, c, t, q, l, g, f, a, r, h] ∧ H x = some (.ins C dx []) ∧
  ∀ H', H' x = some (.ins C dx (fdV c t q l g f a r h)) → (∀ b, b ≠ x → H' b = H b) → Q .non H'
theorem sc_Finit : FnScope ["self", "count", "total", "squares", "least", "greatest", "first", "last", "rise", "held"] ["self", "count", "total", "squares", "least", "greatest", "first", "last", "rise", "held"] (defScope s_Finit) := ⟨rfl, rfl, rfl, by decide +kernel, rfl, by decide +kernel, by decide +kernel⟩
theorem k_Finit (T : Ev K mg base) {f : Addr} {fd : FuncData} (F : FunD K "__init__" "Fold.__init__" (defArgs s_Finit) (defBody s_Finit) (defScope s_Finit) [] kwF f fd) : FnOk P w K mg base CX0 1 f fd ["self", "count", "total", "squares", "least", "greatest", "first", "last", "rise", "held"] (sp_Finit T.cF) := by
  refine F.ok sc_Finit (fun vs H Q E h => by obtain ⟨_, _, _, _, _, _, _, _, _, _, _, rfl, _⟩ := h; rfl) (fun cdv A outer s H vs Q E hr h => ?_)
  obtain ⟨x, dx, c, t, q, l, g, fi, a, r, h, rfl, hx, k⟩ := h
  refine ⟨_, (pss_cons (ps_fld (pv 0) (pv 1) rfl)
      (pss_cons (ps_fld (pv 0) (pv 2) rfl)
      (pss_cons (ps_fld (pv 0) (pv 3) rfl)
      (pss_cons (ps_fld (pv 0) (pv 4) rfl)
      (pss_cons (ps_fld (pv 0) (pv 5) rfl)
      (pss_cons (ps_fld (pv 0) (pv 6) rfl)
      (pss_cons (ps_fld (pv 0) (pv 7) rfl)
      (pss_cons (ps_fld (pv 0) (pv 8) rfl)
      (pss_one (ps_fld (pv 0) (pv 9) rfl)))))))))), ?_⟩
  refine ⟨_, rfl, _, rfl, x, T.cF, dx, _, rfl, hx, T.clF, T.naF _ (by decide), (by decide), ?_⟩
  refine ⟨_, rfl, _, rfl, x, T.cF, dx, _, rfl, upd_same, T.clF, T.naF _ (by decide), (by show 1 < 1000; decide), ?_⟩
  refine ⟨_, rfl, _, rfl, x, T.cF, dx, _, rfl, upd_same, T.clF, T.naF _ (by decide), (by show 2 < 1000; decide), ?_⟩
  refine ⟨_, rfl, _, rfl, x, T.cF, dx, _, rfl, upd_same, T.clF, T.naF _ (by decide), (by show 3 < 1000; decide), ?_⟩
  refine ⟨_, rfl, _, rfl, x, T.cF, dx, _, rfl, upd_same, T.clF, T.naF _ (by decide), (by show 4 < 1000; decide), ?_⟩
  refine ⟨_, rfl, _, rfl, x, T.cF, dx, _, rfl, upd_same, T.clF, T.naF _ (by decide), (by show 5 < 1000; decide), ?_⟩
  refine ⟨_, rfl, _, rfl, x, T.cF, dx, _, rfl, upd_same, T.clF, T.naF _ (by decide), (by show 6 < 1000; decide), ?_⟩
  refine ⟨_, rfl, _, rfl, x, T.cF, dx, _, rfl, upd_same, T.clF, T.naF _ (by decide), (by show 7 < 1000; decide), ?_⟩
  refine ⟨_, rfl, _, rfl, x, T.cF, dx, _, rfl, upd_same, T.clF, T.naF _ (by decide), (by show 8 < 1000; decide), ?_⟩
  refine k _ ?_ fun b hb => ?_
  · rw [upd_same]
    exact congrArg (fun l => some (HO.ins T.cF dx l)) (by kernel_rfl)
  · rw [upd_ne hb, upd_ne hb, upd_ne hb, upd_ne hb, upd_ne hb, upd_ne hb, upd_ne hb, upd_ne hb, upd_ne hb]
def gF9 {α : Type} : List α → List α → List α → List α := fun us _ ws => us ++ ws
/-- Fold() -/
theorem b_F0 (F : FunD K "__init__" "Fold.__init__" (defArgs s_Finit) (defBody s_Finit) (defScope s_Finit) [] kwF f fd) : ∃ ds, Vals (kwF.map (·.2)) ds ∧ Binds K fd ["self", "count", "total", "squares", "least", "greatest", "first", "last", "rise", "held"] ds := by
  refine F.binds0 1 (by decide) rfl ?_
  intro D doc pm an cdv ct us ks hu hk
  match us, hu, ks, hk with
  | [u], _, [a, b, c, d, e, f, g, h, i], _ =>
    exact ⟨_, _, _, _, _, _, rfl, rfl, _, _, _, _, _, _, rfl, rfl, _, _, _, _, _, _, rfl, rfl, _, _, _, _, _, _, rfl, rfl, _, _, _, _, _, _, rfl, rfl, _, _, _, _, _, _, rfl, rfl, _, _, _, _, _, _, rfl, rfl, _, _, _, _, _, _, rfl, rfl, _, _, _, _, _, _, rfl, rfl, rfl⟩
def ks9 : List Str := ["count", "total", "squares", "least", "greatest", "first", "last", "rise", "held"]
def ks7 : List Str := ["count", "total", "squares", "least", "greatest", "first", "last"]
theorem b_F9 (F : FunD K "__init__" "Fold.__init__" (defArgs s_Finit) (defBody s_Finit) (defScope s_Finit) [] kwF f fd) :
    ∃ mv : List Value, KBn K fd ["self", "count", "total", "squares", "least", "greatest", "first", "last", "rise", "held"] 1 ks9 (fun us ws => us ++ ws) (fun vs zs => vs ++ zs) := by
  refine F.kbinds0 1 ks9 [] (fun us _ ws => us ++ ws) (by decide) (by intro q hq; cases hq) (fun r1 _ r3 => r1.append r3) ?_
  intro D doc pm an cdv ct us mv ws hu hm hw
  match us, hu, ws, hw with
  | [u], _, [a, b, c, d, e, f, g, h, i], _ => exact rfl
theorem b_F7 (F : FunD K "__init__" "Fold.__init__" (defArgs s_Finit) (defBody s_Finit) (defScope s_Finit) [] kwF f fd) :
    ∃ mv : List Value, KBn K fd ["self", "count", "total", "squares", "least", "greatest", "first", "last", "rise", "held"] 1 ks7 (fun us ws => us ++ (ws ++ mv)) (fun vs zs => vs ++ (zs ++ [.int 0, .int 0])) := by
  refine F.kbinds0 1 ks7 [("rise", .int 0), ("held", .int 0)] (fun us mv ws => us ++ (ws ++ mv)) (by decide) (by decide +kernel) (fun r1 r2 r3 => r1.append (r3.append r2)) ?_
  intro D doc pm an cdv ct us mv ws hu hm hw
  match us, hu, mv, hm, ws, hw with
  | [u], _, [x, y], _, [a, b, c, d, e, f, g], _ => exact ⟨_, _, _, _, _, _, rfl, rfl, _, _, _, _, _, _, rfl, rfl, rfl⟩
end
section
variable {X : Cx} {mgx : Str → Option Value}
def tFold (C : Addr) (tk : TA) : TE := fun σ H Q => tk σ H fun zs H2 => ∃ c t q l g f a r h : V, zs = [c, t, q, l, g, f, a, r, h] ∧ ∀ (x : Addr) (H3 : Hp), Same H2 H3 → H2 x = none → (∃ dx, H3 x = some (.ins C dx (fdV c t q l g f a r h))) → Q (.ref x) H3
theorem made_F {C x dx : Addr} {H2 H' : Hp} {fs : List (Str × V)} (nx : H2 x = none) (ndx : H2 dx = none) (e : ∀ b, b ≠ x → H' b = (upd (upd H2 dx (.own x)) x (.ins C dx [])) b) : Same H2 H' := fun b o q => by
  rw [e b (ne_of_none q nx), upd_ne (ne_of_none q nx), upd_ne (ne_of_none q ndx)]
  exact q
/-- Fold() -/
theorem pe_F0 {p pos : Pos} (T : Ev X.K X.mg X.base) (hr : Room 2 X.A) (hg : Gl X "Fold") : PE X (.Call (.Name "Fold" p) [] [] pos) (tFold T.cF fun _ H Q => Q [.int 0, .int 0, .int 0, .non, .non, .non, .non, .int 0, .int 0] H) := by
  obtain ⟨f, fd, F, M, hm⟩ := T.mF
  obtain ⟨ds, hd, hb⟩ := b_F0 F
  refine peMono (pe_make0 M (k_Finit T F) hr hg hm hb hd pass0) fun σ H Q q => ?_
  obtain ⟨c, t, q, l, g, fi, a, r, h, e, k⟩ := q
  cases e
  intro x dx nx ndx nex
  exact ⟨x, dx, _, _, _, _, _, _, _, _, _, rfl, upd_same, fun H' h1 h2 => ⟨rfl, k x H' (made_F (fs := []) nx ndx h2) nx ⟨dx, h1⟩⟩⟩
theorem pkMono {kws : List Keyword} {tk : TA} (h : PK X kws tk) : PK X kws (fun σ H Q => ∃ R : List V → Hp → Prop, tk σ H R ∧ ∀ zs H2, R zs H2 → Q zs H2) := ⟨fun pos pins s σ H Q I ⟨R, h1, h2⟩ =>
  thn (h.run pos pins s σ H R I h1) fun us s1 ⟨vs, H1, I1, r, q⟩ => ⟨vs, H1, I1, r, h2 vs H1 q⟩⟩
theorem pe_F9 {p pos : Pos} {kws : List Keyword} {tk : TA} (T : Ev X.K X.mg X.base) (hr : Room 2 X.A) (hg : Gl X "Fold") (hkw : PK X kws tk)
    (hall : (backToKw pos (keywordEach kws X.env)).all (·.1.isSome) = true := by rfl) (hks : (backToKw pos (keywordEach kws X.env)).filterMap (·.1) = ks9 := by rfl)
    (hpl : ((backTo pos (starEach [] X.env)).any (·.1) || (backToKw pos (keywordEach kws X.env)).any (·.1.isNone)) = false := by rfl) : PE X (.Call (.Name "Fold" p) [] kws pos) (tFold T.cF tk) := by
  obtain ⟨f, fd, F, M, hm⟩ := T.mF
  obtain ⟨mv, hb⟩ := b_F9 F
  refine peMono (pe_makeK0 M (k_Finit T F) hr hg hm hb pass0 (pkMono hkw) hall hks (by decide) hpl) fun σ H Q q => ?_
  refine ⟨_, q, fun zs H2 ⟨c, t, q, l, g, fi, a, r, h, e, k⟩ => ?_⟩
  subst e
  refine ⟨rfl, rfl, fun x dx nx ndx nex => ?_⟩
  exact ⟨x, dx, _, _, _, _, _, _, _, _, _, rfl, upd_same, fun H' h1 h2 => ⟨rfl, k x H' (made_F (fs := []) nx ndx h2) nx ⟨dx, h1⟩⟩⟩
def tFold7 (C : Addr) (tk : TA) : TE := fun σ H Q => tk σ H fun zs H2 => ∃ c t q l g f a : V, zs = [c, t, q, l, g, f, a] ∧ ∀ (x : Addr) (H3 : Hp), Same H2 H3 → H2 x = none → (∃ dx, H3 x = some (.ins C dx (fdV c t q l g f a (.int 0) (.int 0)))) → Q (.ref x) H3
theorem pe_F7 {p pos : Pos} {kws : List Keyword} {tk : TA} (T : Ev X.K X.mg X.base) (hr : Room 2 X.A) (hg : Gl X "Fold") (hkw : PK X kws tk)
    (hall : (backToKw pos (keywordEach kws X.env)).all (·.1.isSome) = true := by rfl) (hks : (backToKw pos (keywordEach kws X.env)).filterMap (·.1) = ks7 := by rfl)
    (hpl : ((backTo pos (starEach [] X.env)).any (·.1) || (backToKw pos (keywordEach kws X.env)).any (·.1.isNone)) = false := by rfl) : PE X (.Call (.Name "Fold" p) [] kws pos) (tFold7 T.cF tk) := by
  obtain ⟨f, fd, F, M, hm⟩ := T.mF
  obtain ⟨mv, hb⟩ := b_F7 F
  refine peMono (pe_makeK0 M (k_Finit T F) hr hg hm hb pass0 (pkMono hkw) hall hks (by decide) hpl) fun σ H Q q => ?_
  refine ⟨_, q, fun zs H2 ⟨c, t, q, l, g, fi, a, e, k⟩ => ?_⟩
  subst e
  refine ⟨rfl, rfl, fun x dx nx ndx nex => ?_⟩
  exact ⟨x, dx, _, _, _, _, _, _, _, _, _, rfl, upd_same, fun H' h1 h2 => ⟨rfl, k x H' (made_F (fs := []) nx ndx h2) nx ⟨dx, h1⟩⟩⟩
end
/-! ### what Folds and points are -/
def oI : Option Int → V
  | none => .non
  | some i => .int i
def PtV (H : Hp) (v : V) : Option Pt → Prop
  | none => v = .non
  | some p => ∃ a, v = .ref a ∧ H a = some (.tup [.int p.1, .int p.2])
def fdF (F : Fd) (v1 v2 : V) : List (Str × V) := fdV (.int F.count) (.int F.total) (.int F.squares) (oI F.least) (oI F.greatest) v1 v2 (.int F.rise) (.int F.held)
structure FoldAt (C : Addr) (H : Hp) (f : Addr) (F : Fd) : Prop where
  ex : ∃ dx v1 v2, H f = some (.ins C dx (fdF F v1 v2)) ∧ PtV H v1 F.first ∧ PtV H v2 F.last
theorem PtV.kp {C : Addr} {T : List (Addr × Str)} {M : List Addr} {H H' : Hp} (k : Kp C T M H H') : ∀ {o : Option Pt} {v : V}, PtV H v o → PtV H' v o
  | none, _, h => h
  | some _, _, h => let ⟨a, e, q⟩ := h; ⟨a, e, k.tup q⟩
theorem FoldAt.kp {C : Addr} {T : List (Addr × Str)} {M : List Addr} {H H' : Hp} {f : Addr} {F : Fd} (k : Kp C T M H H') (h : FoldAt C H f F) : FoldAt C H' f F := by
  obtain ⟨dx, v1, v2, h1, h2, h3⟩ := h
  exact ⟨dx, v1, v2, k.fold h1, h2.kp k, h3.kp k⟩
theorem FoldAt.sm {C : Addr} {H H' : Hp} {f : Addr} {F : Fd} (k : Same H H') (h : FoldAt C H f F) : FoldAt C H' f F := h.kp (T := []) (M := []) (.of k)
theorem PtV.sm {H H' : Hp} (k : Same H H') {o : Option Pt} {v : V} (h : PtV H v o) : PtV H' v o := h.kp (C := 0) (T := []) (M := []) (.of k)
section
variable (F : Fd) (v1 v2 : V)
theorem lk_count : (fdF F v1 v2).lookup ("count" : Str) = some (.int F.count) := by kernel_rfl
theorem lk_total : (fdF F v1 v2).lookup ("total" : Str) = some (.int F.total) := by kernel_rfl
theorem lk_squares : (fdF F v1 v2).lookup ("squares" : Str) = some (.int F.squares) := by kernel_rfl
theorem lk_least : (fdF F v1 v2).lookup ("least" : Str) = some (oI F.least) := by kernel_rfl
theorem lk_greatest : (fdF F v1 v2).lookup ("greatest" : Str) = some (oI F.greatest) := by kernel_rfl
theorem lk_first : (fdF F v1 v2).lookup ("first" : Str) = some v1 := by kernel_rfl
theorem lk_last : (fdF F v1 v2).lookup ("last" : Str) = some v2 := by kernel_rfl
theorem lk_rise : (fdF F v1 v2).lookup ("rise" : Str) = some (.int F.rise) := by kernel_rfl
theorem lk_held : (fdF F v1 v2).lookup ("held" : Str) = some (.int F.held) := by kernel_rfl
theorem lk_eq : (fdF F v1 v2).lookup ("__eq__" : Str) = none := by kernel_rfl
end
/-- e.x of a Fold: the class's facts are told -/
def tFldF (C : Addr) (ta : TE) (x : Str) : TE := fun σ H Q => ta σ H fun y H1 => ∃ f dx fs v, y = .ref f ∧ H1 f = some (.ins C dx fs) ∧ fs.lookup x = some v ∧ Q v H1
theorem paMono {X : Cx} {e : Expr} {t : TE} (h : PE X e t) : PE X e (fun σ H Q => ∃ R : VK, t σ H R ∧ ∀ v H2, R v H2 → Q v H2) := ⟨fun pins s σ H Q I ⟨R, h1, h2⟩ =>
  thn (h.run pins s σ H R I h1) fun us s1 ⟨vs, H1, I1, r, q⟩ => ⟨vs, H1, I1, r, h2 vs H1 q⟩⟩
theorem pe_fldC {X : Cx} {e : Expr} {x : Str} {pos : Pos} {ta : TE} {C : Addr} (c : Cls X.K C) (n : NoAttr X.K C x) (he : PE X e ta) (hb : attributeBase e x X.env (eval e X.env) = eval e X.env := by rfl) : PE X (.Attribute e x pos) (tFldF C ta x) :=
  peMono (pe_fld (paMono he) hb) fun σ H Q q => ⟨_, q, fun v H2 ⟨f, dx, fs, u, e, h1, h2, k⟩ => ⟨f, C, dx, fs, u, e, h1, c, n, h2, k⟩⟩
end Tg
/-! TgD1 -/
set_option Elab.async false
set_option linter.all false
set_option maxRecDepth 100000
set_option maxHeartbeats 4000000
/-! fields, copied, ==, step, cell_of -/
namespace Tg
open PySem PySem.Spec PyProof.Rows L2 LamX TgM
def dI : Option Int → PyData
  | none => .none
  | some i => .int i
def dP : Option Pt → PyData
  | none => .none
  | some p => .tuple [.int p.1, .int p.2]
/-- a Fold as the law reads it -/
def dFd (F : Fd) : PyData := .tuple [.int F.count, .int F.total, .int F.squares, dI F.least, dI F.greatest, dP F.first, dP F.last, .int F.rise, .int F.held]
/-- .. as fields tells it -/
def dFl (F : Fd) : PyData := .list [.tuple [.str "count", .int F.count], .tuple [.str "total", .int F.total], .tuple [.str "squares", .int F.squares], .tuple [.str "least", dI F.least], .tuple [.str "greatest", dI F.greatest], .tuple [.str "first", dP F.first], .tuple [.str "last", dP F.last], .tuple [.str "rise", .int F.rise], .tuple [.str "held", .int F.held]]
theorem eqv_dI (a b : Option Int) : PyData.eqv (dI a) (dI b) = decide (a = b) := by
  cases a <;> cases b <;> simp [dI, PyData.eqv]
  grind
theorem eqv_dP (a b : Option Pt) : PyData.eqv (dP a) (dP b) = decide (a = b) := by
  rcases a with _ | ⟨a1, a2⟩ <;> rcases b with _ | ⟨b1, b2⟩ <;> simp [dP, PyData.eqv, PyData.eqvAll]
  grind
theorem eqv_dFd (F G : Fd) : PyData.eqv (dFd F) (dFd G) = decide (F = G) := by
  obtain ⟨a, b, c, d, e, f, g, h, i⟩ := F
  obtain ⟨a', b', c', d', e', f', g', h', i'⟩ := G
  simp only [dFd, PyData.eqv, PyData.eqvAll, eqv_dI, eqv_dP, Fd.mk.injEq, Bool.and_true]
  grind
theorem eqv_dFl (F G : Fd) : PyData.eqv (dFl F) (dFl G) = decide (F = G) := by
  obtain ⟨a, b, c, d, e, f, g, h, i⟩ := F
  obtain ⟨a', b', c', d', e', f', g', h', i'⟩ := G
  simp only [dFl, PyData.eqv, PyData.eqvAll, eqv_dI, eqv_dP, Fd.mk.injEq, Bool.and_true, beq_self_eq_true, Bool.true_and]
  grind
theorem sh_dFd (F : Fd) : SeqAt.shaped (dFd F) = true := by
  obtain ⟨a, b, c, d, e, f, g, h, i⟩ := F
  cases d <;> cases e <;> cases f <;> cases g <;> rfl
theorem sh_dFl (F : Fd) : SeqAt.shaped (dFl F) = true := by
  obtain ⟨a, b, c, d, e, f, g, h, i⟩ := F
  cases d <;> cases e <;> cases f <;> cases g <;> kernel_rfl
mutual
theorem dpSt {K : PySem.W.Frag} {H H' : Hp} (hl : ∀ a xs, SqL K H a xs → SqL K H' a xs) (ht : ∀ a xs, SqT K H a xs → SqT K H' a xs) : ∀ (d : PyData) (v : V), Dp K H v d → Dp K H' v d
  | .none, _, h => by cases h; exact .non
  | .bool b, _, h => by cases h; exact .bl b
  | .int i, _, h => by cases h; exact .int i
  | .str x, _, h => by cases h; exact .str x
  | .list ds, _, h => by
    cases h with
    | lst hs ha => exact .lst (hl _ _ hs) (dpAllSt hl ht ds _ ha)
  | .tuple ds, _, h => by
    cases h with
    | tup hs ha => exact .tup (ht _ _ hs) (dpAllSt hl ht ds _ ha)
  | .dict _, _, h => by cases h
theorem dpAllSt {K : PySem.W.Frag} {H H' : Hp} (hl : ∀ a xs, SqL K H a xs → SqL K H' a xs) (ht : ∀ a xs, SqT K H a xs → SqT K H' a xs) : ∀ (ds : List PyData) (vs : List V), DpAll K H vs ds → DpAll K H' vs ds
  | [], _, h => by cases h; exact .nil
  | d :: ds, _, h => by
    cases h with
    | cons h1 h2 => exact .cons (dpSt hl ht d _ h1) (dpAllSt hl ht ds _ h2)
end
theorem Same.sqT {K : PySem.W.Frag} {H H' : Hp} (k : Same H H') {a : Addr} {xs : List V} (h : SqT K H a xs) : SqT K H' a xs := by
  rcases h with h | h
  · exact .inl (h.elim (fun q => .inl (k _ _ q)) fun ⟨o, q⟩ => .inr ⟨o, k _ _ q⟩)
  · exact .inr h
theorem Dp.sm {K : PySem.W.Frag} {H H' : Hp} (k : Same H H') {v : V} {d : PyData} (h : Dp K H v d) : Dp K H' v d := dpSt (fun _ _ q => k.seq q) (fun _ _ q => Same.sqT k q) d v h
theorem dp_oI {K : PySem.W.Frag} {H : Hp} : ∀ o : Option Int, Dp K H (oI o) (dI o)
  | none => .non
  | some i => .int i
theorem dp_pt {K : PySem.W.Frag} {H : Hp} : ∀ {o : Option Pt} {v : V}, PtV H v o → Dp K H v (dP o)
  | none, _, h => by
    have h : _ = V.non := h
    rw [h]
    exact .non
  | some p, _, ⟨a, e, q⟩ => by
    rw [e]
    exact .tup (SqT.of q) (.cons (.int _) (.cons (.int _) .nil))
theorem dp_2 {K : PySem.W.Frag} {H : Hp} {p : Addr} {u v : V} {d e : PyData} (h : H p = some (.tup [u, v])) (hu : Dp K H u d) (hv : Dp K H v e) : Dp K H (.ref p) (.tuple [d, e]) := .tup (SqT.of h) (.cons hu (.cons hv .nil))
theorem two_le : 2 ≤ sizeLine := by decide
section
variable {P : Program} {w : World} {K : PySem.W.Frag} {mg : Str → Option Value} {base : Heap}
def sp_cell_of : Sp := fun vs H Q _ => ∃ t w : Int, vs = [.int t, .int w] ∧ 0 < w ∧ w < 9223372036854775808 ∧ Q (.int (cel t w)) H
theorem sc_cell_of : FnScope ["time", "width"] ["time", "width"] (defScope s_cell_of) := ⟨rfl, rfl, rfl, by decide +kernel, rfl, by decide +kernel, by decide +kernel⟩
theorem c_cell_of (T : Ev K mg base) : C8.Cal P w K mg base 1 "cell_of" sp_cell_of [] := by
  refine calD T.d_cell_of sc_cell_of (fun _ _ _ _ _ _ us hl => match us, hl with | [_, _], _ => rfl) (fun vs H Q E h => by obtain ⟨_, _, rfl, _⟩ := h; rfl) (fun f cdv A outer s H vs Q E hr h => ?_)
  obtain ⟨t, w, rfl, h0, h1, k⟩ := h
  refine ⟨_, (pss_one (ps_ret (pe_op op_mul (pe_op op_fdivW (pv 0) (pv 1)) (pv 1)))), ?_⟩
  refine ⟨_, rfl, _, rfl, _, _, rfl, rfl, dv h0 h1, _, rfl, _, _, rfl, rfl, mlr (by omega) (by omega), k⟩
def sp_step : Sp := fun vs H Q _ => ∃ a b : Int, vs = [.int a, .int b] ∧ Q (.int (stp a b)) H
theorem sc_step : FnScope ["one", "two"] ["one", "two"] (defScope s_step) := ⟨rfl, rfl, rfl, by decide +kernel, rfl, by decide +kernel, by decide +kernel⟩
theorem c_step (T : Ev K mg base) : C8.Cal P w K mg base 1 "step" sp_step [] := by
  refine calD T.d_step sc_step (fun _ _ _ _ _ _ us hl => match us, hl with | [_, _], _ => rfl) (fun vs H Q E h => by obtain ⟨_, _, rfl, _⟩ := h; rfl) (fun f cdv A outer s H vs Q E hr h => ?_)
  obtain ⟨a, b, rfl, k⟩ := h
  refine ⟨_, (pss_cons (ps_if (pt_cmpR op_ge (pv 1) (pv 0) (nomark _)) (pss_one (ps_ret (pe_op op_sub (pv 1) (pv 0))))
        pss_nil)
      (pss_one (ps_ret (pe_callB (call_max2 rfl) (by rfl) T.b_max (by decide +kernel) (pa_cons (pv 1) (pa_cons pe_int pa_nil)))))), ?_⟩
  refine ⟨_, rfl, _, rfl, _, _, rfl, rfl, _, rfl, ?_⟩
  refine ite2 (fun e => ?_) (fun e => ?_)
  · refine ⟨_, rfl, _, rfl, _, _, rfl, rfl, ?_⟩
    have e : b ≥ a := of_decide_eq_true e
    unfold stp at k
    rw [if_pos e] at k
    exact k
  · refine ⟨_, rfl, _, _, rfl, ?_⟩
    have e : ¬ b ≥ a := fun z => e (decide_eq_true z)
    unfold stp at k
    rw [if_neg e] at k
    exact k
def sp_fields (K : PySem.W.Frag) (C : Addr) : Sp := fun vs H Q _ => ∃ (f : Addr) (F : Fd), vs = [.ref f] ∧ FoldAt C H f F ∧ ∀ H' p, Same H H' → Dp K H' (.ref p) (dFl F) → Q (.ref p) H'
theorem sc_fields : FnScope ["fold"] ["fold"] (defScope s_fields) := ⟨rfl, rfl, rfl, by decide +kernel, rfl, by decide +kernel, by decide +kernel⟩
theorem c_fields (T : Ev K mg base) : C8.Cal P w K mg base 1 "fields" (sp_fields K T.cF) [] := by
  refine calD T.d_fields sc_fields (fun _ _ _ _ _ _ us hl => match us, hl with | [_], _ => rfl) (fun vs H Q E h => by obtain ⟨_, _, rfl, _⟩ := h; rfl) (fun f cdv A outer s H vs Q E hr h => ?_)
  obtain ⟨f, F, rfl, ⟨dx, v1, v2, hf, g1, g2⟩, k⟩ := h
  refine ⟨_, (pss_one (ps_ret (pe_lst (pa_cons (pe_tup (pa_cons pe_str (pa_cons (pe_fldC T.clF (T.naF _ (by decide)) (pv 0)) pa_nil))) (pa_cons (pe_tup (pa_cons pe_str (pa_cons (pe_fldC T.clF (T.naF _ (by decide)) (pv 0)) pa_nil))) (pa_cons (pe_tup (pa_cons pe_str (pa_cons (pe_fldC T.clF (T.naF _ (by decide)) (pv 0)) pa_nil))) (pa_cons (pe_tup (pa_cons pe_str (pa_cons (pe_fldC T.clF (T.naF _ (by decide)) (pv 0)) pa_nil))) (pa_cons (pe_tup (pa_cons pe_str (pa_cons (pe_fldC T.clF (T.naF _ (by decide)) (pv 0)) pa_nil))) (pa_cons (pe_tup (pa_cons pe_str (pa_cons (pe_fldC T.clF (T.naF _ (by decide)) (pv 0)) pa_nil))) (pa_cons (pe_tup (pa_cons pe_str (pa_cons (pe_fldC T.clF (T.naF _ (by decide)) (pv 0)) pa_nil))) (pa_cons (pe_tup (pa_cons pe_str (pa_cons (pe_fldC T.clF (T.naF _ (by decide)) (pv 0)) pa_nil))) (pa_cons (pe_tup (pa_cons pe_str (pa_cons (pe_fldC T.clF (T.naF _ (by decide)) (pv 0)) pa_nil))) pa_nil)))))))))))), ?_⟩
  refine ⟨_, rfl, f, dx, _, _, rfl, hf, lk_count _ _ _, two_le, fun p1 n1 => ?_⟩
  have s1 := Same.new (o := .tup [.str "count", .int F.count]) n1
  refine ⟨_, rfl, f, dx, _, _, rfl, s1 _ _ hf, lk_total _ _ _, two_le, fun p2 n2 => ?_⟩
  have s2 := s1.trans (Same.new (o := .tup [.str "total", .int F.total]) n2)
  refine ⟨_, rfl, f, dx, _, _, rfl, s2 _ _ hf, lk_squares _ _ _, two_le, fun p3 n3 => ?_⟩
  have s3 := s2.trans (Same.new (o := .tup [.str "squares", .int F.squares]) n3)
  refine ⟨_, rfl, f, dx, _, _, rfl, s3 _ _ hf, lk_least _ _ _, two_le, fun p4 n4 => ?_⟩
  have s4 := s3.trans (Same.new (o := .tup [.str "least", oI F.least]) n4)
  refine ⟨_, rfl, f, dx, _, _, rfl, s4 _ _ hf, lk_greatest _ _ _, two_le, fun p5 n5 => ?_⟩
  have s5 := s4.trans (Same.new (o := .tup [.str "greatest", oI F.greatest]) n5)
  refine ⟨_, rfl, f, dx, _, _, rfl, s5 _ _ hf, lk_first _ _ _, two_le, fun p6 n6 => ?_⟩
  have s6 := s5.trans (Same.new (o := .tup [.str "first", v1]) n6)
  refine ⟨_, rfl, f, dx, _, _, rfl, s6 _ _ hf, lk_last _ _ _, two_le, fun p7 n7 => ?_⟩
  have s7 := s6.trans (Same.new (o := .tup [.str "last", v2]) n7)
  refine ⟨_, rfl, f, dx, _, _, rfl, s7 _ _ hf, lk_rise _ _ _, two_le, fun p8 n8 => ?_⟩
  have s8 := s7.trans (Same.new (o := .tup [.str "rise", .int F.rise]) n8)
  refine ⟨_, rfl, f, dx, _, _, rfl, s8 _ _ hf, lk_held _ _ _, two_le, fun p9 n9 => ?_⟩
  have t9 := Same.new (o := .tup [.str "held", .int F.held]) n9
  refine ⟨(by show 9 ≤ sizeLine; decide), fun p n => ?_⟩
  have t10 := Same.new (o := .lst [.ref p1, .ref p2, .ref p3, .ref p4, .ref p5, .ref p6, .ref p7, .ref p8, .ref p9]) n
  refine k _ p ((s8.trans t9).trans t10) (.lst (SqL.of upd_same) ?_)
  have q9 := t10 _ _ (upd_same (H := _) (a := p9) (o := .tup [.str "held", .int F.held]))
  have u9 := t9.trans t10
  have u8 := (Same.new (o := .tup [.str "rise", .int F.rise]) n8).trans u9
  have u7 := (Same.new (o := .tup [.str "last", v2]) n7).trans u8
  have u6 := (Same.new (o := .tup [.str "first", v1]) n6).trans u7
  have u5 := (Same.new (o := .tup [.str "greatest", oI F.greatest]) n5).trans u6
  have u4 := (Same.new (o := .tup [.str "least", oI F.least]) n4).trans u5
  have u3 := (Same.new (o := .tup [.str "squares", .int F.squares]) n3).trans u4
  have u2 := (Same.new (o := .tup [.str "total", .int F.total]) n2).trans u3
  have uu := (s8.trans t9).trans t10
  exact .cons (dp_2 (u2 _ _ upd_same) (.str _) (.int _)) (.cons (dp_2 (u3 _ _ upd_same) (.str _) (.int _)) (.cons (dp_2 (u4 _ _ upd_same) (.str _) (.int _)) (.cons (dp_2 (u5 _ _ upd_same) (.str _) (dp_oI _))
    (.cons (dp_2 (u6 _ _ upd_same) (.str _) (dp_oI _)) (.cons (dp_2 (u7 _ _ upd_same) (.str _) (dp_pt (g1.sm uu))) (.cons (dp_2 (u8 _ _ upd_same) (.str _) (dp_pt (g2.sm uu))) (.cons (dp_2 (u9 _ _ upd_same) (.str _) (.int _)) (.cons (dp_2 q9 (.str _) (.int _)) .nil))))))))
def sp_Feq (C : Addr) : Sp := fun vs H Q _ => ∃ (f g : Addr) (F G : Fd), vs = [.ref f, .ref g] ∧ FoldAt C H f F ∧ FoldAt C H g G ∧ ∀ H', Same H H' → Q (.bl (decide (F = G))) H'
theorem sc_Feq : FnScope ["self", "other"] ["self", "other"] (defScope s_Feq) := ⟨rfl, rfl, rfl, by decide +kernel, rfl, by decide +kernel, by decide +kernel⟩
theorem k_Feq (T : Ev K mg base) {f : Addr} {fd : FuncData} (F : FunD K "__eq__" "Fold.__eq__" (defArgs s_Feq) (defBody s_Feq) (defScope s_Feq) [] [] f fd) : FnOk P w K mg base CX0 2 f fd ["self", "other"] (sp_Feq T.cF) := by
  refine F.ok sc_Feq (fun vs H Q E h => by obtain ⟨_, _, _, _, rfl, _⟩ := h; rfl) (fun cdv A outer s H vs Q E hr h => ?_)
  obtain ⟨f, g, F, G, rfl, h1, h2, k⟩ := h
  refine ⟨_, (pss_one (ps_ret (pe_and (pe_callB (C8.call_isC T.isF) (by rfl) T.b_isinstance (by decide +kernel) (pa_cons (pv 1) (pa_cons (pe_glob (by rfl) T.gF (v := .ref T.cF) rfl) pa_nil))) (pe_one (pe_cmpR (op_eqD hr.units) (C8.pe_c (c_fields T) hr (by decide) rfl (pa_cons (pv 0) pa_nil)) (C8.pe_c (c_fields T) hr (by decide) rfl (pa_cons (pv 1) pa_nil)) (nomark _)))))), ?_⟩
  obtain ⟨dx, v1, v2, hg, _⟩ := id h2
  refine ⟨_, rfl, g, dx, _, rfl, hg, true, rfl, iteT ?_⟩
  refine ⟨_, rfl, f, F, rfl, h1, fun H1 p1 e1 d1 => ?_⟩
  refine ⟨_, rfl, g, G, rfl, h2.sm e1, fun H2 p2 e2 d2 => ?_⟩
  refine ⟨dFl F, dFl G, ?_, d2, sh_dFl F, sh_dFl G, ?_⟩
  · exact Dp.sm e2 d1
  · rw [eqv_dFl]
    exact k _ (e1.trans e2)
end
end Tg
/-! TgD2 -/
set_option Elab.async false
set_option linter.all false
set_option maxRecDepth 100000
set_option maxHeartbeats 4000000
/-! copied, chosen, summed -/
namespace Tg
open PySem PySem.Spec PyProof.Rows L2 LamX NdefX TgM
section
variable {P : Program} {w : World} {K : PySem.W.Frag} {mg : Str → Option Value} {base : Heap}
def sp_copied (C : Addr) : Sp := fun vs H Q _ => ∃ (f : Addr) (F : Fd), vs = [.ref f] ∧ FoldAt C H f F ∧ ∀ H' g, Same H H' → FoldAt C H' g F → Q (.ref g) H'
theorem sc_copied : FnScope ["fold"] ["fold"] (defScope s_copied) := ⟨rfl, rfl, rfl, by decide +kernel, rfl, by decide +kernel, by decide +kernel⟩
theorem c_copied (T : Ev K mg base) : C8.Cal P w K mg base 3 "copied" (sp_copied T.cF) [] := by
  refine calD T.d_copied sc_copied (fun _ _ _ _ _ _ us hl => match us, hl with | [_], _ => rfl) (fun vs H Q E h => by obtain ⟨_, _, rfl, _⟩ := h; rfl) (fun f cdv A outer s H vs Q E hr h => ?_)
  obtain ⟨f, F, rfl, ⟨dx, v1, v2, hf, g1, g2⟩, k⟩ := h
  refine ⟨_, (pss_one (ps_ret (pe_F9 T (hr.mono (by decide)) (by rfl) (pk_cons (pe_fldC T.clF (T.naF _ (by decide)) (pv 0)) (pk_cons (pe_fldC T.clF (T.naF _ (by decide)) (pv 0)) (pk_cons (pe_fldC T.clF (T.naF _ (by decide)) (pv 0)) (pk_cons (pe_fldC T.clF (T.naF _ (by decide)) (pv 0)) (pk_cons (pe_fldC T.clF (T.naF _ (by decide)) (pv 0)) (pk_cons (pe_fldC T.clF (T.naF _ (by decide)) (pv 0)) (pk_cons (pe_fldC T.clF (T.naF _ (by decide)) (pv 0)) (pk_cons (pe_fldC T.clF (T.naF _ (by decide)) (pv 0)) (pk_cons (pe_fldC T.clF (T.naF _ (by decide)) (pv 0)) pk_nil)))))))))))), ?_⟩
  refine ⟨_, rfl, f, dx, _, _, rfl, hf, lk_count _ _ _, _, rfl, f, dx, _, _, rfl, hf, lk_total _ _ _, _, rfl, f, dx, _, _, rfl, hf, lk_squares _ _ _, _, rfl, f, dx, _, _, rfl, hf, lk_least _ _ _, _, rfl, f, dx, _, _, rfl, hf, lk_greatest _ _ _,
    _, rfl, f, dx, _, _, rfl, hf, lk_first _ _ _, _, rfl, f, dx, _, _, rfl, hf, lk_last _ _ _, _, rfl, f, dx, _, _, rfl, hf, lk_rise _ _ _, _, rfl, f, dx, _, _, rfl, hf, lk_held _ _ _, ?_⟩
  refine ⟨_, _, _, _, _, _, _, _, _, rfl, fun x H3 s3 nx ⟨dy, hy⟩ => k H3 x s3 ⟨dy, _, _, hy, g1.sm s3, g2.sm s3⟩⟩
/-- what a chosen-lambda promises -/
def spPick (K : PySem.W.Frag) (g : List Int → Int) : List (Option V) → Sp := fun ws vs H Q _ => ∃ (l : Addr) (ns : List Int), vs = [.ref l] ∧ SqL K H l (ns.map V.int) ∧ 0 < ns.length ∧ Q (.int (g ns)) H
def pk (g : List Int → Int) : Option Int → Option Int → Option Int
  | none, none => none
  | some a, none => some (g [a])
  | none, some b => some (g [b])
  | some a, some b => some (g [a, b])
def sp_chosen (P : Program) (w : World) (K : PySem.W.Frag) (mg : Str → Option Value) (base : Heap) : Sp := fun vs H Q _ => ∃ (a b : Option Int) (f : Addr) (L : TgL.LF) (ps : List Str) (g : List Int → Int), vs = [oI a, oI b, .ref f] ∧ H f = some (TgL.LamO f L) ∧ H L.c = some (CodeO L.c L.qual) ∧ L.cl = [] ∧
  TgL.LOk P w K mg base 1 L ps [] (spPick K g) ∧ ∀ H', Same H H' → Q (oI (pk g a b)) H'
theorem sc_chosen : FnScope ["one", "two", "choose", "there", "thing"] ["one", "two", "choose"] (defScope s_chosen) := ⟨rfl, rfl, rfl, by decide +kernel, rfl, by decide +kernel, by decide +kernel⟩
theorem c_chosen (T : Ev K mg base) : C8.Cal P w K mg base 2 "chosen" (sp_chosen P w K mg base) [] := by
  refine calD T.d_chosen sc_chosen (fun _ _ _ _ _ _ us hl => match us, hl with | [_, _, _], _ => rfl) (fun vs H Q E h => by obtain ⟨_, _, _, _, _, _, rfl, _⟩ := h; rfl) (fun f cdv A outer s H vs Q E hr h => ?_)
  obtain ⟨a, b, f, L, ps, g, rfl, h1, h2, h3, ok, k⟩ := h
  refine ⟨_, (pss_cons (ps_setLc (i := 3) (own := [("thing", 4)]) rfl sc_chosen.nd rfl rfl (sw_true rfl rfl rfl (by decide +kernel)) (pi_tup (pe_tup (pa_cons (pv 0) (pa_cons (pv 1) pa_nil)))) (blkOk_by (own := [("thing", 4)]) (N := ["one", "two", "choose", "there", "thing"]) (sc := defScope s_chosen) (by decide +kernel)) (fun _ _ _ _ _ => (pg_name (i := 4) sc_chosen.nd rfl (Or.inl rfl))) (fun _ _ _ _ _ => (pts_one (pt_cmpR op_notN (pv 4) pe_non (nomark _)))) (fun _ _ _ _ _ => (pv 4)))
      (pss_cons (ps_if (pt_cmpR (op_eqD hr.units) (pv 3) (pe_lst pa_nil) (nomark _)) (pss_one (ps_ret pe_non))
        pss_nil)
      (pss_one (ps_ret (TgL.pe_callClo (k := 1) (i := 2) hr rfl (Or.inl rfl) (pa_cons (pv 3) pa_nil)))))), ?_⟩
  refine ⟨_, rfl, _, rfl, two_le, fun p np => ⟨p, rfl, ⟨_, SqT.of upd_same⟩, fun D nD => ?_⟩⟩
  have npD : p ≠ D := ne_of_none upd_same nD
  refine lc_it (walk_tup (K := K) (a := p) (xs := [oI a, oI b])) (fun i H' => H' = upd (upd H p (.tup [oI a, oI b])) D (.lst ((([oI a, oI b] : List V).take i).filter fun v => decide (v ≠ .non)))) rfl
    (fun i H' _ e => by rw [e]; exact SqT.of (by rw [upd_ne npD]; exact upd_same)) ?_ ?_
  · rintro i x H' H2 hi rfl ⟨rfl, hx⟩
    refine ⟨rfl, _, rfl, rfl, _, rfl, ?_⟩
    have et : ([oI a, oI b] : List V).take (i + 1) = ([oI a, oI b] : List V).take i ++ [x] := by rw [List.take_succ, hx]; rfl
    refine ite2 (fun e => ?_) (fun e => ?_)
    · have e : x ≠ .non := by
        intro z
        rw [z] at e
        exact absurd e (by decide)
      refine ⟨_, rfl, _, upd_same, ?_, ?_⟩
      · exact Nat.lt_of_le_of_lt (Nat.le_trans (List.length_filter_le _ _) (by rw [List.length_take]; exact Nat.min_le_right _ _)) (by show 2 < sizeLine; decide)
      · show upd (upd _ D _) D _ = _
        rw [upd_upd, et, List.filter_append]
        have : ([x] : List V).filter (fun v => decide (v ≠ .non)) = [x] := by simp [e]
        rw [this]
    · have e : x = .non := by
        by_cases z : x = .non
        · exact z
        · exact absurd (by simp [z]) e
      show upd _ D _ = _
      rw [et, List.filter_append, e]
      simp
  · rintro H' rfl
    have em : ∀ o : Option Int, (([oI o] : List V).filter fun v => decide (v ≠ .non)) = (o.toList.map V.int) := fun o => by cases o <;> rfl
    have e2 : ((([oI a, oI b] : List V).take ([oI a, oI b] : List V).length).filter fun v => decide (v ≠ .non)) = (a.toList ++ b.toList).map V.int := by
      rw [List.take_length, List.map_append, ← em a, ← em b, ← List.filter_append]
      rfl
    rw [e2]
    have s2 : Same H (upd (upd H p (.tup [oI a, oI b])) D (.lst ((a.toList ++ b.toList).map V.int))) := (Same.new np).trans (Same.new nD)
    generalize hH : upd (upd H p (.tup [oI a, oI b])) D (.lst ((a.toList ++ b.toList).map V.int)) = H' at s2
    have hD : H' D = some (.lst ((a.toList ++ b.toList).map V.int)) := by rw [← hH]; exact upd_same
    refine ⟨_, rfl, Nat.zero_le _, fun q nq => ?_⟩
    have s3 : Same H' (upd H' q (.lst [])) := Same.new nq
    have hdp : ∀ (ns : List Int), DpAll K (upd H' q (.lst [])) (ns.map V.int) (ns.map PyData.int) := fun ns => by
      induction ns with
      | nil => exact .nil
      | cons n r ih => exact .cons (.int n) ih
    refine ⟨.list ((a.toList ++ b.toList).map PyData.int), .list [], .lst (SqL.of (s3 _ _ hD)) (hdp _), .lst (SqL.of upd_same) .nil, by cases a <;> cases b <;> rfl, rfl, _, rfl, ?_⟩
    cases a with
    | none =>
      cases b with
      | none => exact iteT (k _ (s2.trans s3))
      | some b => exact iteF ⟨f, L, ps, [], _, rfl, s3 _ _ (s2 _ _ h1), ok, _, rfl, s3 _ _ (s2 _ _ h1), s3 _ _ (s2 _ _ h2), .inl ⟨h3, rfl, D, [b], rfl, SqL.of (s3 _ _ hD), Nat.zero_lt_one, k _ (s2.trans s3)⟩⟩
    | some a =>
      cases b with
      | none => exact iteF ⟨f, L, ps, [], _, rfl, s3 _ _ (s2 _ _ h1), ok, _, rfl, s3 _ _ (s2 _ _ h1), s3 _ _ (s2 _ _ h2), .inl ⟨h3, rfl, D, [a], rfl, SqL.of (s3 _ _ hD), Nat.zero_lt_one, k _ (s2.trans s3)⟩⟩
      | some b => exact iteF ⟨f, L, ps, [], _, rfl, s3 _ _ (s2 _ _ h1), ok, _, rfl, s3 _ _ (s2 _ _ h1), s3 _ _ (s2 _ _ h2), .inl ⟨h3, rfl, D, [a, b], rfl, SqL.of (s3 _ _ hD), Nat.zero_lt_two, k _ (s2.trans s3)⟩⟩
end
end Tg
/-! TgD3 -/
set_option Elab.async false
set_option linter.all false
set_option maxRecDepth 100000
set_option maxHeartbeats 4000000
/-! summed -/
namespace Tg
open PySem PySem.Spec PyProof.Rows L2 LamX NdefX TgM
theorem noFree {names : List (Str × NameKind)} {p : Str × NameKind → Prop} (h : (names.all fun y => decide (y.2 ≠ .free)) = true) : ∀ y ∈ names, y.2 = .free → p y := fun y hy e => absurd e (of_decide_eq_true (List.all_eq_true.mp h y hy))
/-! ### the text of a lambda -/
def retE : Stmt → Expr
  | .Return (some e) _ => e
  | _ => .Constant .none 0 ⟨0, 0, 0, 0⟩
def kwE : Expr → Nat → Expr
  | .Call _ _ kws _, i => match kws[i]? with
    | some k => k.value
    | none => .Constant .none 0 ⟨0, 0, 0, 0⟩
  | e, _ => e
def argE : Expr → Nat → Expr
  | .Call _ es _ _, i => es.getD i (.Constant .none 0 ⟨0, 0, 0, 0⟩)
  | e, _ => e
def lamP : Expr → Arguments
  | .Lambda p _ _ _ => p
  | _ => ⟨[], [], none, [], [], none, []⟩
def lamB : Expr → Expr
  | .Lambda _ b _ _ => b
  | e => e
def lamS : Expr → Scope
  | .Lambda _ _ s _ => s
  | _ => ⟨.function, [], false, false, []⟩
def lmin : Expr := argE (kwE (retE ((defBody s_summed).getD 0 (.Pass ⟨0, 0, 0, 0⟩))) 3) 2
def lmax : Expr := argE (kwE (retE ((defBody s_summed).getD 0 (.Pass ⟨0, 0, 0, 0⟩))) 4) 2
theorem ls_min : TgL.LScope ["some"] ["some"] [] (lamS lmin) := TgL.lscope_by (by decide +kernel)
theorem ls_max : TgL.LScope ["many"] ["many"] [] (lamS lmax) := TgL.lscope_by (by decide +kernel)
def gMin (ns : List Int) : Int := (loL ns).getD 0
def gMax (ns : List Int) : Int := (hiL ns).getD 0
section
variable {P : Program} {w : World} {K : PySem.W.Frag} {mg : Str → Option Value} {base : Heap}
theorem lok_min (T : Ev K mg base) (q : Str) (cl : List (Str × Addr)) (c' : Addr) (hcl : cl = []) : TgL.LOk P w K mg base 1 ⟨lamP lmin, lamB lmin, lamS lmin, q, cl, c'⟩ ["some"] [] (spPick K gMin) := by
  refine TgL.lok_of ls_min (fun y c m => by rw [hcl] at m; cases m) (fun pm ctv us hl => match us, hl with | [_], _ => rfl) (fun ws vs H Q E h => by obtain ⟨_, _, rfl, _⟩ := h; rfl) fun A outer s H f vs ws Q hr hw h => ?_
  obtain ⟨l, ns, rfl, hS, hn, k⟩ := h
  have hw0 : ws = [] := List.length_eq_zero_iff.mp hw
  subst hw0
  refine ⟨_, pe_callB (cr_min rfl) (by rfl) T.b_min (by decide +kernel) (pa_cons (pv 0) pa_nil), ?_⟩
  refine ⟨_, rfl, l, ns, rfl, hS, hn, fun m hm hle => ?_⟩
  have e : loL ns = some m := loL_spec hm fun y hy => hle y hy
  unfold gMin at k
  rw [e] at k
  exact k
theorem lok_max (T : Ev K mg base) (q : Str) (cl : List (Str × Addr)) (c' : Addr) (hcl : cl = []) : TgL.LOk P w K mg base 1 ⟨lamP lmax, lamB lmax, lamS lmax, q, cl, c'⟩ ["many"] [] (spPick K gMax) := by
  refine TgL.lok_of ls_max (fun y c m => by rw [hcl] at m; cases m) (fun pm ctv us hl => match us, hl with | [_], _ => rfl) (fun ws vs H Q E h => by obtain ⟨_, _, rfl, _⟩ := h; rfl) fun A outer s H f vs ws Q hr hw h => ?_
  obtain ⟨l, ns, rfl, hS, hn, k⟩ := h
  have hw0 : ws = [] := List.length_eq_zero_iff.mp hw
  subst hw0
  refine ⟨_, pe_callB (cr_max rfl) (by rfl) T.b_max (by decide +kernel) (pa_cons (pv 0) pa_nil), ?_⟩
  refine ⟨_, rfl, l, ns, rfl, hS, hn, fun m hm hle => ?_⟩
  have e : hiL ns = some m := hiL_spec hm fun y hy => hle y hy
  unfold gMax at k
  rw [e] at k
  exact k
theorem pk_min (a b : Option Int) : pk gMin a b = mn a b := by
  cases a <;> cases b <;> simp [pk, gMin, mn, loL]
theorem pk_max (a b : Option Int) : pk gMax a b = mx a b := by
  cases a <;> cases b <;> simp [pk, gMax, mx, hiL]
theorem hmS (T : Ev K mg base) : (T.tS.2, (("summed" : Str) ++ (".<locals>." : Str)) ++ ("<lambda>" : Str)) ∈ T.T := by
  have e : (("summed" : Str) ++ (".<locals>." : Str)) ++ ("<lambda>" : Str) = "summed.<locals>.<lambda>" := by decide +kernel
  rw [e]
  exact List.mem_cons_self
theorem huS (T : Ev K mg base) : ∀ p ∈ T.T, p.1 = T.tS.2 → p.2 = (("summed" : Str) ++ (".<locals>." : Str)) ++ ("<lambda>" : Str) := by
  have e : (("summed" : Str) ++ (".<locals>." : Str)) ++ ("<lambda>" : Str) = "summed.<locals>.<lambda>" := by decide +kernel
  rw [e]
  intro p hp h
  rcases List.mem_cons.mp hp with rfl | hp
  · rfl
  · rcases List.mem_cons.mp hp with rfl | hp
    · exact absurd h.symm T.nSM
    · rw [List.mem_singleton.mp hp] at h
      exact absurd h.symm T.nSR
theorem Kp.lam {C : Addr} {T : List (Addr × Str)} {M : List Addr} {H H1 : Hp} (e : ExtN H H1) (t : Tabs T H1) : Kp C T M H H1 := ⟨fun b o q n => e b o q (by
  rcases n with z | z | ⟨dx, fs, z⟩
  · exact z.2
  · intro _ y
    rw [y] at z
    exact z
  · rw [z]
    intro _ y
    cases y), fun _ => t⟩
def sp_summed (C : Addr) (TL : List (Addr × Str)) : Sp := fun vs H Q _ => ∃ (f g : Addr) (F G : Fd) (r h : Int) (v1 v2 : V) (p1 p2 : Option Pt), vs = [.ref f, .ref g, .int r, .int h, v1, v2] ∧ FoldAt C H f F ∧ FoldAt C H g G ∧ PtV H v1 p1 ∧ PtV H v2 p2 ∧ Tabs TL H ∧
  ∀ H' x, Kp C TL [] H H' → FoldAt C H' x ⟨F.count + G.count, F.total + G.total, F.squares + G.squares, mn F.least G.least, mx F.greatest G.greatest, p1, p2, F.rise + G.rise + r, F.held + G.held + h⟩ → Q (.ref x) H'
theorem sc_summed : FnScope ["one", "two", "rise", "held", "first", "last"] ["one", "two", "rise", "held", "first", "last"] (defScope s_summed) := ⟨rfl, rfl, rfl, by decide +kernel, rfl, by decide +kernel, by decide +kernel⟩
theorem k_summed (T : Ev K mg base) {f : Addr} {fd : FuncData} (F : FunD K "summed" "summed" (defArgs s_summed) (defBody s_summed) (defScope s_summed) [] kwS f fd) (hc : fd.code = .ref T.tS.1) : FnOk P w K mg base CX0 3 f fd ["one", "two", "rise", "held", "first", "last"] (sp_summed T.cF T.T) := by
  refine okC F sc_summed (fun vs H Q E h => by obtain ⟨_, _, _, _, _, _, _, _, _, _, rfl, _⟩ := h; rfl) (fun cdv A outer s H vs Q E hcd hr h => ?_)
  obtain ⟨f, g, F, G, r, h, w1, w2, p1, p2, rfl, hF, hG, q1, q2, hT, k⟩ := h
  have hcode : cdv = .ref T.tS.1 := hcd.symm.trans hc
  refine ⟨_, (pss_one (ps_ret (pe_F9 T (hr.mono (by decide)) (by rfl) (pk_cons (pe_op op_add (pe_fldC T.clF (T.naF _ (by decide)) (pv 0)) (pe_fldC T.clF (T.naF _ (by decide)) (pv 1))) (pk_cons (pe_op op_add (pe_fldC T.clF (T.naF _ (by decide)) (pv 0)) (pe_fldC T.clF (T.naF _ (by decide)) (pv 1))) (pk_cons (pe_op op_add (pe_fldC T.clF (T.naF _ (by decide)) (pv 0)) (pe_fldC T.clF (T.naF _ (by decide)) (pv 1))) (pk_cons (C8.pe_c (c_chosen T) hr (by decide) rfl (pa_cons (pe_fldC T.clF (T.naF _ (by decide)) (pv 0)) (pa_cons (pe_fldC T.clF (T.naF _ (by decide)) (pv 1)) (pa_cons (TgL.pe_lam T.bS hcode (hmS T) (huS T) (noFree (by decide +kernel))) pa_nil)))) (pk_cons (C8.pe_c (c_chosen T) hr (by decide) rfl (pa_cons (pe_fldC T.clF (T.naF _ (by decide)) (pv 0)) (pa_cons (pe_fldC T.clF (T.naF _ (by decide)) (pv 1)) (pa_cons (TgL.pe_lam T.bS hcode (hmS T) (huS T) (noFree (by decide +kernel))) pa_nil)))) (pk_cons (pv 4) (pk_cons (pv 5) (pk_cons (pe_op op_add (pe_op op_add (pe_fldC T.clF (T.naF _ (by decide)) (pv 0)) (pe_fldC T.clF (T.naF _ (by decide)) (pv 1))) (pv 2)) (pk_cons (pe_op op_add (pe_op op_add (pe_fldC T.clF (T.naF _ (by decide)) (pv 0)) (pe_fldC T.clF (T.naF _ (by decide)) (pv 1))) (pv 3)) pk_nil)))))))))))), ?_⟩
  obtain ⟨dx, a1, a2, hf, ha1, ha2⟩ := id hF
  obtain ⟨dy, b1, b2, hg, hb1, hb2⟩ := id hG
  refine ⟨_, rfl, f, dx, _, _, rfl, hf, lk_count _ _ _, _, rfl, g, dy, _, _, rfl, hg, lk_count _ _ _, _, _, rfl, rfl, ?_⟩
  refine ⟨_, rfl, f, dx, _, _, rfl, hf, lk_total _ _ _, _, rfl, g, dy, _, _, rfl, hg, lk_total _ _ _, _, _, rfl, rfl, ?_⟩
  refine ⟨_, rfl, f, dx, _, _, rfl, hf, lk_squares _ _ _, _, rfl, g, dy, _, _, rfl, hg, lk_squares _ _ _, _, _, rfl, rfl, ?_⟩
  refine ⟨_, rfl, f, dx, _, _, rfl, hf, lk_least _ _ _, _, rfl, g, dy, _, _, rfl, hg, lk_least _ _ _, hT, fun l1 c1 H1 x1 _ t1 _ m1 n1 => ?_⟩
  have k1 : Kp T.cF T.T [] H H1 := Kp.lam x1 t1
  refine ⟨F.least, G.least, l1, _, ["some"], gMin, rfl, m1, n1, rfl, lok_min T _ _ c1 rfl, fun H2 s2 => ?_⟩
  have k2 := k1.trans (Kp.of s2)
  refine ⟨_, rfl, f, dx, _, _, rfl, k2.fold hf, lk_greatest _ _ _, _, rfl, g, dy, _, _, rfl, k2.fold hg, lk_greatest _ _ _, k2.tb hT, fun l3 c3 H3 x3 _ t3 _ m3 n3 => ?_⟩
  have k3 : Kp T.cF T.T [] H H3 := k2.trans (Kp.lam x3 t3)
  refine ⟨F.greatest, G.greatest, l3, _, ["many"], gMax, rfl, m3, n3, rfl, lok_max T _ _ c3 rfl, fun H4 s4 => ?_⟩
  have k4 := k3.trans (Kp.of s4)
  refine ⟨_, rfl, _, rfl, ?_⟩
  refine ⟨_, rfl, f, dx, _, _, rfl, k4.fold hf, lk_rise _ _ _, _, rfl, g, dy, _, _, rfl, k4.fold hg, lk_rise _ _ _, _, _, rfl, rfl, _, rfl, _, _, rfl, rfl, ?_⟩
  refine ⟨_, rfl, f, dx, _, _, rfl, k4.fold hf, lk_held _ _ _, _, rfl, g, dy, _, _, rfl, k4.fold hg, lk_held _ _ _, _, _, rfl, rfl, _, rfl, _, _, rfl, rfl, ?_⟩
  refine ⟨_, _, _, _, _, _, _, _, _, rfl, fun x H5 s5 nx ⟨dz, hz⟩ => ?_⟩
  have k5 := k4.trans (Kp.of s5)
  rw [pk_min, pk_max] at hz
  exact k H5 x k5 ⟨dz, _, _, hz, q1.kp k5, q2.kp k5⟩
def ks4 : List Str := ["rise", "held", "first", "last"]
theorem b_summed {f : Addr} {fd : FuncData} (F : FunD K "summed" "summed" (defArgs s_summed) (defBody s_summed) (defScope s_summed) [] kwS f fd) :
    ∃ mv : List Value, KBn K fd ["one", "two", "rise", "held", "first", "last"] 2 ks4 (fun us ws => us ++ ws) (fun vs zs => vs ++ zs) := by
  refine F.kbinds0 2 ks4 [] (fun us _ ws => us ++ ws) (by decide) (by intro q hq; cases hq) (fun r1 _ r3 => r1.append r3) ?_
  intro D doc pm an cdv ct us mv ws hu hm hw
  match us, hu, ws, hw with
  | [u, v], _, [a, b, c, d], _ => exact rfl
end
end Tg
/-! TgLc -/
set_option Elab.async false
set_option linter.all false
set_option maxRecDepth 100000
set_option maxHeartbeats 4000000
/-! comprehensions over any walk: what their list or dict holds so far, all else kept -/
namespace Tg
open PySem PySem.Spec PyProof.Rows L2 LamX
section
variable {C : Addr} {T : List (Addr × Str)} {H1 : Hp} {D : Addr}
/-- behind i turns: the list at D holds acc, all else stays -/
def LcP (C : Addr) (T : List (Addr × Str)) (H1 : Hp) (D : Addr) (V : Nat → List L2.V → Hp → Prop) (i : Nat) (H' : Hp) : Prop := ∃ acc, H' D = some (.lst acc) ∧ acc.length ≤ i ∧ Kp C T [] H1 H' ∧ V i acc H'
def DcP (C : Addr) (T : List (Addr × Str)) (H1 : Hp) (D : Addr) (V : Nat → List (Key × L2.V) → Hp → Prop) (i : Nat) (H' : Hp) : Prop := ∃ acc, H' D = some (.dK acc) ∧ acc.length ≤ i ∧ Kp C T [] H1 H' ∧ V i acc H'
theorem lc0 {V : Nat → List L2.V → Hp → Prop} (hD : H1 D = none) (h : V 0 [] (upd H1 D (.lst []))) : LcP C T H1 D V 0 (upd H1 D (.lst [])) := ⟨[], upd_same, Nat.le_refl _, Kp.new hD, h⟩
theorem dc0 {V : Nat → List (Key × L2.V) → Hp → Prop} (hD : H1 D = none) (h : V 0 [] (upd H1 D (.dK []))) : DcP C T H1 D V 0 (upd H1 D (.dK [])) := ⟨[], upd_same, Nat.le_refl _, Kp.new hD, h⟩
/-- a new thing at D is written: what stood in H1 stays -/
theorem Kp.setNew {H H4 : Hp} {o u : HO} (hD : H1 D = none) (k1 : Kp C T [] H1 H4) (h : H4 D = some u) (hw : wr C u) : Kp C T [] H1 (upd H4 D o) := by
  have s := Kp.set (C := C) (T := T) (M := [D]) (o := o) h (List.mem_singleton.mpr rfl) hw
  refine ⟨fun b v e n => ?_, fun t => s.tb (k1.tb t)⟩
  have hb : b ≠ D := ne_of_none e hD
  rw [upd_ne hb]
  exact k1.st b v e n
theorem lcYes {V : Nat → List L2.V → Hp → Prop} {i : Nat} {acc : List L2.V} {y : L2.V} {H H4 : Hp} (hi : i < sizeLine) (hD : H1 D = none) (k1 : Kp C T [] H1 H) (ha : H D = some (.lst acc)) (hl : acc.length ≤ i) (k : Kp C T [] H H4)
    (v : V (i + 1) (acc ++ [y]) (upd H4 D (.lst (acc ++ [y])))) : ∃ acc, H4 D = some (.lst acc) ∧ acc.length < sizeLine ∧ LcP C T H1 D V (i + 1) (upd H4 D (.lst (acc ++ [y]))) := by
  have h4 : H4 D = some (.lst acc) := k.at ha (by simp)
  exact ⟨acc, h4, Nat.lt_of_le_of_lt hl hi, acc ++ [y], upd_same, by rw [List.length_append, List.length_singleton]; omega, Kp.setNew (H := H) hD (k1.trans k) h4 trivial, v⟩
theorem lcNo {V : Nat → List L2.V → Hp → Prop} {i : Nat} {acc : List L2.V} {H H4 : Hp} (k1 : Kp C T [] H1 H) (ha : H D = some (.lst acc)) (hl : acc.length ≤ i) (k : Kp C T [] H H4) (v : V (i + 1) acc H4) : LcP C T H1 D V (i + 1) H4 :=
  ⟨acc, k.at ha (by simp), Nat.le_succ_of_le hl, k1.trans k, v⟩
theorem dcYes {V : Nat → List (Key × L2.V) → Hp → Prop} {i : Nat} {acc : List (Key × L2.V)} {k : Key} {z : L2.V} {H H4 : Hp} (hi : i < sizeLine) (hD : H1 D = none) (k1 : Kp C T [] H1 H) (ha : H D = some (.dK acc)) (hl : acc.length ≤ i) (kk : Kp C T [] H H4)
    (v : V (i + 1) (putK acc k z) (upd H4 D (.dK (putK acc k z)))) : ∃ acc k', kV k = kV k' ∧ H4 D = some (.dK acc) ∧ acc.length < sizeLine ∧ DcP C T H1 D V (i + 1) (upd H4 D (.dK (putK acc k' z))) := by
  have h4 : H4 D = some (.dK acc) := kk.at ha (by simp)
  have hp := length_putK acc k z
  exact ⟨acc, k, rfl, h4, Nat.lt_of_le_of_lt hl hi, putK acc k z, upd_same, by omega, Kp.setNew (H := H) hD (k1.trans kk) h4 trivial, v⟩
theorem dcNo {V : Nat → List (Key × L2.V) → Hp → Prop} {i : Nat} {acc : List (Key × L2.V)} {H H4 : Hp} (k1 : Kp C T [] H1 H) (ha : H D = some (.dK acc)) (hl : acc.length ≤ i) (k : Kp C T [] H H4) (v : V (i + 1) acc H4) : DcP C T H1 D V (i + 1) H4 :=
  ⟨acc, k.at ha (by simp), Nat.le_succ_of_le hl, k1.trans k, v⟩
end
/-! rules whose readings name K, for a comprehension's block -/
theorem pgT {X : Cx} {K : PySem.W.Frag} {es : List Expr} {k : Nat} {pos : Pos} {t : TGs} {n : Nat} (hK : X.K = K) (hc : X.calm = true) (h : PGs X es t)
    (hn : (assignEach es X.env).length = n := by rfl) (hst : (assignEach es X.env).findIdx? (·.1) = none := by rfl) : PG X (.Tuple es k pos) (gTup K n t) := by
  subst hK
  exact pg_tup hc h hn hst
theorem ixLK {X : Cx} {K : PySem.W.Frag} (hK : X.K = K) : IxR X (rIxL K) := by subst hK; exact ix_list
theorem ixTK {X : Cx} {K : PySem.W.Frag} (hK : X.K = K) : IxR X (rIxT K) := by subst hK; exact ix_tup
theorem eqDK {X : Cx} {K : PySem.W.Frag} (hK : X.K = K) (hu : X.A.units + 64 < cLine) : OpR X (compareOp .Eq) (rEqD K) := by subst hK; exact op_eqD hu
theorem slTK {X : Cx} {K : PySem.W.Frag} (hK : X.K = K) : SlR X (rSlA K) := by subst hK; exact sl_tupA
/-- a dict comprehension over any walk -/
theorem dc_it {J : It} {n : Nat} {G : Hp → Prop} {Y : Nat → Hp → V → Hp → Prop} (w : Walk J n G Y) {g : TG} {tt : TT} {tk tv : TE} {vs : List Nat} {σ : L2.St} {H1 : Hp} {D : Addr} {Qd : Hp → Prop} (Pv : Nat → Hp → Prop) (h0 : Pv 0 (upd H1 D (.dK []))) (hG : ∀ i H, i ≤ n → Pv i H → G H)
    (hs : ∀ i x H H', i < n → Pv i H → Y i H x H' → g x (wipe σ vs) H' fun σ2 H2 => wipe σ2 vs = wipe σ vs ∧ tt σ2 H2 fun b H3 =>
      if b = true then tk σ2 H3 fun y H4 => tv σ2 H4 fun z H5 => ∃ kvs k, y = kV k ∧ H5 D = some (.dK kvs) ∧ kvs.length < sizeLine ∧ Pv (i + 1) (upd H5 D (.dK (putK kvs k z))) else Pv (i + 1) H3) (hd : ∀ H, Pv n H → Qd H) :
    ∃ W : Nat → Nat → Hp → Prop, (∃ m, W 0 m (upd H1 D (.dK []))) ∧ ∀ i m H, W i m H →
      (J.stop i H ∧ Qd H) ∨ (J.go i H ∧ ∃ Nx : Hp → Prop, (∀ H', Nx H' → ∃ m', m' < m ∧ W (i + 1) m' H') ∧ ∀ x H', J.yld i H x H' → g x (wipe σ vs) H' fun σ2 H2 => wipe σ2 vs = wipe σ vs ∧ tt σ2 H2 fun b H3 =>
        if b = true then tk σ2 H3 fun y H4 => tv σ2 H4 fun z H5 => ∃ kvs k, y = kV k ∧ H5 D = some (.dK kvs) ∧ kvs.length < sizeLine ∧ Nx (upd H5 D (.dK (putK kvs k z))) else Nx H3) := by
  refine ⟨fun i m H => m = n - i ∧ i ≤ n ∧ Pv i H, ⟨n, by simp, Nat.zero_le _, h0⟩, ?_⟩
  rintro i m H ⟨rfl, hi, p⟩
  have q := hG i H hi p
  by_cases hlt : i < n
  · exact .inr ⟨w.goes i H hlt q, Pv (i + 1), fun H' p' => ⟨n - (i + 1), by omega, rfl, hlt, p'⟩, fun x H' y => hs i x H H' hlt p (w.yields i H x H' hlt q y)⟩
  · have e : i = n := by omega
    subst e
    exact .inl ⟨w.stops H q, hd H p⟩
/-- a list that stays -/
theorem Kp.seqL {K : PySem.W.Frag} {C : Addr} {T : List (Addr × Str)} {M : List Addr} {H H' : Hp} (k : Kp C T M H H') {a : Addr} {xs : List V} (hm : a ∉ M) (h : SqL K H a xs) : SqL K H' a xs := by
  rcases h with h | h
  · exact .inl (h.elim (fun q => .inl (k.at q hm)) fun ⟨o, q⟩ => .inr ⟨o, k.at q hm⟩)
  · exact .inr h
theorem Kp.seqT {K : PySem.W.Frag} {C : Addr} {T : List (Addr × Str)} {M : List Addr} {H H' : Hp} (k : Kp C T M H H') {a : Addr} {xs : List V} (hm : a ∉ M) (h : SqT K H a xs) : SqT K H' a xs := by
  rcases h with h | h
  · exact .inl (h.elim (fun q => .inl (k.at q hm)) fun ⟨o, q⟩ => .inr ⟨o, k.at q hm⟩)
  · exact .inr h
/-- .. where nothing is written -/
theorem Kp.lst {K : PySem.W.Frag} {C : Addr} {T : List (Addr × Str)} {H H' : Hp} (k : Kp C T [] H H') {a : Addr} {xs : List V} (h : SqL K H a xs) : SqL K H' a xs := k.seqL (by simp) h
theorem Kp.tpl {K : PySem.W.Frag} {C : Addr} {T : List (Addr × Str)} {H H' : Hp} (k : Kp C T [] H H') {a : Addr} {xs : List V} (h : SqT K H a xs) : SqT K H' a xs := k.seqT (by simp) h
theorem Kp.any {C : Addr} {T : List (Addr × Str)} {H H' : Hp} (k : Kp C T [] H H') {a : Addr} {o : HO} (h : H a = some o) (ht : ∀ ps, o ≠ .tbl ps := by intro _ z; cases z) : H' a = some o := k.at h (by simp) ht
theorem Kp.dp {K : PySem.W.Frag} {C : Addr} {T : List (Addr × Str)} {M : List Addr} {H H' : Hp} (k : Kp C T [] H H') {v : V} {d : PyData} : True := trivial
end Tg
/-! TgD4 -/
set_option Elab.async false
set_option linter.all false
set_option maxRecDepth 100000
set_option maxHeartbeats 4000000
/-! together, fold_of -/
namespace Tg
open PySem PySem.Spec PyProof.Rows L2 LamX NdefX TgM
theorem rg0 {v : V} {o : Option Pt} {H : Hp} {p : Pt} (h : PtV H v o) (e : o = some p) : ∃ a, v = .ref a ∧ H a = some (.tup [.int p.1, .int p.2]) := by
  rw [e] at h
  exact h
def Bd (l : List Pt) : Prop := ∀ p ∈ l, -1125899906842624 < p.2 ∧ p.2 < 1125899906842624
section
variable {X : Cx}
def tSum (C : Addr) (TL : List (Addr × Str)) (ta tb tr th tf tl : TE) : TE := fun σ H Q => ta σ H fun a H1 => tb σ H1 fun b H2 => tr σ H2 fun r H3 => th σ H3 fun h H4 => tf σ H4 fun f H5 => tl σ H5 fun l H6 => sp_summed C TL [a, b, r, h, f, l] H6 Q E0
theorem pe_sum {p pos k1 k2 k3 k4 : Pos} {a b r h f l : Expr} {ta tb tr th tf tl : TE} {j : Nat} (T : Ev X.K X.mg X.base) (hr : Room j X.A) (ha : PE X a ta) (hb : PE X b tb) (hrr : PE X r tr) (hh : PE X h th) (hf : PE X f tf) (hl : PE X l tl) (hj : 3 ≤ j := by decide) (hg : Gl X "summed" := by rfl)
    (he : starEach [a, b] X.env = (false, eval a X.env) :: starEach [b] X.env := by rfl) (he2 : starEach [b] X.env = (false, eval b X.env) :: starEach [] X.env := by rfl)
    (hpl : ((backTo pos (starEach [a, b] X.env)).any (·.1) || (backToKw pos (keywordEach [⟨some "rise", r, k1⟩, ⟨some "held", h, k2⟩, ⟨some "first", f, k3⟩, ⟨some "last", l, k4⟩] X.env)).any (·.1.isNone)) = false := by rfl) :
    PE X (.Call (.Name "summed" p) [a, b] [⟨some "rise", r, k1⟩, ⟨some "held", h, k2⟩, ⟨some "first", f, k3⟩, ⟨some "last", l, k4⟩] pos) (tSum T.cF T.T ta tb tr th tf tl) := by
  obtain ⟨f', fd, F, hm, hc⟩ := T.d_summed
  obtain ⟨mv, hkb⟩ := b_summed F
  refine peMono (pe_callN (k_summed T F hc) (hr.mono hj) hg hm F.kp hkb pass0 (pa_cons (paMono ha) (pa_cons (paMono hb) pa_nil (hs := he2)) (hs := he)) (pk_cons (nm := "rise") (paMono hrr) (pk_cons (nm := "held") (paMono hh) (pk_cons (nm := "first") (paMono hf) (pk_cons (nm := "last") (paMono hl) pk_nil)))) (by rfl) (by rfl) (by decide) he hpl) fun σ H Q q => ?_
  exact ⟨_, q, fun v1 H1 q1 => ⟨_, q1, fun v2 H2 q2 => ⟨_, q2, fun v3 H3 q3 => ⟨_, q3, fun v4 H4 q4 => ⟨_, q4, fun v5 H5 q5 => ⟨_, q5, fun v6 H6 q6 => ⟨rfl, rfl, q6⟩⟩⟩⟩⟩⟩⟩
end
section
variable {P : Program} {w : World} {K : PySem.W.Frag} {mg : Str → Option Value} {base : Heap}
def sp_together (C : Addr) (TL : List (Addr × Str)) : Sp := fun vs H Q _ => ∃ (f g : Addr) (xs ys : List Pt), vs = [.ref f, .ref g] ∧ FoldAt C H f (fo xs) ∧ FoldAt C H g (fo ys) ∧ Srt (xs ++ ys) ∧ Bd (xs ++ ys) ∧ Tabs TL H ∧
  ∀ H' x, Kp C TL [] H H' → FoldAt C H' x (fo (xs ++ ys)) → Q (.ref x) H'
theorem sc_together : FnScope ["one", "two", "whole", "gap", "more", "fold"] ["one", "two"] (defScope s_together) := ⟨rfl, rfl, rfl, by decide +kernel, rfl, by decide +kernel, by decide +kernel⟩
theorem c_together (T : Ev K mg base) : C8.Cal P w K mg base 4 "together" (sp_together T.cF T.T) [] := by
  refine calD T.d_together sc_together (fun _ _ _ _ _ _ us hl => match us, hl with | [_, _], _ => rfl) (fun vs H Q E h => by obtain ⟨_, _, _, _, rfl, _⟩ := h; rfl) (fun f cdv A outer s H vs Q E hr h => ?_)
  obtain ⟨f, g, xs, ys, rfl, hF, hG, hs, hb, hT, k⟩ := h
  refine ⟨_, (pss_cons (ps_if (PW.pt (pw_or (pt_cmpR op_eq (pe_fldC T.clF (T.naF _ (by decide)) (pv 0)) pe_int (nomark _)) (pw_or1 (pt_cmpR op_eq (pe_fldC T.clF (T.naF _ (by decide)) (pv 1)) pe_int (nomark _))))) (pss_cons (ps_set (i := 2) sc_together.nd rfl (Or.inl rfl) (pe_op op_cat (pe_lc (own := [("fold", 5)]) rfl sc_together.nd (pi_tup (pe_tup (pa_cons (pv 0) (pa_cons (pv 1) pa_nil)))) (blkOk_by (own := [("fold", 5)]) (N := ["one", "two", "whole", "gap", "more", "fold"]) (sc := defScope s_together) (by decide +kernel)) (fun _ _ _ _ _ => (pg_name (i := 5) sc_together.nd rfl (Or.inl rfl))) (fun _ _ _ _ _ => (pts_one (pt_cmpR op_gt (pe_fldC T.clF (T.naF _ (by decide)) (pv 5)) pe_int (nomark _)))) (fun _ _ _ _ _ => (pv 5))) (pe_lst (pa_cons (pe_F0 T (hr.mono (by decide)) (by rfl)) pa_nil))))
        (pss_one (ps_ret (C8.pe_c (c_copied T) hr (by decide) rfl (pa_cons (pe_ix ix_list (pv 2) pe_int (fun _ _ => rfl)) pa_nil)))))
        pss_nil)
      (pss_cons (ps_if (pt_cmpR op_le (pe_ix ix_tup (pe_fldC T.clF (T.naF _ (by decide)) (pv 1)) pe_int (fun _ _ => rfl)) (pe_ix ix_tup (pe_fldC T.clF (T.naF _ (by decide)) (pv 0)) pe_int (fun _ _ => rfl)) (nomark _)) (pss_one ps_never)
        pss_nil)
      (pss_cons (ps_set (i := 3) sc_together.nd rfl (Or.inl rfl) (pe_op op_sub (pe_ix ix_tup (pe_fldC T.clF (T.naF _ (by decide)) (pv 1)) pe_int (fun _ _ => rfl)) (pe_ix ix_tup (pe_fldC T.clF (T.naF _ (by decide)) (pv 0)) pe_int (fun _ _ => rfl))))
      (pss_cons (ps_set (i := 4) sc_together.nd rfl (Or.inl rfl) (C8.pe_c (c_step T) hr (by decide) rfl (pa_cons (pe_ix ix_tup (pe_fldC T.clF (T.naF _ (by decide)) (pv 0)) pe_int (fun _ _ => rfl)) (pa_cons (pe_ix ix_tup (pe_fldC T.clF (T.naF _ (by decide)) (pv 1)) pe_int (fun _ _ => rfl)) pa_nil))))
      (pss_one (ps_ret (pe_sum T hr (pv 0) (pv 1) (pv 4) (pe_op op_mul (pe_ix ix_tup (pe_fldC T.clF (T.naF _ (by decide)) (pv 0)) pe_int (fun _ _ => rfl)) (pv 3)) (pe_fldC T.clF (T.naF _ (by decide)) (pv 0)) (pe_fldC T.clF (T.naF _ (by decide)) (pv 1))))))))), ?_⟩
  obtain ⟨dx, a1, a2, hf, ha1, ha2⟩ := id hF
  obtain ⟨dy, b1, b2, hg, hb1, hb2⟩ := id hG
  have O : ∀ (Qb : Bool → Hp → Prop), (xs = [] ∨ ys = [] → Qb true H) → (xs ≠ [] → ys ≠ [] → Qb false H) →
      tOr (tTest (tOp rEq (tFldF T.cF (tVar 0) "count") (tC (V.int 0)))) (tTest (tOp rEq (tFldF T.cF (tVar 1) "count") (tC (V.int 0)))) (start ["one", "two", "whole", "gap", "more", "fold"] [.ref f, .ref g]) H Qb := by
    intro Qb q1 q2
    have d0 : ∀ l : List Pt, decide (V.int (fo l).count = V.int 0) = decide (l = []) := fun l => by
      have := fo_count_zero (l := l)
      by_cases z : l = []
      · rw [z]; rfl
      · have z' : (fo l).count ≠ 0 := fun y => z (this.mp y)
        rw [decide_eq_false z, decide_eq_false fun y => z' (V.int.inj y)]
    refine ⟨_, rfl, f, dx, _, _, rfl, hf, lk_count _ _ _, rfl, _, rfl, ?_⟩
    rw [d0]
    refine ite2 (fun e => q1 (.inl (of_decide_eq_true e))) fun e => ?_
    refine ⟨_, rfl, g, dy, _, _, rfl, hg, lk_count _ _ _, rfl, _, rfl, ?_⟩
    rw [d0]
    have e1 : xs ≠ [] := fun z => e (decide_eq_true z)
    by_cases z : ys = []
    · rw [decide_eq_true z]
      exact q1 (.inr z)
    · rw [decide_eq_false z]
      exact q2 e1 z
  refine O _ (fun h0 => iteT ?_) (fun h1 h2 => iteF ?_)
  · refine ⟨_, rfl, _, rfl, two_le, fun p np => ⟨p, rfl, ⟨_, SqT.of upd_same⟩, fun D nD => ?_⟩⟩
    have npD : p ≠ D := ne_of_none upd_same nD
    have k1 : Kp T.cF T.T [] H (upd H p (.tup [.ref f, .ref g])) := Kp.new np
    let fl : List V := (if xs = [] then [] else [.ref f]) ++ (if ys = [] then [] else [.ref g])
    refine lc_it (walk_tup (K := K) (a := p) (xs := [.ref f, .ref g])) (LcP T.cF T.T (upd H p (.tup [.ref f, .ref g])) D fun i acc _ => acc = (if i = 0 then [] else if i = 1 then (if xs = [] then [] else [.ref f]) else fl)) (lc0 nD rfl)
      (fun i H' _ ⟨acc, _, _, k2, _⟩ => SqT.of (k2.tup upd_same)) ?_ ?_
    · rintro i x H' H2 hi ⟨acc, ha, hl, k2, rfl⟩ ⟨rfl, hx⟩
      have kk := k1.trans k2
      have hi2 : i < 2 := hi
      have test : ∀ (l : List Pt), decide ((0 : Int) < (fo l).count) = !decide (l = []) := fun l => by
        have h1 := fo_count_zero (l := l)
        have h2 := fo_count_nn l
        by_cases z : l = []
        · rw [z]; rfl
        · have : (fo l).count ≠ 0 := fun y => z (h1.mp y)
          rw [decide_eq_false z, decide_eq_true (by omega)]
          rfl
      match i, hi2 with
      | 0, _ =>
        have ex : x = .ref f := (Option.some.inj hx).symm
        subst ex
        refine ⟨rfl, _, rfl, f, dx, _, _, rfl, kk.fold hf, lk_count _ _ _, _, _, rfl, rfl, _, rfl, ?_⟩
        show if decide ((0 : Int) < (fo xs).count) = true then _ else _
        rw [test]
        by_cases z : xs = []
        · rw [decide_eq_true z]
          refine iteF (lcNo k2 ha hl (Kp.refl _) ?_)
          simp [z]
        · rw [decide_eq_false z]
          refine iteT ⟨_, rfl, lcYes (by decide) nD k2 ha hl (Kp.refl _) ?_⟩
          simp [z]
      | 1, _ =>
        have ex : x = .ref g := (Option.some.inj hx).symm
        subst ex
        refine ⟨rfl, _, rfl, g, dy, _, _, rfl, kk.fold hg, lk_count _ _ _, _, _, rfl, rfl, _, rfl, ?_⟩
        show if decide ((0 : Int) < (fo ys).count) = true then _ else _
        rw [test]
        by_cases z : ys = []
        · rw [decide_eq_true z]
          refine iteF (lcNo k2 ha hl (Kp.refl _) ?_)
          simp [fl, z]
        · rw [decide_eq_false z]
          refine iteT ⟨_, rfl, lcYes (by decide) nD k2 ha hl (Kp.refl _) ?_⟩
          simp [fl, z]
    · rintro H' ⟨acc, ha, hl, k2, ea⟩
      have ea : acc = fl := ea
      subst ea
      refine ⟨_, _, _, _, _, _, _, _, _, rfl, fun x H3 s3 nx ⟨dz, hz⟩ => ⟨(by show 1 ≤ sizeLine; decide), fun q nq => ?_⟩⟩
      have k3 := k2.trans ((Kp.of (C := T.cF) (T := T.T) (M := []) s3).trans (Kp.new (o := .lst [.ref x]) nq))
      refine ⟨D, q, fl, [.ref x], rfl, rfl, (Same.new nq) _ _ (s3 _ _ ha), upd_same, ?_, fun r nr => ?_⟩
      · have : fl.length ≤ 2 := by
          show (_ ++ _ : List V).length ≤ 2
          rw [List.length_append]
          split <;> split <;> simp
        exact Nat.le_trans (Nat.add_le_add_right this 1) (by decide)
      have k4 := k1.trans (k3.trans (Kp.new (C := T.cF) (T := T.T) (M := []) (o := .lst (fl ++ [.ref x])) nr))
      have hx4 : FoldAt T.cF (upd (upd H3 q (.lst [.ref x])) r (.lst (fl ++ [.ref x]))) x F0 := ⟨dz, .non, .non, (Same.new nr) _ _ ((Same.new nq) _ _ hz), rfl, rfl⟩
      obtain ⟨y, l, e1, e2, e3⟩ : ∃ (y : Addr) (l : List Pt), (fl ++ [V.ref x])[0]? = some (.ref y) ∧ FoldAt T.cF (upd (upd H3 q (.lst [.ref x])) r (.lst (fl ++ [.ref x]))) y (fo l) ∧ l = xs ++ ys := by
        by_cases z1 : xs = []
        · by_cases z2 : ys = []
          · exact ⟨x, [], by simp [fl, z1, z2], hx4, by simp [z1, z2]⟩
          · exact ⟨g, ys, by simp [fl, z1, z2], hG.kp k4, by simp [z1]⟩
        · have z2 : ys = [] := h0.resolve_left z1
          exact ⟨f, xs, by simp [fl, z1, z2], hF.kp k4, by simp [z2]⟩
      exact ⟨_, rfl, r, fl ++ [V.ref x], 0, .ref y, rfl, rfl, SqL.of upd_same, atI_nat (j := 0) e1, y, fo l, rfl, e2, fun H' g' s5 h5 => k H' g' (k4.trans (Kp.of s5)) (e3 ▸ h5)⟩
  · obtain ⟨p, hp⟩ : ∃ p, xs.getLast? = some p := ⟨_, List.getLast?_eq_some_getLast h1⟩
    obtain ⟨q, hq⟩ : ∃ q, ys.head? = some q := ⟨_, List.head?_eq_some_head h2⟩
    obtain ⟨pa, ep, hpa⟩ := rg0 (p := p) ha2 hp
    obtain ⟨qa, eq, hqa⟩ := rg0 (p := q) hb1 hq
    have hpx : p ∈ xs := List.mem_of_getLast? hp
    have hqy : q ∈ ys := List.mem_of_head? hq
    have hlt : p.1 < q.1 := by
      have := List.pairwise_append.mp hs
      exact this.2.2 p hpx q hqy
    have hbp := hb p (List.mem_append_left _ hpx)
    subst ep eq
    refine ⟨_, rfl, g, dy, _, _, rfl, hg, lk_first _ _ _, qa, _, 0, .int q.1, rfl, rfl, SqT.of hqa, rfl, _, rfl, f, dx, _, _, rfl, hf, lk_last _ _ _, pa, _, 0, .int p.1, rfl, rfl, SqT.of hpa, rfl, _, _, rfl, rfl, _, rfl, ?_⟩
    rw [decide_eq_false (by omega)]
    refine iteF ?_
    refine ⟨_, rfl, g, dy, _, _, rfl, hg, lk_first _ _ _, qa, _, 0, .int q.1, rfl, rfl, SqT.of hqa, rfl, _, rfl, f, dx, _, _, rfl, hf, lk_last _ _ _, pa, _, 0, .int p.1, rfl, rfl, SqT.of hpa, rfl, _, _, rfl, rfl, ?_⟩
    refine ⟨_, rfl, f, dx, _, _, rfl, hf, lk_last _ _ _, pa, _, 1, .int p.2, rfl, rfl, SqT.of hpa, rfl, _, rfl, g, dy, _, _, rfl, hg, lk_first _ _ _, qa, _, 1, .int q.2, rfl, rfl, SqT.of hqa, rfl, p.2, q.2, rfl, ?_⟩
    refine ⟨_, rfl, _, rfl, _, rfl, _, rfl, f, dx, _, _, rfl, hf, lk_last _ _ _, pa, _, 1, .int p.2, rfl, rfl, SqT.of hpa, rfl, _, rfl, _, _, rfl, rfl, mll (by omega) (by omega), ?_⟩
    refine ⟨_, rfl, f, dx, _, _, rfl, hf, lk_first _ _ _, _, rfl, g, dy, _, _, rfl, hg, lk_last _ _ _, f, g, fo xs, fo ys, _, _, _, _, _, _, rfl, hF, hG, ha1, hb2, hT, fun H' x k1 h1 => k H' x k1 ?_⟩
    rw [fo_append hp hq]
    exact h1
end
end Tg
/-! TgD5 -/
set_option Elab.async false
set_option linter.all false
set_option maxRecDepth 100000
set_option maxHeartbeats 4000000
/-! fold_of -/
namespace Tg
open PySem PySem.Spec PyProof.Rows L2 LamX NdefX TgM
theorem mapGet {α : Type} {f : α → V} {l : List α} {i : Nat} {v : V} {z : α} (e : (l.map f)[i]? = some v) (hq : l[i]? = some z) : v = f z := by
  rw [List.getElem?_map, hq] at e
  exact (Option.some.inj e).symm
/-- a list of points, each a tuple of its own -/
structure PtsAt (K : PySem.W.Frag) (H : Hp) (a : Addr) (l : List (Addr × Pt)) : Prop where
  ls : SqL K H a (l.map fun x => V.ref x.1)
  pt : ∀ x ∈ l, H x.1 = some (.tup [.int x.2.1, .int x.2.2])
theorem PtsAt.kp {K : PySem.W.Frag} {C : Addr} {T : List (Addr × Str)} {M : List Addr} {H H' : Hp} {a : Addr} {l : List (Addr × Pt)} (k : Kp C T M H H') (hm : a ∉ M) (h : PtsAt K H a l) : PtsAt K H' a l := ⟨k.seqL hm h.ls, fun x hx => k.tup (h.pt x hx)⟩
section
variable {P : Program} {w : World} {K : PySem.W.Frag} {mg : Str → Option Value} {base : Heap}
def sp_fold_of (K : PySem.W.Frag) (C : Addr) (TL : List (Addr × Str)) : Sp := fun vs H Q _ => ∃ (a : Addr) (l : List (Addr × Pt)), vs = [.ref a] ∧ PtsAt K H a l ∧ Srt (l.map (·.2)) ∧ Bd (l.map (·.2)) ∧ Tabs TL H ∧
  ∀ H' x, Kp C TL [] H H' → FoldAt C H' x (fo (l.map (·.2))) → Q (.ref x) H'
theorem sc_fold_of : FnScope ["points", "told", "at", "time", "worth", "one"] ["points"] (defScope s_fold_of) := ⟨rfl, rfl, rfl, by decide +kernel, rfl, by decide +kernel, by decide +kernel⟩
theorem c_fold_of (T : Ev K mg base) : C8.Cal P w K mg base 5 "fold_of" (sp_fold_of K T.cF T.T) [] := by
  refine calD T.d_fold_of sc_fold_of (fun _ _ _ _ _ _ us hl => match us, hl with | [_], _ => rfl) (fun vs H Q E h => by obtain ⟨_, _, rfl, _⟩ := h; rfl) (fun f cdv A outer s H vs Q E hr h => ?_)
  obtain ⟨a, l, rfl, hP, hs, hb, hT, k⟩ := h
  refine ⟨_, (pss_cons (ps_set (i := 1) sc_fold_of.nd rfl (Or.inl rfl) (pe_F0 T (hr.mono (by decide)) (by rfl)))
      (pss_cons (ps_for PassesOwn.never rfl (pi_enum (by rfl) T.b_enumerate (pa_cons (pv 0) pa_nil)) (pg_tup rfl (pgs_cons (pg_name (i := 2) sc_fold_of.nd rfl (Or.inl rfl)) (pgs_cons (pg_tup rfl (pgs_cons (pg_name (i := 3) sc_fold_of.nd rfl (Or.inl rfl)) (pgs_cons (pg_name (i := 4) sc_fold_of.nd rfl (Or.inl rfl)) pgs_nil))) pgs_nil)))
        (pss_cons (ps_if (PW.pt (pw_and (pt_cmpR op_gt (pv 2) pe_int (nomark _)) (pw_and1 (pt_cmpR op_le (pv 3) (pe_ix ix_tup (pe_ix ix_list (pv 0) (pe_op op_sub (pv 2) pe_int) (fun _ _ => rfl)) pe_int (fun _ _ => rfl)) (nomark _))))) (pss_one ps_never)
          pss_nil)
        (pss_cons (ps_set (i := 5) sc_fold_of.nd rfl (Or.inl rfl) (pe_F7 T (hr.mono (by decide)) (by rfl) (pk_cons pe_int (pk_cons (pv 4) (pk_cons (pe_op op_mul (pv 4) (pv 4)) (pk_cons (pv 4) (pk_cons (pv 4) (pk_cons (pe_tup (pa_cons (pv 3) (pa_cons (pv 4) pa_nil))) (pk_cons (pe_tup (pa_cons (pv 3) (pa_cons (pv 4) pa_nil))) pk_nil)))))))))
        (pss_one (ps_set (i := 1) sc_fold_of.nd rfl (Or.inl rfl) (C8.pe_c (c_together T) hr (by decide) rfl (pa_cons (pv 1) (pa_cons (pv 5) pa_nil))))))))
      (pss_one (ps_ret (pv 1))))), ?_⟩
  refine ⟨_, _, _, _, _, _, _, _, _, rfl, fun x0 H0 s0 n0 ⟨d0, h0⟩ => ?_⟩
  have k0 : Kp T.cF T.T [] H H0 := .of s0
  refine ⟨_, rfl, a, _, rfl, k0.lst hP.ls, ?_⟩
  have hlen : (l.map fun x => V.ref x.1).length = l.length := List.length_map _
  refine for_it (walk_enum (K := K) (a := a) (xs := l.map fun x => V.ref x.1)) (fun i σ H' => ∃ (told : Addr) (o2 o3 o4 o5 : Option V), σ = [some (.ref a), some (.ref told), o2, o3, o4, o5] ∧ Kp T.cF T.T [] H H' ∧ FoldAt T.cF H' told (fo ((l.map (·.2)).take i)))
    ⟨x0, none, none, none, none, rfl, k0, ⟨d0, .non, .non, h0, rfl, rfl⟩⟩ (fun i σ H' _ ⟨_, _, _, _, _, _, k1, _⟩ => k1.lst hP.ls) ?_ ?_
  · rintro i x σ H1 H2 hi ⟨told, o2, o3, o4, o5, rfl, k1, hF⟩ ⟨p, u, v, rfl, np, rfl, e1, e2⟩
    have hi' : i < l.length := by rw [← hlen]; exact hi
    obtain ⟨⟨q, t, wo⟩, hq⟩ : ∃ z, l[i]? = some z := ⟨_, List.getElem?_eq_getElem hi'⟩
    have e1 : u = .int (i : Nat) := (Option.some.inj e1).symm
    have e2 : v = .ref q := mapGet (f := fun x : Addr × Pt => V.ref x.1) (z := (q, t, wo)) e2 hq
    subst e1 e2
    have hqm : (q, t, wo) ∈ l := List.mem_of_getElem? hq
    have k2 : Kp T.cF T.T [] H (upd H1 p (.tup [.int (i : Nat), .ref q])) := k1.trans (Kp.new np)
    have hpt := k2.tup (hP.pt _ hqm)
    refine ⟨p, _, rfl, SqT.of upd_same, rfl, _, _, rfl, _, _, rfl, q, _, rfl, SqT.of hpt, rfl, _, _, rfl, _, _, rfl, rfl, rfl, ?_⟩
    have hbd := hb (t, wo) (List.mem_map.mpr ⟨_, hqm, rfl⟩)
    have go : ∀ (Qb : Bool → Hp → Prop), Qb false (upd H1 p (.tup [.int (i : Nat), .ref q])) → (tAnd (tTest (tOp (rI0 fun i j => V.bl (decide (j < i))) (tVar 2) (tC (V.int 0)))) (tTest (tOp (rI0 fun i j => V.bl (decide (i ≤ j))) (tVar 3) (tOp (rIxT K) (tOp (rIxL K) (tVar 0) (tOp (rI0 fun i j => V.int (i - j)) (tVar 2) (tC (V.int 1)))) (tC (V.int 0))))))
        [some (.ref a), some (.ref told), some (.int (i : Nat)), some (.int t), some (.int wo), o5] (upd H1 p (.tup [.int (i : Nat), .ref q])) Qb := fun Qb hc => by
      refine ⟨_, rfl, _, _, rfl, rfl, _, rfl, ?_⟩
      refine ite2 (fun e => ?_) (fun e => hc)
      have hi0 : 0 < i := by have := of_decide_eq_true e; omega
      obtain ⟨⟨q', t', w'⟩, hq'⟩ : ∃ z, l[i - 1]? = some z := ⟨_, List.getElem?_eq_getElem (by omega)⟩
      have hqm' : (q', t', w') ∈ l := List.mem_of_getElem? hq'
      have hat : atI (l.map fun x => V.ref x.1) ((i : Int) - 1) = some (.ref q') := by
        have : ((i : Int) - 1) = ((i - 1 : Nat) : Int) := by omega
        rw [this]
        exact atI_nat (by rw [List.getElem?_map, hq']; rfl)
      refine ⟨_, rfl, _, rfl, _, rfl, _, _, rfl, rfl, a, _, _, _, rfl, rfl, k2.lst hP.ls, hat, q', _, 0, .int t', rfl, rfl, SqT.of (k2.tup (hP.pt _ hqm')), rfl, _, _, rfl, rfl, _, rfl, ?_⟩
      have hlt : t' < t := by
        have h1 : (l.map (·.2))[i - 1]? = some (t', w') := by rw [List.getElem?_map, hq']; rfl
        have h2 : (l.map (·.2))[i]? = some (t, wo) := by rw [List.getElem?_map, hq]; rfl
        obtain ⟨b1, g1⟩ := List.getElem?_eq_some_iff.mp h1
        obtain ⟨b2, g2⟩ := List.getElem?_eq_some_iff.mp h2
        have := List.pairwise_iff_getElem.mp hs (i - 1) i b1 b2 (by omega)
        rw [g1, g2] at this
        exact this
      rw [decide_eq_false (by omega)]
      exact hc
    refine go _ (iteF ?_)
    refine ⟨_, rfl, _, rfl, _, rfl, _, _, rfl, rfl, mll (i := wo) (by omega) (by omega), _, rfl, _, rfl, _, rfl, _, rfl, two_le, fun p1 n1 => ?_⟩
    refine ⟨_, rfl, _, rfl, two_le, fun p2 n2 => ?_⟩
    refine ⟨_, _, _, _, _, _, _, rfl, fun x H3 s3 nx ⟨dz, hz⟩ => ?_⟩
    have k3' : Kp T.cF T.T [] (upd H1 p (.tup [.int (i : Nat), .ref q])) H3 := ((Kp.new (C := T.cF) (T := T.T) (M := []) (o := .tup [.int t, .int wo]) n1).trans ((Kp.new (o := .tup [.int t, .int wo]) n2).trans (Kp.of s3)))
    have k3 := k2.trans k3'
    have e3 : (l.map (·.2)).take (i + 1) = (l.map (·.2)).take i ++ [(t, wo)] := by
      rw [List.take_succ, List.getElem?_map, hq]
      rfl
    have h1p : H3 p1 = some (.tup [.int t, .int wo]) := s3 _ _ ((Same.new n2) _ _ upd_same)
    have h2p : H3 p2 = some (.tup [.int t, .int wo]) := s3 _ _ upd_same
    have hone : FoldAt T.cF H3 x (fo [(t, wo)]) := by
      rw [fo_one]
      exact ⟨dz, _, _, hz, ⟨p1, rfl, h1p⟩, ⟨p2, rfl, h2p⟩⟩
    have hsub : ((l.map (·.2)).take i ++ [(t, wo)]).Sublist (l.map (·.2)) := by
      rw [← e3]
      exact List.take_sublist _ _
    refine ⟨_, rfl, _, rfl, told, x, (l.map (·.2)).take i, [(t, wo)], rfl, ?_, hone, List.Pairwise.sublist hsub hs, fun z hz => hb z (hsub.subset hz), k3.tb hT, fun H4 y k4 h4 => ?_⟩
    · exact hF.kp ((Kp.new np).trans k3')
    · refine ⟨y, _, _, _, _, rfl, k3.trans k4, ?_⟩
      rw [e3]
      exact h4
  · rintro σ H' ⟨told, o2, o3, o4, o5, rfl, k1, hF⟩
    rw [hlen, List.take_of_length_le (by simp)] at hF
    exact ⟨_, rfl, k H' told k1 hF⟩
end
end Tg
/-! TgD6 -/
set_option Elab.async false
set_option linter.all false
set_option maxRecDepth 100000
set_option maxHeartbeats 4000000
/-! the law's draws -/
namespace Tg
open PySem PySem.Spec PyProof.Rows L2 LamX NdefX TgM
/-- the purse: what is left of the number, its cell, its count -/
def PurseAt (H : Hp) (a : Addr) (m : Int) : Prop := ∃ p0 p1 p2 : Int, H a = some (.lst [.int p0, .int p1, .int p2]) ∧ 0 ≤ p0 ∧ 0 ≤ p1 ∧ p1 < 2147483648 ∧ 0 ≤ p2 ∧ p2 ≤ m
theorem PurseAt.mono {H : Hp} {a : Addr} {m n : Int} (h : PurseAt H a m) (hm : m ≤ n) : PurseAt H a n := by
  obtain ⟨p0, p1, p2, h1, h2, h3, h4, h5, h6⟩ := h
  exact ⟨p0, p1, p2, h1, h2, h3, h4, h5, by omega⟩
/-- all but the thing at a stays -/
def But (a : Addr) (H H' : Hp) : Prop := ∀ b, b ≠ a → H' b = H b
theorem But.refl (a : Addr) (H : Hp) : But a H H := fun _ _ => rfl
theorem But.trans {a : Addr} {H H1 H2 : Hp} (h : But a H H1) (h' : But a H1 H2) : But a H H2 := fun b hb => (h' b hb).trans (h b hb)
theorem But.upd {a : Addr} {H : Hp} {o : HO} : But a H (upd H a o) := fun b hb => upd_ne hb
section
variable {P : Program} {w : World} {K : PySem.W.Frag} {mg : Str → Option Value} {base : Heap}
def sp_mixed : Sp := fun vs H Q _ => ∃ a k : Int, vs = [.int a, .int k] ∧ 0 ≤ a ∧ a < 2147483648 ∧ 0 ≤ k ∧ k < 1099511627776 ∧ ∀ r : Int, Q (.int r) H
theorem sc_law_mixed : FnScope ["_law_cell_here", "_law_k", "_law_a_number"] ["_law_cell_here", "_law_k"] (defScope s_law_mixed) := ⟨rfl, rfl, rfl, by decide +kernel, rfl, by decide +kernel, by decide +kernel⟩
theorem c_law_mixed (T : Ev K mg base) : C8.Cal P w K mg base 1 "_law_mixed" sp_mixed [] := by
  refine calD T.d_law_mixed sc_law_mixed (fun _ _ _ _ _ _ us hl => match us, hl with | [_, _], _ => rfl) (fun vs H Q E h => by obtain ⟨_, _, rfl, _⟩ := h; rfl) (fun f cdv A outer s H vs Q E hr h => ?_)
  obtain ⟨a, k, rfl, a0, a1, k0, k1, q⟩ := h
  refine ⟨_, (pss_cons (ps_set (i := 2) sc_law_mixed.nd rfl (Or.inl rfl) (pe_op op_mod (pe_op op_add (pe_op op_add (pe_op op_add (pe_op op_mul (pv 0) pe_int) (pe_op op_mul (pe_op op_mul pe_int (pv 1)) (pv 1))) (pv 1)) pe_int) pe_int))
      (pss_cons (ps_set (i := 2) sc_law_mixed.nd rfl (Or.inl rfl) (pe_op op_mod (pe_op op_add (pe_op op_mul (pv 2) (pv 2)) pe_int) pe_int))
      (pss_one (ps_ret (pe_op op_mod (pe_op op_mul (pv 2) pe_int) pe_int))))), ?_⟩
  refine ⟨_, rfl, _, _, rfl, rfl, mlr (by omega) (by omega), _, rfl, _, _, rfl, rfl, mll (by omega) (by omega), _, rfl, _, _, rfl, rfl, mlr (by omega) (by omega), _, _, rfl, rfl, _, rfl, _, _, rfl, rfl, _, _, rfl, rfl, _, _, rfl, rfl, (by show (0 : Int) < 2147483647; decide), ?_⟩
  refine ⟨_, rfl, _, rfl, _, _, rfl, rfl, ?_, _, _, rfl, rfl, _, _, rfl, rfl, (by show (0 : Int) < 2147483629; decide), ?_⟩
  · have h1 := Int.emod_nonneg (a * 1103515245 + 7919 * k * k + k + 1) (by decide : (2147483647 : Int) ≠ 0)
    have h2 := Int.emod_lt_of_pos (a * 1103515245 + 7919 * k * k + k + 1) (by decide : (0 : Int) < 2147483647)
    exact mll (by omega) (by omega)
  · exact ⟨_, rfl, _, _, rfl, rfl, mlr (by omega) (by omega), _, _, rfl, rfl, (by show (0 : Int) < 2147483587; decide), q _⟩
def sp_draw : Sp := fun vs H Q _ => ∃ (a : Addr) (n m : Int), vs = [.ref a, .int n] ∧ PurseAt H a m ∧ m ≤ 549755813888 ∧ 0 < n ∧ n < 1152921504606846976 ∧ ∀ d H', 0 ≤ d → d < n → But a H H' → PurseAt H' a (m + 3) → Q (.int d) H'
theorem sc_law_draw : FnScope ["_law_purse_here", "_law_out_of", "_law_drawn", "_law_a_number", "_law_k"] ["_law_purse_here", "_law_out_of"] (defScope s_law_draw) := ⟨rfl, rfl, rfl, by decide +kernel, rfl, by decide +kernel, by decide +kernel⟩
theorem c_law_draw (T : Ev K mg base) : C8.Cal P w K mg base 2 "_law_draw" sp_draw [] := by
  refine calD T.d_law_draw sc_law_draw (fun _ _ _ _ _ _ us hl => match us, hl with | [_, _], _ => rfl) (fun vs H Q E h => by obtain ⟨_, _, _, rfl, _⟩ := h; rfl) (fun f cdv A outer s H vs Q E hr h => ?_)
  obtain ⟨a, n, m, rfl, ⟨p0, p1, p2, h1, q0, q1, q2, q3, q4⟩, hm, n0, n1, k⟩ := h
  refine ⟨_, (pss_cons (ps_if (pt_cmpR op_gt (pe_ix ix_list (pv 0) pe_int (fun _ _ => rfl)) pe_int (nomark _)) (pss_cons (ps_set (i := 2) sc_law_draw.nd rfl (Or.inl rfl) (pe_op op_mod (pe_ix ix_list (pv 0) pe_int (fun _ _ => rfl)) (pv 1)))
        (pss_cons (ps_asg (pe_op op_fdivW (pe_ix ix_list (pv 0) pe_int (fun _ _ => rfl)) (pv 1)) (pg_sub (pv 0) pe_int set_list))
        (pss_one (ps_ret (pv 2)))))
        pss_nil)
      (pss_cons (ps_set (i := 3) sc_law_draw.nd rfl (Or.inl rfl) pe_int)
      (pss_cons (ps_for PassesOwn.never rfl (pi_range1 (by rfl) T.b_range (pa_cons (pe_op op_add pe_int (pe_op op_fdivW (pe_bits (pv 1)) pe_int)) pa_nil)) (pg_name (i := 4) sc_law_draw.nd rfl (Or.inl rfl))
        (pss_cons (ps_asg (pe_op op_add (pe_ix ix_list (pv 0) pe_int (fun _ _ => rfl)) pe_int) (pg_sub (pv 0) pe_int set_list))
        (pss_one (ps_set (i := 3) sc_law_draw.nd rfl (Or.inl rfl) (pe_op op_add (pe_op op_mul (pv 3) pe_int) (C8.pe_c (c_law_mixed T) hr (by decide) rfl (pa_cons (pe_ix ix_list (pv 0) pe_int (fun _ _ => rfl)) (pa_cons (pe_ix ix_list (pv 0) pe_int (fun _ _ => rfl)) pa_nil))))))))
      (pss_one (ps_ret (pe_op op_mod (pv 3) (pv 1))))))), ?_⟩
  refine ⟨_, rfl, a, _, 0, .int p0, rfl, rfl, SqL.of h1, rfl, _, _, rfl, rfl, _, rfl, ?_⟩
  refine ite2 (fun e => ?_) (fun _ => ?_)
  · have e := of_decide_eq_true e
    refine ⟨_, rfl, a, _, 0, .int p0, rfl, rfl, SqL.of h1, rfl, _, rfl, _, _, rfl, rfl, n0, ?_⟩
    refine ⟨_, rfl, a, _, 0, .int p0, rfl, rfl, SqL.of h1, rfl, _, rfl, _, _, rfl, rfl, dv n0 (by omega), _, rfl, a, _, 0, 0, rfl, rfl, h1, rfl, ?_⟩
    refine ⟨_, rfl, k _ _ (Int.emod_nonneg _ (by omega)) (Int.emod_lt_of_pos _ n0) But.upd ⟨_, p1, p2, upd_same, Int.ediv_nonneg q0 (by omega), q1, q2, q3, by omega⟩⟩
  · have hb : (Builtin.Int.intBits n : Int) ≤ 60 := by
      unfold Builtin.Int.intBits
      have h3 : n.natAbs.log2 < 60 := PySem.Flt.log2_lt_of (by decide) (by omega)
      split <;> omega
    have hj : 1 + (Builtin.Int.intBits n : Int) / 30 ≤ 3 := by omega
    refine ⟨_, rfl, _, rfl, _, _, rfl, rfl, dv (by decide) (by decide), _, _, rfl, rfl, _, rfl, by omega, by omega, ?_⟩
    refine for_range (lo := 0) (n := (1 + (Builtin.Int.intBits n : Int) / 30).toNat) (fun i σ H' => ∃ (an : Int) (o4 : Option V) (r2 : Int), σ = [some (.ref a), some (.int n), none, some (.int an), o4] ∧ But a H H' ∧ H' a = some (.lst [.int p0, .int p1, .int r2]) ∧ 0 ≤ r2 ∧ r2 ≤ m + (i : Int))
      ⟨0, none, p2, rfl, But.refl _ _, h1, q3, by omega⟩ ?_ ?_
    · rintro i σ H1 hi ⟨an, o4, r2, rfl, b1, h2, r0, r1⟩
      have hi3 : (i : Int) < 3 := by omega
      refine ⟨_, rfl, a, _, 2, .int r2, rfl, rfl, SqL.of h2, rfl, _, _, rfl, rfl, _, rfl, a, _, 2, 2, rfl, rfl, h2, rfl, ?_⟩
      refine ⟨_, rfl, _, _, rfl, rfl, mlr (by decide) (by decide), _, rfl, a, _, 1, .int p1, rfl, rfl, SqL.of upd_same, rfl, _, rfl, a, _, 2, .int (r2 + 1), rfl, rfl, SqL.of upd_same, rfl, p1, r2 + 1, rfl, q1, by omega, by omega, by omega, fun r => ⟨_, _, rfl, rfl, ?_⟩⟩
      exact ⟨_, _, r2 + 1, rfl, b1.trans But.upd, upd_same, by omega, by omega⟩
    · rintro σ H1 ⟨an, o4, r2, rfl, b1, h2, r0, r1⟩
      exact ⟨_, rfl, _, rfl, _, _, rfl, rfl, n0, k _ _ (Int.emod_nonneg _ (by omega)) (Int.emod_lt_of_pos _ n0) b1 ⟨p0, p1, r2, h2, q0, q1, q2, r0, by omega⟩⟩
end
end Tg
/-! TgD7 -/
set_option Elab.async false
set_option linter.all false
set_option maxRecDepth 100000
set_option maxHeartbeats 4000000
/-! the purse, widths, base, a time, a worth -/
namespace Tg
open PySem PySem.Spec PyProof.Rows L2 LamX NdefX TgM
theorem But.kp {C : Addr} {T : List (Addr × Str)} {a : Addr} {H H' : Hp} {l : List V} (h : H a = some (.lst l)) (b : But a H H') : Kp C T [a] H H' := by
  refine ⟨fun c o e n => ?_, fun t q hq => ?_⟩
  · by_cases hc : c = a
    · subst hc
      rw [h] at e
      cases e
      rcases n with z | z | ⟨_, _, z⟩
      · exact absurd (List.mem_singleton.mpr rfl) z.1
      · exact z.elim
      · cases z
    · rw [b c hc]
      exact e
  · obtain ⟨ps, e1, e2, e3⟩ := t q hq
    refine ⟨ps, ?_, e2, fun pos cv hc => ?_⟩
    · rw [b _ fun z => by rw [z, h] at e1; cases e1]
      exact e1
    · obtain ⟨c, e4, e5⟩ := e3 pos cv hc
      refine ⟨c, e4, ?_⟩
      rw [b _ fun z => by
        rw [z, h] at e5
        unfold CodeO at e5
        cases e5]
      exact e5
theorem PurseAt.lst {H : Hp} {a : Addr} {m : Int} (h : PurseAt H a m) : ∃ l, H a = some (.lst l) := by
  obtain ⟨p0, p1, p2, h1, _⟩ := h
  exact ⟨_, h1⟩
theorem PurseAt.kp {C : Addr} {T : List (Addr × Str)} {a : Addr} {m : Int} {H H' : Hp} (h : PurseAt H a m) (b : But a H H') : Kp C T [a] H H' := let ⟨_, e⟩ := h.lst; b.kp e
theorem PurseAt.st {C : Addr} {T : List (Addr × Str)} {M : List Addr} {a : Addr} {m : Int} {H H' : Hp} (h : PurseAt H a m) (k : Kp C T M H H') (hm : a ∉ M) : PurseAt H' a m := by
  obtain ⟨p0, p1, p2, h1, h2⟩ := h
  exact ⟨p0, p1, p2, k.at h1 hm, h2⟩
theorem Kp.one {C : Addr} {T : List (Addr × Str)} {M : List Addr} {H H' : Hp} (k : Kp C T [] H H') : Kp C T M H H' := k.mono (by simp)
theorem cut_ints (ns : List Int) (l h : Option Int) : cutV (ns.map V.int) l h = ((ns.drop (HT.sIx ns.length 0 l)).take (HT.sIx ns.length ns.length h - HT.sIx ns.length 0 l)).map V.int := by
  unfold cutV
  rw [List.length_map, List.map_take, List.map_drop]
structure WsOk (ws : List Int) : Prop where
  ne : ws ≠ []
  len : ws.length ≤ 4
  bd : ∀ w ∈ ws, 0 < w ∧ w ≤ 1000000000000
  pw : ws.Pairwise fun a b => a < b ∧ a ∣ b
/-! ### lists of tuples of written ints -/
def tTI (l : List Int) : TE := fun _ H Q => ∀ p o, H p = none → o.cls = .type "tuple" → o.dict = none → Q (.ref p) (upd H p (.frz o (.tup (l.map V.int))))
def tTs (ls : List (List Int)) : TA := fun _ H Q => ∀ (ps : List Addr) (H' : Hp), Same H H' → ps.length = ls.length → (∀ (i : Nat) (p : Addr) (l : List Int), ps[i]? = some p → ls[i]? = some l → WT H' p (l.map V.int)) → Q (ps.map V.ref) H'
theorem paT_nil {X : Cx} : PA X [] (tTs []) := ⟨fun pos pins s σ H Q I h => pa_nil.run pos pins s σ H Q I (h [] H (Same.refl _) rfl (fun i p l e => by simp at e))⟩
theorem paT_cons {X : Cx} {e : Expr} {es : List Expr} {l : List Int} {ls : List (List Int)} (he : PE X e (tTI l)) (hs' : PA X es (tTs ls)) (hs : starEach (e :: es) X.env = (false, eval e X.env) :: starEach es X.env := by rfl) : PA X (e :: es) (tTs (l :: ls)) :=
  ⟨fun pos pins s σ H Q I h => (pa_cons he hs' (hs := hs)).run pos pins s σ H Q I fun p o np oc od ps H' s1 hl ha => h (p :: ps) H' ((Same.new np).trans s1) (by simp [hl]) fun i q m e1 e2 => by
    cases i with
    | zero =>
      simp at e1 e2
      subst e1 e2
      exact (WT.new oc od).sm s1
    | succ i => exact ha i q m (by simpa using e1) (by simpa using e2)⟩
section
variable {P : Program} {w : World} {K : PySem.W.Frag} {mg : Str → Option Value} {base : Heap}
def sp_purse (K : PySem.W.Frag) : Sp := fun vs H Q _ => ∃ (a : Addr) (ns : List Int) (i : Int), vs = [.ref a, .int i] ∧ SqL K H a (ns.map V.int) ∧ 0 ≤ i ∧ i ≤ 63 ∧ ∀ H' p, Same H H' → H p = none → PurseAt H' p (1000 * i) → Q (.ref p) H'
theorem sc_law_purse : FnScope ["_law_script", "_law_at", "_law_cell_here", "_law_cut", "_law_k"] ["_law_script", "_law_at"] (defScope s_law_purse) := ⟨rfl, rfl, rfl, by decide +kernel, rfl, by decide +kernel, by decide +kernel⟩
theorem c_law_purse (T : Ev K mg base) : C8.Cal P w K mg base 1 "_law_purse" (sp_purse K) [] := by
  refine calD T.d_law_purse sc_law_purse (fun _ _ _ _ _ _ us hl => match us, hl with | [_, _], _ => rfl) (fun vs H Q E h => by obtain ⟨_, _, _, rfl, _⟩ := h; rfl) (fun f cdv A outer s H vs Q E hr h => ?_)
  obtain ⟨a, ns, i, rfl, hS, i0, i1, k⟩ := h
  refine ⟨_, (pss_cons (ps_set (i := 2) sc_law_purse.nd rfl (Or.inl rfl) (pe_ix ix_list (pe_op op_cat (pe_slice sl_list (pv 0) (po_some (pv 1)) (po_some (pe_op op_add (pv 1) pe_int))) (pe_lst (pa_cons pe_int pa_nil))) pe_int (fun _ _ => rfl)))
      (pss_cons (ps_set (i := 3) sc_law_purse.nd rfl (Or.inl rfl) (pe_op op_pow pe_int pe_int))
      (pss_cons (ps_for PassesOwn.never rfl (pi_range1 (by rfl) T.b_range (pa_cons pe_int pa_nil)) (pg_name (i := 4) sc_law_purse.nd rfl (Or.inl rfl))
        (pss_one (ps_set (i := 3) sc_law_purse.nd rfl (Or.inl rfl) (pe_op op_mulW (pv 3) (pv 3)))))
      (pss_one (ps_ret (pe_lst (pa_cons (pe_op op_mod (pe_callB (call_max2 rfl) (by rfl) T.b_max (by decide +kernel) (pa_cons (pe_op op_sub (pv 2) (pe_op op_pow pe_int pe_int)) (pa_cons pe_int pa_nil))) (pv 3)) (pa_cons (pe_op op_mod (pv 2) pe_int) (pa_cons (pe_op op_mul pe_int (pv 1)) pa_nil))))))))), ?_⟩
  refine ⟨_, rfl, _, rfl, i, rfl, _, rfl, _, _, rfl, rfl, i + 1, rfl, a, _, rfl, hS, fun q nq => ⟨(by show 1 ≤ sizeLine; decide), fun r nr => ?_⟩⟩
  have nqr : q ≠ r := ne_of_none upd_same nr
  refine ⟨q, r, _, [.int 0], rfl, rfl, (Same.new nr) _ _ upd_same, upd_same, ?_, fun t nt => ?_⟩
  · have h1 := cutV_length (ns.map V.int) (some i) (some (i + 1))
    have : (cutV (ns.map V.int) (some i) (some (i + 1))).length ≤ 64 := by
      unfold cutV
      rw [List.length_take]
      have e1 := HT.sIx_nat (ns.map V.int).length 0 i.toNat
      have e2 := HT.sIx_nat (ns.map V.int).length (ns.map V.int).length (i.toNat + 1)
      have z1 : ((i.toNat : Nat) : Int) = i := by omega
      have z2 : ((i.toNat + 1 : Nat) : Int) = i + 1 := by omega
      rw [z1] at e1
      rw [z2] at e2
      rw [e1, e2]
      omega
    exact Nat.le_trans (Nat.add_le_add_right this 1) (by decide)
  · obtain ⟨c, hc⟩ : ∃ c : Int, (cutV (ns.map V.int) (some i) (some (i + 1)) ++ [V.int 0])[0]? = some (.int c) := by
      rw [cut_ints]
      generalize ((ns.drop _).take _) = cs
      cases cs with
      | nil => exact ⟨0, rfl⟩
      | cons c r => exact ⟨c, rfl⟩
    refine ⟨t, _, 0, .int c, rfl, rfl, SqL.of upd_same, atI_nat (j := 0) hc, ?_⟩
    refine ⟨_, _, rfl, rfl, ⟨by decide, by decide, by decide⟩, 5, rfl, by decide, by decide, ?_⟩
    have s3 : Same H (upd (upd (upd H q (.lst (cutV (ns.map V.int) (some i) (some (i + 1))))) r (.lst [.int 0])) t (.lst (cutV (ns.map V.int) (some i) (some (i + 1)) ++ [V.int 0]))) := ((Same.new nq).trans (Same.new nr)).trans (Same.new nt)
    refine for_range (lo := 0) (n := 5) (fun j σ H' => ∃ (cu : Int) (o : Option V), σ = [some (.ref a), some (.int i), some (.int c), some (.int cu), o] ∧ Same H H' ∧ 0 < cu ∧ cu.natAbs < 2 ^ (200 * 2 ^ j))
      ⟨_, none, rfl, s3, by decide, by decide +kernel⟩ ?_ ?_
    · rintro j σ H' hj ⟨cu, o, rfl, s4, c0, c1⟩
      refine ⟨_, rfl, _, rfl, _, _, rfl, rfl, wide_mul c1 c1 (Nat.mul_pos (by decide) (Nat.two_pow_pos j)) (Nat.mul_pos (by decide) (Nat.two_pow_pos j)) ?_, ?_⟩
      · have : 2 ^ j ≤ 2 ^ 4 := Nat.pow_le_pow_right (by decide) (by omega)
        omega
      · refine ⟨_, _, rfl, s4, Int.mul_pos c0 c0, ?_⟩
        have := wide_lt c1 c1
        rw [Nat.pow_succ]
        rw [show 200 * (2 ^ j * 2) = 200 * 2 ^ j + 200 * 2 ^ j by omega]
        exact this
    · rintro σ H' ⟨cu, o, rfl, s4, c0, c1⟩
      refine ⟨_, rfl, _, _, rfl, rfl, ⟨by decide, by decide, by decide⟩, _, _, rfl, rfl, _, _, rfl, _, rfl, _, _, rfl, rfl, c0, ?_⟩
      refine ⟨_, rfl, _, _, rfl, rfl, (by show (0 : Int) < 2147483647; decide), _, rfl, _, _, rfl, rfl, mll (by decide) (by decide), (by show 3 ≤ sizeLine; decide), fun p np => ?_⟩
      refine k _ p (s4.trans (Same.new np)) (s4.free np) ⟨_, _, _, upd_same, Int.emod_nonneg _ (by omega), Int.emod_nonneg _ (by decide), ?_, by omega, by omega⟩
      have := Int.emod_lt_of_pos c (by decide : (0 : Int) < 2147483647)
      omega
theorem pick {xs : List V} {d : Int} (h0 : 0 ≤ d) (h1 : d < xs.length) : ∃ v, atI xs d = some v ∧ v ∈ xs := by
  obtain ⟨j, rfl⟩ : ∃ j : Nat, d = (j : Int) := ⟨d.toNat, by omega⟩
  have hj : j < xs.length := by omega
  exact ⟨xs[j], atI_nat (List.getElem?_eq_getElem hj), List.getElem_mem hj⟩
theorem atLast {xs : List V} {v : V} (h : xs.getLast? = some v) : atI xs (-1) = some v := by
  obtain ⟨ys, rfl⟩ := List.getLast?_eq_some_iff.mp h
  exact atI_last ys v
/-- a list just made stands apart from the purse -/
theorem PurseAt.ne {H : Hp} {a q : Addr} {m : Int} (h : PurseAt H a m) (n : H q = none) : q ≠ a := fun z => by
  obtain ⟨l, e⟩ := h.lst
  rw [z, e] at n
  cases n
def wsAll : List (List Int) := [[1], [10], [60, 3600], [7, 14, 140], [2, 6, 18, 90], [1, 5, 1000000000], [5, 10, 1000000000000], [1, 2, 4, 8], [12, 24], [3, 30, 300, 300000000]]
theorem wsAll_ok : ∀ ws ∈ wsAll, WsOk ws := fun ws h => by
  have : (ws ≠ [] ∧ ws.length ≤ 4 ∧ (∀ w ∈ ws, 0 < w ∧ w ≤ 1000000000000) ∧ ws.Pairwise fun a b => a < b ∧ a ∣ b) := by
    revert ws
    decide +kernel
  exact ⟨this.1, this.2.1, this.2.2.1, this.2.2.2⟩
def sp_widths (C : Addr) (TL : List (Addr × Str)) : Sp := fun vs H Q _ => ∃ (a : Addr) (m : Int), vs = [.ref a] ∧ PurseAt H a m ∧ m ≤ 549755813888 ∧ ∀ H' t ws, Kp C TL [a] H H' → PurseAt H' a (m + 3) → WsOk ws → WT H' t (ws.map V.int) → Q (.ref t) H'
theorem sc_law_widths : FnScope ["_law_purse_here", "_law_some"] ["_law_purse_here"] (defScope s_law_widths) := ⟨rfl, rfl, rfl, by decide +kernel, rfl, by decide +kernel, by decide +kernel⟩
theorem c_law_widths (T : Ev K mg base) : C8.Cal P w K mg base 3 "_law_widths" (sp_widths T.cF T.T) [] := by
  refine calD T.d_law_widths sc_law_widths (fun _ _ _ _ _ _ us hl => match us, hl with | [_], _ => rfl) (fun vs H Q E h => by obtain ⟨_, _, rfl, _⟩ := h; rfl) (fun f cdv A outer s H vs Q E hr h => ?_)
  obtain ⟨a, m, rfl, hp, hm, k⟩ := h
  refine ⟨_, (pss_cons (ps_set (i := 1) sc_law_widths.nd rfl (Or.inl rfl) (pe_lst (paT_cons (l := [1]) (peMono (pe_tupF (pa_cons pe_int pa_nil)) fun _ _ _ q => ⟨by show 1 ≤ sizeLine; decide, q⟩) (paT_cons (l := [10]) (peMono (pe_tupF (pa_cons pe_int pa_nil)) fun _ _ _ q => ⟨by show 1 ≤ sizeLine; decide, q⟩) (paT_cons (l := [60, 3600]) (peMono (pe_tupF (pa_cons pe_int (pa_cons pe_int pa_nil))) fun _ _ _ q => ⟨by show 2 ≤ sizeLine; decide, q⟩) (paT_cons (l := [7, 14, 140]) (peMono (pe_tupF (pa_cons pe_int (pa_cons pe_int (pa_cons pe_int pa_nil)))) fun _ _ _ q => ⟨by show 3 ≤ sizeLine; decide, q⟩) (paT_cons (l := [2, 6, 18, 90]) (peMono (pe_tupF (pa_cons pe_int (pa_cons pe_int (pa_cons pe_int (pa_cons pe_int pa_nil))))) fun _ _ _ q => ⟨by show 4 ≤ sizeLine; decide, q⟩) (paT_cons (l := [1, 5, 1000000000]) (peMono (pe_tupF (pa_cons pe_int (pa_cons pe_int (pa_cons pe_int pa_nil)))) fun _ _ _ q => ⟨by show 3 ≤ sizeLine; decide, q⟩) (paT_cons (l := [5, 10, 1000000000000]) (peMono (pe_tupF (pa_cons pe_int (pa_cons pe_int (pa_cons pe_int pa_nil)))) fun _ _ _ q => ⟨by show 3 ≤ sizeLine; decide, q⟩) paT_nil)))))))))
      (pss_cons (ps_set (i := 1) sc_law_widths.nd rfl (Or.inl rfl) (pe_op op_cat (pv 1) (pe_lst (paT_cons (l := [1, 2, 4, 8]) (peMono (pe_tupF (pa_cons pe_int (pa_cons pe_int (pa_cons pe_int (pa_cons pe_int pa_nil))))) fun _ _ _ q => ⟨by show 4 ≤ sizeLine; decide, q⟩) (paT_cons (l := [12, 24]) (peMono (pe_tupF (pa_cons pe_int (pa_cons pe_int pa_nil))) fun _ _ _ q => ⟨by show 2 ≤ sizeLine; decide, q⟩) (paT_cons (l := [3, 30, 300, 300000000]) (peMono (pe_tupF (pa_cons pe_int (pa_cons pe_int (pa_cons pe_int (pa_cons pe_int pa_nil))))) fun _ _ _ q => ⟨by show 4 ≤ sizeLine; decide, q⟩) paT_nil))))))
      (pss_one (ps_ret (pe_ix ix_list (pv 1) (C8.pe_c (c_law_draw T) hr (by decide) rfl (pa_cons (pv 0) (pa_cons (pe_callB call_len_seq (by rfl) T.b_len (by decide +kernel) (pa_cons (pv 1) pa_nil)) pa_nil))) (fun _ _ => rfl)))))), ?_⟩
  intro ps H1 s1 l1 a1
  refine ⟨by rw [List.length_map, l1]; decide, fun q nq => ?_⟩
  refine ⟨_, rfl, ?_⟩
  intro ps2 H2 s2 l2 a2
  refine ⟨by rw [List.length_map, l2]; decide, fun r nr => ?_⟩
  have k2 : Kp T.cF T.T [] H H2 := (Kp.of s1).trans ((Kp.new nq).trans (Kp.of s2))
  refine ⟨q, r, _, _, rfl, rfl, (Same.new nr) _ _ (s2 _ _ upd_same), upd_same, by rw [List.length_map, List.length_map, l1, l2]; decide, fun t nt => ?_⟩
  have k4 : Kp T.cF T.T [] H2 (upd (upd H2 r (.lst (ps2.map V.ref))) t (.lst (ps.map V.ref ++ ps2.map V.ref))) := (Kp.new nr).trans (Kp.new nt)
  have k5 := k2.trans k4
  have hlen : (ps.map V.ref ++ ps2.map V.ref).length = 10 := by rw [List.length_append, List.length_map, List.length_map, l1, l2]; rfl
  have hp4 := hp.st k5 (by simp)
  refine ⟨_, rfl, _, rfl, _, rfl, t, _, rfl, .inl (SqL.of upd_same), a, _, m, rfl, hp4, hm, by rw [hlen]; decide, by rw [hlen]; decide, fun d H5 d0 d1 b5 hp5 => ?_⟩
  rw [hlen] at d1
  have k6 := hp4.kp (C := T.cF) (T := T.T) b5
  have nat : t ≠ a := by
    obtain ⟨l, e⟩ := (hp.st (k2.trans (Kp.new (o := .lst (ps2.map V.ref)) nr)) (by simp)).lst
    exact fun z => by rw [z, e] at nt; cases nt
  have ht5 : H5 t = some (.lst (ps.map V.ref ++ ps2.map V.ref)) := by rw [b5 t nat]; exact upd_same
  obtain ⟨j, hj⟩ : ∃ j : Nat, d = (j : Int) := ⟨d.toNat, by omega⟩
  subst hj
  have hj10 : j < 10 := by omega
  have key : ∃ (p : Addr) (ws : List Int), (ps.map V.ref ++ ps2.map V.ref)[j]? = some (.ref p) ∧ ws ∈ wsAll ∧ WT H2 p (ws.map V.int) := by
    by_cases h7 : j < 7
    · have hj7 : j < ps.length := by rw [l1]; exact h7
      obtain ⟨l, hl⟩ : ∃ l, ([[1], [10], [60, 3600], [7, 14, 140], [2, 6, 18, 90], [1, 5, 1000000000], [5, 10, 1000000000000]] : List (List Int))[j]? = some l := ⟨_, List.getElem?_eq_getElem h7⟩
      refine ⟨ps[j], l, ?_, List.mem_append_left [[1, 2, 4, 8], [12, 24], [3, 30, 300, 300000000]] (List.mem_of_getElem? hl), ((a1 j _ l (List.getElem?_eq_getElem hj7) hl).sm (Same.new nq)).sm s2⟩
      rw [List.getElem?_append_left (by rw [List.length_map]; exact hj7), List.getElem?_map, List.getElem?_eq_getElem hj7]
      rfl
    · have h3 : j - 7 < 3 := by omega
      have hj3 : j - 7 < ps2.length := by rw [l2]; exact h3
      obtain ⟨l, hl⟩ : ∃ l, ([[1, 2, 4, 8], [12, 24], [3, 30, 300, 300000000]] : List (List Int))[j - 7]? = some l := ⟨_, List.getElem?_eq_getElem h3⟩
      refine ⟨ps2[j - 7], l, ?_, List.mem_append_right [[1], [10], [60, 3600], [7, 14, 140], [2, 6, 18, 90], [1, 5, 1000000000], [5, 10, 1000000000000]] (List.mem_of_getElem? hl), a2 (j - 7) _ l (List.getElem?_eq_getElem hj3) hl⟩
      have l7 : (ps.map V.ref).length = 7 := by rw [List.length_map, l1]; rfl
      rw [List.getElem?_append_right (by rw [l7]; omega), l7, List.getElem?_map, List.getElem?_eq_getElem hj3]
      rfl
  obtain ⟨p, ws, e1, e2, e3⟩ := key
  refine ⟨t, _, _, _, rfl, rfl, SqL.of ht5, atI_nat e1, ?_⟩
  exact k H5 p ws ((k5.one).trans k6) hp5 (wsAll_ok ws e2) ((e3.kp k4).kp k6)
def sp_base (C : Addr) (TL : List (Addr × Str)) : Sp := fun vs H Q _ => ∃ (a : Addr) (m : Int), vs = [.ref a] ∧ PurseAt H a m ∧ m ≤ 549755813880 ∧ ∀ H' b, Kp C TL [a] H H' → PurseAt H' a (m + 6) → -1000000000000000 < b → b < 1000000000000000 → Q (.int b) H'
theorem sc_law_base : FnScope ["_law_purse_here", "_law_far"] ["_law_purse_here"] (defScope s_law_base) := ⟨rfl, rfl, rfl, by decide +kernel, rfl, by decide +kernel, by decide +kernel⟩
theorem c_law_base (T : Ev K mg base) : C8.Cal P w K mg base 3 "_law_base" (sp_base T.cF T.T) [] := by
  refine calD T.d_law_base sc_law_base (fun _ _ _ _ _ _ us hl => match us, hl with | [_], _ => rfl) (fun vs H Q E h => by obtain ⟨_, _, rfl, _⟩ := h; rfl) (fun f cdv A outer s H vs Q E hr h => ?_)
  obtain ⟨a, m, rfl, hp, hm, k⟩ := h
  refine ⟨_, (pss_cons (ps_set (i := 1) sc_law_base.nd rfl (Or.inl rfl) (C8.pe_c (c_law_draw T) hr (by decide) rfl (pa_cons (pv 0) (pa_cons (pe_op op_pow pe_int pe_int) pa_nil))))
      (pss_one (ps_ret (pe_ix ix_list (pe_lst (pa_cons pe_int (pa_cons pe_int (pa_cons (pv 1) (pa_cons (pe_op op_sub pe_int (pv 1)) (pa_cons (pe_op op_mul pe_int (pe_op op_mod (pv 1) pe_int)) (pa_cons (pe_op op_sub pe_int (pe_op op_mul pe_int (pe_op op_mod (pv 1) pe_int))) pa_nil))))))) (C8.pe_c (c_law_draw T) hr (by decide) rfl (pa_cons (pv 0) (pa_cons pe_int pa_nil))) (fun _ _ => rfl))))), ?_⟩
  refine ⟨_, rfl, _, _, rfl, rfl, ⟨by decide, by decide, by decide⟩, a, _, m, rfl, hp, by omega, by decide, by decide, fun fa H1 f0 f1 b1 hp1 => ?_⟩
  have f1 : fa < 100000000000000 := f1
  refine ⟨_, rfl, _, rfl, _, _, rfl, rfl, _, rfl, _, _, rfl, rfl, (by show (0 : Int) < 1000; decide), _, _, rfl, rfl, mll (by decide) (by decide), _, rfl, _, _, rfl, rfl, (by show (0 : Int) < 7; decide), _, _, rfl, rfl, mll (by decide) (by decide), _, _, rfl, rfl, (by show 6 ≤ sizeLine; decide), fun q nq => ?_⟩
  have k1 := hp.kp (C := T.cF) (T := T.T) b1
  have hp2 := hp1.st (Kp.new (C := T.cF) (T := T.T) (M := []) (o := .lst [.int 0, .int 0, .int fa, .int (0 - fa), .int (3600 * (fa % 1000)), .int (0 - 90 * (fa % 7))]) nq) (by simp)
  refine ⟨_, rfl, a, 6, m + 3, rfl, hp2, by omega, by decide, by decide, fun d H3 d0 d1 b3 hp3 => ?_⟩
  have hq3 : H3 q = some (.lst [.int 0, .int 0, .int fa, .int (0 - fa), .int (3600 * (fa % 1000)), .int (0 - 90 * (fa % 7))]) := by
    rw [b3 q (hp1.ne nq)]
    exact upd_same
  obtain ⟨v, ev, mv⟩ := pick (xs := [V.int 0, .int 0, .int fa, .int (0 - fa), .int (3600 * (fa % 1000)), .int (0 - 90 * (fa % 7))]) d0 (by simpa using d1)
  obtain ⟨b, rfl, h1, h2⟩ : ∃ b, v = .int b ∧ -1000000000000000 < b ∧ b < 1000000000000000 := by
    simp only [List.mem_cons, List.not_mem_nil, or_false] at mv
    rcases mv with rfl | rfl | rfl | rfl | rfl | rfl <;> exact ⟨_, rfl, by omega, by omega⟩
  refine ⟨q, _, d, _, rfl, rfl, SqL.of hq3, ev, k H3 b ?_ (hp3.mono (by omega)) h1 h2⟩
  exact k1.trans (((Kp.new nq).one).trans (hp2.kp b3))
def sp_worth (C : Addr) (TL : List (Addr × Str)) : Sp := fun vs H Q _ => ∃ (a : Addr) (m : Int), vs = [.ref a] ∧ PurseAt H a m ∧ m ≤ 549755813880 ∧ ∀ H' b, Kp C TL [a] H H' → PurseAt H' a (m + 6) → -1125899906842624 < b → b < 1125899906842624 → Q (.int b) H'
theorem sc_law_worth : FnScope ["_law_purse_here", "_law_far"] ["_law_purse_here"] (defScope s_law_worth) := ⟨rfl, rfl, rfl, by decide +kernel, rfl, by decide +kernel, by decide +kernel⟩
theorem c_law_worth (T : Ev K mg base) : C8.Cal P w K mg base 3 "_law_worth" (sp_worth T.cF T.T) [] := by
  refine calD T.d_law_worth sc_law_worth (fun _ _ _ _ _ _ us hl => match us, hl with | [_], _ => rfl) (fun vs H Q E h => by obtain ⟨_, _, rfl, _⟩ := h; rfl) (fun f cdv A outer s H vs Q E hr h => ?_)
  obtain ⟨a, m, rfl, hp, hm, k⟩ := h
  refine ⟨_, (pss_cons (ps_set (i := 1) sc_law_worth.nd rfl (Or.inl rfl) (C8.pe_c (c_law_draw T) hr (by decide) rfl (pa_cons (pv 0) (pa_cons (pe_op op_pow pe_int pe_int) pa_nil))))
      (pss_one (ps_ret (pe_ix ix_list (pe_lst (pa_cons (pe_op op_mod (pv 1) pe_int) (pa_cons (pe_op op_mod (pv 1) pe_int) (pa_cons (pe_op op_sub (pe_op op_mod (pv 1) pe_int) pe_int) (pa_cons (pv 1) (pa_cons (pe_op op_sub pe_int (pv 1)) (pa_cons pe_int pa_nil))))))) (C8.pe_c (c_law_draw T) hr (by decide) rfl (pa_cons (pv 0) (pa_cons pe_int pa_nil))) (fun _ _ => rfl))))), ?_⟩
  refine ⟨_, rfl, _, _, rfl, rfl, ⟨by decide, by decide, by decide⟩, a, _, m, rfl, hp, by omega, by decide, by decide, fun fa H1 f0 f1 b1 hp1 => ?_⟩
  have f1 : fa < 100000000000000 := f1
  have k1 := hp.kp (C := T.cF) (T := T.T) b1
  refine ⟨_, rfl, _, _, rfl, rfl, (by show (0 : Int) < 5; decide), _, rfl, _, _, rfl, rfl, (by show (0 : Int) < 5; decide), _, rfl, _, _, rfl, rfl, (by show (0 : Int) < 200; decide), _, _, rfl, rfl, _, rfl, _, rfl, _, _, rfl, rfl, (by show 6 ≤ sizeLine; decide), fun q nq => ?_⟩
  have hp2 := hp1.st (Kp.new (C := T.cF) (T := T.T) (M := []) (o := .lst [.int (fa % 5), .int (fa % 5), .int (fa % 200 - 100), .int fa, .int (0 - fa), .int 0]) nq) (by simp)
  refine ⟨_, rfl, a, 6, m + 3, rfl, hp2, by omega, by decide, by decide, fun d H3 d0 d1 b3 hp3 => ?_⟩
  have hq3 : H3 q = some (.lst [.int (fa % 5), .int (fa % 5), .int (fa % 200 - 100), .int fa, .int (0 - fa), .int 0]) := by
    rw [b3 q (hp1.ne nq)]
    exact upd_same
  obtain ⟨v, ev, mv⟩ := pick (xs := [V.int (fa % 5), .int (fa % 5), .int (fa % 200 - 100), .int fa, .int (0 - fa), .int 0]) d0 (by simpa using d1)
  obtain ⟨b, rfl, h1, h2⟩ : ∃ b, v = .int b ∧ -1125899906842624 < b ∧ b < 1125899906842624 := by
    simp only [List.mem_cons, List.not_mem_nil, or_false] at mv
    rcases mv with rfl | rfl | rfl | rfl | rfl | rfl <;> exact ⟨_, rfl, by omega, by omega⟩
  refine ⟨q, _, d, _, rfl, rfl, SqL.of hq3, ev, k H3 b ?_ (hp3.mono (by omega)) h1 h2⟩
  exact k1.trans (((Kp.new nq).one).trans (hp2.kp b3))
def sp_time (C : Addr) (TL : List (Addr × Str)) : Sp := fun vs H Q _ => ∃ (a t : Addr) (b m : Int) (ws : List Int), vs = [.ref a, .int b, .ref t] ∧ PurseAt H a m ∧ m ≤ 549755813860 ∧ -1000000000000000 < b ∧ b < 1000000000000000 ∧ WT H t (ws.map V.int) ∧ WsOk ws ∧
  ∀ H' x, Kp C TL [a] H H' → PurseAt H' a (m + 12) → -2000000000000000 < x → x < 2000000000000000 → Q (.int x) H'
theorem sc_law_time : FnScope ["_law_purse_here", "_law_base_here", "_law_widths_here", "_law_wide", "_law_time_here"] ["_law_purse_here", "_law_base_here", "_law_widths_here"] (defScope s_law_time) := ⟨rfl, rfl, rfl, by decide +kernel, rfl, by decide +kernel, by decide +kernel⟩
theorem c_law_time (T : Ev K mg base) : C8.Cal P w K mg base 3 "_law_time" (sp_time T.cF T.T) [] := by
  refine calD T.d_law_time sc_law_time (fun _ _ _ _ _ _ us hl => match us, hl with | [_, _, _], _ => rfl) (fun vs H Q E h => by obtain ⟨_, _, _, _, _, rfl, _⟩ := h; rfl) (fun f cdv A outer s H vs Q E hr h => ?_)
  obtain ⟨a, t, b, m, ws, rfl, hp, hm, b0, b1, ht, hw, k⟩ := h
  refine ⟨_, (pss_cons (ps_set (i := 3) sc_law_time.nd rfl (Or.inl rfl) (pe_ix ix_list (pe_lst (pa_cons (pe_op op_mul pe_int (pe_ix ix_tup (pv 2) pe_int (fun _ _ => rfl))) (pa_cons (pe_op op_mul pe_int (pe_ix ix_tup (pv 2) pe_int (fun _ _ => rfl))) (pa_cons (pe_op op_mul pe_int (pe_ix ix_tup (pv 2) (pe_un un_neg pe_int) (fun _ _ => rfl))) (pa_cons pe_int pa_nil))))) (C8.pe_c (c_law_draw T) hr (by decide) rfl (pa_cons (pv 0) (pa_cons pe_int pa_nil))) (fun _ _ => rfl)))
      (pss_cons (ps_set (i := 4) sc_law_time.nd rfl (Or.inl rfl) (pe_op op_sub (pe_op op_add (pv 1) (C8.pe_c (c_law_draw T) hr (by decide) rfl (pa_cons (pv 0) (pa_cons (pv 3) pa_nil)))) (pe_op op_fdivW (pv 3) pe_int)))
      (pss_cons (ps_if (pt_cmpR op_eq (C8.pe_c (c_law_draw T) hr (by decide) rfl (pa_cons (pv 0) (pa_cons pe_int pa_nil))) pe_int (nomark _)) (pss_one (ps_ret (pe_op op_sub (pe_op op_mul (pe_op op_fdivW (pv 4) (pe_ix ix_tup (pv 2) (pe_un un_neg pe_int) (fun _ _ => rfl))) (pe_ix ix_tup (pv 2) (pe_un un_neg pe_int) (fun _ _ => rfl))) (C8.pe_c (c_law_draw T) hr (by decide) rfl (pa_cons (pv 0) (pa_cons pe_int pa_nil))))))
        pss_nil)
      (pss_one (ps_ret (pv 4)))))), ?_⟩
  obtain ⟨w0, wr, hws⟩ : ∃ x r, ws = x :: r := by
    cases ws with
    | nil => exact absurd rfl hw.ne
    | cons x r => exact ⟨x, r, rfl⟩
  obtain ⟨wn, hwn⟩ : ∃ x, ws.getLast? = some x := ⟨_, List.getLast?_eq_some_getLast hw.ne⟩
  have hw0 : 0 < w0 ∧ w0 ≤ 1000000000000 := hw.bd w0 (by rw [hws]; simp)
  have hwl : 0 < wn ∧ wn ≤ 1000000000000 := hw.bd wn (List.mem_of_getLast? hwn)
  have at0 : atI (ws.map V.int) 0 = some (.int w0) := atI_nat (j := 0) (by rw [hws]; rfl)
  have atn : atI (ws.map V.int) (-1) = some (.int wn) := atLast (by rw [List.getLast?_map, hwn]; rfl)
  refine ⟨_, rfl, t, _, 0, .int w0, rfl, rfl, ht.sq, at0, _, _, rfl, rfl, mll (by decide) (by decide), _, rfl, t, _, 0, .int w0, rfl, rfl, ht.sq, at0, _, _, rfl, rfl, mll (by decide) (by decide), _, rfl, _, rfl, t, _, -1, .int wn, rfl, rfl, ht.sq, atn, _, _, rfl, rfl, mll (by decide) (by decide), (by show 4 ≤ sizeLine; decide), fun q nq => ?_⟩
  have k1 := Kp.new (C := T.cF) (T := T.T) (M := []) (o := .lst [.int (4 * w0), .int (4 * w0), .int (3 * wn), .int 40]) nq
  have hp1 := hp.st k1 (by simp)
  refine ⟨_, rfl, a, 4, m, rfl, hp1, by omega, by decide, by decide, fun d H2 d0 d1 c2 hp2 => ?_⟩
  have hq2 : H2 q = some (.lst [.int (4 * w0), .int (4 * w0), .int (3 * wn), .int 40]) := by
    rw [c2 q (hp.ne nq)]
    exact upd_same
  have k2 := (k1.one).trans (hp1.kp (C := T.cF) (T := T.T) c2)
  obtain ⟨v, ev, mv⟩ := pick (xs := [V.int (4 * w0), .int (4 * w0), .int (3 * wn), .int 40]) d0 (by simpa using d1)
  obtain ⟨wi, rfl, h1, h2⟩ : ∃ wi, v = .int wi ∧ 0 < wi ∧ wi < 5000000000000 := by
    simp only [List.mem_cons, List.not_mem_nil, or_false] at mv
    rcases mv with rfl | rfl | rfl | rfl <;> exact ⟨_, rfl, by omega, by omega⟩
  refine ⟨q, _, d, _, rfl, rfl, SqL.of hq2, ev, ?_⟩
  refine ⟨_, rfl, _, rfl, _, rfl, a, wi, m + 3, rfl, hp2, by omega, h1, by omega, fun e H3 e0 e1 c3 hp3 => ?_⟩
  have k3 := k2.trans (hp2.kp (C := T.cF) (T := T.T) c3)
  refine ⟨_, _, rfl, rfl, _, rfl, _, _, rfl, rfl, dv (by decide) (by decide), _, _, rfl, rfl, ?_⟩
  refine ⟨_, rfl, a, 4, m + 3 + 3, rfl, hp3, by omega, by decide, by decide, fun g H4 g0 g1 c4 hp4 => ⟨rfl, _, rfl, ?_⟩⟩
  have k4 := k3.trans (hp3.kp (C := T.cF) (T := T.T) c4)
  refine ite2 (fun _ => ?_) (fun _ => ?_)
  · refine ⟨_, rfl, _, rfl, _, rfl, t, _, -1, .int wn, rfl, rfl, (ht.kp k4).sq, atn, _, _, rfl, rfl, dv hwl.1 (by omega), _, rfl, _, rfl, t, _, -1, .int wn, rfl, rfl, (ht.kp k4).sq, atn, _, _, rfl, rfl, mlr (j := wn) (by omega) (by omega), ?_⟩
    refine ⟨_, rfl, a, 2, m + 3 + 3 + 3, rfl, hp4, by omega, by decide, by decide, fun z H5 z0 z1 c5 hp5 => ⟨_, _, rfl, rfl, ?_⟩⟩
    have k5 := k4.trans (hp4.kp (C := T.cF) (T := T.T) c5)
    have q1 := cel_le (t := b + e - wi / 2) hwl.1
    have q2 := lt_cel (t := b + e - wi / 2) hwl.1
    unfold cel at q1 q2
    exact k H5 _ k5 (hp5.mono (by omega)) (by omega) (by omega)
  · exact ⟨_, rfl, k H4 _ k4 (hp4.mono (by omega)) (by omega) (by omega)⟩
end
end Tg
/-! TgM2 -/
set_option Elab.async false
set_option linter.all false
set_option maxRecDepth 100000
/-! plain mathematics: sorted ints, tables -/
namespace TgM
def Up (l : List Int) : Prop := l.Pairwise (· < ·)
theorem ints_ext : ∀ {xs ys : List Int}, Up xs → Up ys → (∀ p, p ∈ xs ↔ p ∈ ys) → xs = ys
  | [], [], _, _, _ => rfl
  | [], y :: ys, _, _, h => by have := (h y).mpr (by simp); simp at this
  | x :: xs, [], _, _, h => by have := (h x).mp (by simp); simp at this
  | x :: xs, y :: ys, h1, h2, h => by
    unfold Up at h1 h2
    rw [List.pairwise_cons] at h1 h2
    have e : x = y := by
      have a := (h x).mp (by simp)
      have b := (h y).mpr (by simp)
      rcases List.mem_cons.mp a with a | a
      · exact a
      · rcases List.mem_cons.mp b with b | b
        · exact b.symm
        · have := h1.1 y b
          have := h2.1 x a
          omega
    subst e
    have nx : ∀ p ∈ xs, p ≠ x := fun p hp z => by have := h1.1 p hp; rw [z] at this; omega
    have ny : ∀ p ∈ ys, p ≠ x := fun p hp z => by have := h2.1 p hp; rw [z] at this; omega
    have : xs = ys := ints_ext h1.2 h2.2 fun p => by
      constructor
      · intro hp
        rcases List.mem_cons.mp ((h p).mp (List.mem_cons_of_mem _ hp)) with z | z
        · exact absurd z (nx p hp)
        · exact z
      · intro hp
        rcases List.mem_cons.mp ((h p).mpr (List.mem_cons_of_mem _ hp)) with z | z
        · exact absurd z (ny p hp)
        · exact z
    rw [this]
theorem up_of {ys : List Int} (h : ys.Pairwise (· ≤ ·)) (nd : ys.Nodup) : Up ys := by
  have h2 : ys.Pairwise (fun a b => a ≤ b ∧ a ≠ b) := List.Pairwise.and h nd
  exact h2.imp fun ⟨a, b⟩ => by omega
theorem Up.nd {l : List Int} (h : Up l) : l.Nodup := h.imp fun a => by omega
theorem perm_up {ys ks : List Int} (h : ys.Perm ks) (hs : ys.Pairwise (· ≤ ·)) (hk : Up ks) : ys = ks := ints_ext (up_of hs (h.nodup_iff.mpr hk.nd)) hk fun p => h.mem_iff
theorem Srt.up {tb : List Pt} (h : Srt tb) : Up (tb.map (·.1)) := List.pairwise_map.mpr h
theorem Srt.of_up {tb : List Pt} (h : Up (tb.map (·.1))) : Srt tb := List.pairwise_map.mp h
/-- the table behind a deed: nw's times hold what nw says -/
structure After (tb : List Pt) (nw : List (Int × Option Int)) (af : List Pt) : Prop where
  srt : Srt af
  mem : ∀ t v, (t, v) ∈ af ↔ (t, some v) ∈ nw ∨ (t ∉ nw.map (·.1) ∧ (t, v) ∈ tb)
theorem After.uniq {tb : List Pt} {nw : List (Int × Option Int)} {a b : List Pt} (h : After tb nw a) (h' : After tb nw b) : a = b := srt_ext h.srt h'.srt fun p => (h.mem p.1 p.2).trans (h'.mem p.1 p.2).symm
theorem riseL_snoc {xs : List Pt} {p q : Pt} (h : xs.getLast? = some p) : riseL (xs ++ [q]) = riseL xs + stp p.2 q.2 := by
  have := riseL_append xs [q] p q h rfl
  simpa [riseL] using this
theorem heldL_snoc {xs : List Pt} {p q : Pt} (h : xs.getLast? = some p) : heldL (xs ++ [q]) = heldL xs + p.2 * (q.1 - p.1) := by
  have := heldL_append xs [q] p q h rfl
  simpa [heldL] using this
theorem take_last {α : Type} {l : List α} {i : Nat} {x : α} (h : l[i]? = some x) : (l.take (i + 1)).getLast? = some x := by
  rw [List.take_succ, h]
  simp
theorem take_snoc {α : Type} {l : List α} {i : Nat} {x : α} (h : l[i]? = some x) : l.take (i + 1) = l.take i ++ [x] := by
  rw [List.take_succ, h]
  rfl
theorem filter_snoc {α : Type} {p : α → Bool} {l : List α} {i : Nat} {x : α} (h : l[i]? = some x) : (l.take (i + 1)).filter p = (l.take i).filter p ++ (if p x = true then [x] else []) := by
  rw [take_snoc h, List.filter_append]
  cases e : p x <;> simp [e]
end TgM
/-! TgD8 -/
set_option Elab.async false
set_option linter.all false
set_option maxRecDepth 100000
set_option maxHeartbeats 4000000
/-! the law's own folds: points, fold, read, cell -/
namespace Tg
open PySem PySem.Spec PyProof.Rows L2 LamX NdefX TgM
/-- a table in the heap -/
def tbK (tb : List Pt) : List (Key × V) := tb.map fun p => (Sum.inl p.1, V.int p.2)
structure TabAt (H : Hp) (t : Addr) (tb : List Pt) : Prop where
  dc : H t = some (.dK (tbK tb))
  srt : Srt tb
  len : tb.length ≤ 10000
theorem tbK_keys (tb : List Pt) : (tbK tb).map (·.1) = (tb.map (·.1)).map Sum.inl := by
  unfold tbK
  rw [List.map_map, List.map_map]
  rfl
theorem valV_tbK {tb : List Pt} (h : Srt tb) {p : Pt} (hp : p ∈ tb) : valV (tbK tb) (Sum.inl p.1 : Key) = some (.int p.2) := by
  induction tb with
  | nil => simp at hp
  | cons q r ih =>
    unfold Srt at h
    rw [List.pairwise_cons] at h
    by_cases e : q.1 = p.1
    · have : q = p := by
        rcases List.mem_cons.mp hp with z | z
        · exact z.symm
        · have := h.1 p z
          omega
      subst this
      exact valV_pos rfl
    · rcases List.mem_cons.mp hp with z | z
      · exact absurd (by rw [z]) e
      · rw [show tbK (q :: r) = (Sum.inl q.1, V.int q.2) :: tbK r from rfl, valV_neg fun z => e (Sum.inl.inj z)]
        exact ih h.2 z
theorem TabAt.kp {C : Addr} {T : List (Addr × Str)} {M : List Addr} {H H' : Hp} {t : Addr} {tb : List Pt} (k : Kp C T M H H') (hm : t ∉ M) (h : TabAt H t tb) : TabAt H' t tb := ⟨k.at h.dc hm, h.srt, h.len⟩
section
variable {P : Program} {w : World} {K : PySem.W.Frag} {mg : Str → Option Value} {base : Heap}
def sp_points (T : Ev K mg base) : Sp := fun vs H Q _ => ∃ (t : Addr) (tb : List Pt) (s e : Int), vs = [.ref t, .int s, .int e] ∧ TabAt H t tb ∧ ∀ H' p l, Kp T.cF T.T [] H H' → PtsAt K H' p l → l.map (·.2) = pin tb s e → Q (.ref p) H'
theorem sc_law_points : FnScope ["_law_table", "_law_start", "_law_end", "_law_time_here"] ["_law_table", "_law_start", "_law_end"] (defScope s_law_points) := ⟨rfl, rfl, rfl, by decide +kernel, rfl, by decide +kernel, by decide +kernel⟩
theorem c_law_points (T : Ev K mg base) : C8.Cal P w K mg base 1 "_law_points" (sp_points T) [] := by
  refine calD T.d_law_points sc_law_points (fun _ _ _ _ _ _ us hl => match us, hl with | [_, _, _], _ => rfl) (fun vs H Q E h => by obtain ⟨_, _, _, _, rfl, _⟩ := h; rfl) (fun f cdv A outer s H vs Q E hr h => ?_)
  obtain ⟨t, tb, st, en, rfl, hT, k⟩ := h
  have hu := hu_of hr
  refine ⟨_, (pss_one (ps_ret (pe_lc (own := [("_law_time_here", 3)]) rfl sc_law_points.nd (pi_list (pe_callB (call_sortedDA rfl) (by rfl) T.b_sorted (by decide +kernel) (pa_cons (pv 0) pa_nil))) (blkOk_by (own := [("_law_time_here", 3)]) (N := ["_law_table", "_law_start", "_law_end", "_law_time_here"]) (sc := defScope s_law_points) (by decide +kernel)) (fun _ _ _ _ _ => (pg_name (i := 3) sc_law_points.nd rfl (Or.inl rfl))) (fun _ _ _ _ _ => (pts_one (pt_chain op_le op_lt (pv 1) (pv 3) (pv 2)))) (fun _ _ _ _ _ => (pe_tup (pa_cons (pv 3) (pa_cons (pe_dget hu (pv 0) (pv 3) (fun _ _ => rfl)) pa_nil))))))), ?_⟩
  refine ⟨_, rfl, t, _, tb.map (·.1), rfl, .inl hT.dc, tbK_keys tb, fun ys q hp hs nq => ?_⟩
  have ey := perm_up hp hs hT.srt.up
  subst ey
  refine ⟨q, rfl, ⟨_, SqL.of upd_same⟩, fun D nD => ?_⟩
  have s0 : Same H (upd H q (.lst ((tb.map (·.1)).map V.int))) := Same.new nq
  have hl0 : ((tb.map (·.1)).map V.int).length = tb.length := by rw [List.length_map, List.length_map]
  have htq : t ≠ q := ne_of_none hT.dc nq
  refine lc_it (walk_list (K := K) (a := q) (xs := (tb.map (·.1)).map V.int)) (LcP T.cF T.T (upd H q (.lst ((tb.map (·.1)).map V.int))) D fun i acc H' => ∃ l : List (Addr × Pt), acc = l.map (fun x => V.ref x.1) ∧ (∀ x ∈ l, H' x.1 = some (.tup [.int x.2.1, .int x.2.2])) ∧ l.map (·.2) = (tb.take i).filter fun p => decide (st ≤ p.1) && decide (p.1 < en))
    (lc0 nD ⟨[], rfl, fun x hx => by simp at hx, rfl⟩) (fun i H' _ ⟨acc, _, _, k2, _⟩ => k2.lst (SqL.of upd_same)) ?_ ?_
  · rintro i x H1 H2 hi ⟨acc, ha, hl, k2, l, rfl, hx, hlm⟩ ⟨rfl, ex⟩
    rw [hl0] at hi
    obtain ⟨p, hp⟩ : ∃ p, tb[i]? = some p := ⟨_, List.getElem?_eq_getElem hi⟩
    have ex : x = .int p.1 := by
      rw [List.map_map] at ex
      exact mapGet (f := V.int ∘ fun p : Pt => p.1) (z := p) ex hp
    subst ex
    have hpm : p ∈ tb := List.mem_of_getElem? hp
    have hi2 : i < sizeLine := Nat.lt_of_lt_of_le hi (Nat.le_trans hT.len (by decide))
    have htab : H2 t = some (.dK (tbK tb)) := k2.any (s0 _ _ hT.dc)
    have hf := filter_snoc (p := fun p : Pt => decide (st ≤ p.1) && decide (p.1 < en)) hp
    refine ⟨rfl, _, rfl, _, rfl, _, _, rfl, rfl, _, rfl, ?_⟩
    have g : DGet H2 t (.int p.1) (some (.int p.2)) := by
      have := DGet.k (k := Sum.inl p.1) htab
      rw [valV_tbK hT.srt hpm] at this
      exact this
    by_cases h1 : st ≤ p.1
    · rw [decide_eq_true h1]
      refine iteT ⟨_, rfl, _, _, rfl, rfl, _, rfl, ?_⟩
      by_cases h2 : p.1 < en
      · rw [decide_eq_true h2]
        refine iteT ⟨_, rfl, _, rfl, _, rfl, t, .int p.2, rfl, g, two_le, fun r nr => ?_⟩
        · refine lcYes hi2 nD k2 ha hl (Kp.new nr) ⟨l ++ [(r, p)], by simp, fun z hz => ?_, ?_⟩
          · have hrD : r ≠ D := fun z => by rw [z, ha] at nr; cases nr
            rcases List.mem_append.mp hz with hz | hz
            · have h0 := hx z hz
              rw [upd_ne fun e => ?_, upd_ne fun e => ?_]
              · exact h0
              · rw [e, nr] at h0; cases h0
              · rw [e, ha] at h0; cases h0
            · rw [List.mem_singleton.mp hz, upd_ne hrD, upd_same]
          · rw [List.map_append, hlm, hf]
            simp [h1, h2]
      · rw [decide_eq_false h2]
        refine iteF (lcNo k2 ha hl (Kp.refl _) ⟨l, rfl, hx, ?_⟩)
        rw [hlm, hf]
        simp [h2]
    · rw [decide_eq_false h1]
      refine iteF ⟨_, rfl, iteF (lcNo k2 ha hl (Kp.refl _) ⟨l, rfl, hx, ?_⟩)⟩
      rw [hlm, hf]
      simp [h1]
  · rintro H' ⟨acc, ha, hl, k2, l, rfl, hx, hlm⟩
    rw [hl0, List.take_length] at hlm
    exact k H' D l ((Kp.of s0).trans k2) ⟨SqL.of ha, hx⟩ hlm
end
end Tg
/-! TgD9 -/
set_option Elab.async false
set_option linter.all false
set_option maxRecDepth 100000
set_option maxHeartbeats 4000000
/-! the law's own folds: fold, read, cell -/
namespace Tg
open PySem PySem.Spec PyProof.Rows L2 LamX NdefX TgM
/-! ### data -/
def Sd (n : Nat) (d : PyData) : Prop := d.canLay0 = true ∧ d.depth ≤ n
theorem Sd.sh {n : Nat} {d : PyData} (h : Sd n d) (hn : n ≤ 64) : SeqAt.shaped d = true := by
  unfold SeqAt.shaped
  rw [h.1, decide_eq_true (Nat.le_trans h.2 hn)]
  rfl
theorem sdAll {n : Nat} : ∀ {ds : List PyData}, (∀ d ∈ ds, Sd n d) → PyData.canLayAll0 ds = true ∧ PyData.depthAll ds ≤ n
  | [], _ => ⟨rfl, Nat.zero_le _⟩
  | d :: ds, h => by
    have h1 := h d (by simp)
    have h2 := sdAll (ds := ds) fun e he => h e (by simp [he])
    refine ⟨?_, ?_⟩
    · show (d.canLay0 && PyData.canLayAll0 ds) = true
      rw [h1.1, h2.1]
      rfl
    · exact Nat.max_le.mpr ⟨h1.2, h2.2⟩
theorem sdL {n : Nat} {ds : List PyData} (h : ∀ d ∈ ds, Sd n d) : Sd (n + 1) (.list ds) := ⟨(sdAll h).1, Nat.succ_le_succ (sdAll h).2⟩
theorem sdT {n : Nat} {ds : List PyData} (h : ∀ d ∈ ds, Sd n d) : Sd (n + 1) (.tuple ds) := ⟨(sdAll h).1, Nat.succ_le_succ (sdAll h).2⟩
theorem sdI (i : Int) : Sd 0 (.int i) := ⟨rfl, Nat.le_refl _⟩
theorem sdN : Sd 0 .none := ⟨rfl, Nat.le_refl _⟩
theorem Sd.le {m n : Nat} {d : PyData} (h : Sd m d) (hn : m ≤ n) : Sd n d := ⟨h.1, Nat.le_trans h.2 hn⟩
def dPt (p : Pt) : PyData := .tuple [.int p.1, .int p.2]
theorem sd_dPt (p : Pt) : Sd 1 (dPt p) := sdT fun d hd => by
  simp at hd
  rcases hd with rfl | rfl
  · exact sdI _
  · exact sdI _
theorem dp_pts {K : PySem.W.Frag} {H : Hp} : ∀ {l : List (Addr × Pt)}, (∀ x ∈ l, H x.1 = some (.tup [.int x.2.1, .int x.2.2])) → DpAll K H (l.map fun x => V.ref x.1) (l.map fun x => dPt x.2)
  | [], _ => .nil
  | x :: l, h => .cons (dp_2 (h x (by simp)) (.int _) (.int _)) (dp_pts fun y hy => h y (by simp [hy]))
theorem PtsAt.dp {K : PySem.W.Frag} {H : Hp} {a : Addr} {l : List (Addr × Pt)} (h : PtsAt K H a l) : Dp K H (.ref a) (.list (l.map fun x => dPt x.2)) := .lst h.ls (dp_pts h.pt)
theorem sd_pts (l : List (Addr × Pt)) : Sd 2 (.list (l.map fun x => dPt x.2)) := sdL fun d hd => by
  obtain ⟨x, _, rfl⟩ := List.mem_map.mp hd
  exact sd_dPt _
theorem Kp.dpv {K : PySem.W.Frag} {C : Addr} {T : List (Addr × Str)} {H H' : Hp} (k : Kp C T [] H H') {v : V} {d : PyData} (h : Dp K H v d) : Dp K H' v d := dpSt (fun _ _ q => k.lst q) (fun _ _ q => k.tpl q) d v h
theorem yes_ {σ : L2.St} {H : Hp} {A B : Hp → Prop} (h : A H) : tYes σ H (fun b H3 => if b = true then A H3 else B H3) := by
  show if true = true then A H else B H
  exact iteT h
theorem cut_1 (xs : List V) : cutV xs (some 1) none = xs.drop 1 := by
  unfold cutV
  have e1 := HT.sIx_nat xs.length 0 1
  rw [show ((1 : Nat) : Int) = 1 from rfl] at e1
  rw [e1, HT.sIx_none]
  by_cases h : xs.length = 0
  · rw [List.length_eq_zero_iff.mp h]
    rfl
  · rw [Nat.min_eq_left (by omega)]
    exact List.take_of_length_le (by rw [List.length_drop]; omega)
theorem sd_dI (o : Option Int) : Sd 0 (dI o) := by
  cases o
  · exact sdN
  · exact sdI _
theorem sd_dP (o : Option Pt) : Sd 1 (dP o) := by
  cases o with
  | none => exact sdN.le (by decide)
  | some p => exact sd_dPt p
theorem sd_dFd (F : Fd) : Sd 2 (dFd F) := sdT fun d hd => by
  simp only [List.mem_cons, List.not_mem_nil, or_false] at hd
  rcases hd with rfl | rfl | rfl | rfl | rfl | rfl | rfl | rfl | rfl
  · exact (sdI _).le (by decide)
  · exact (sdI _).le (by decide)
  · exact (sdI _).le (by decide)
  · exact (sd_dI _).le (by decide)
  · exact (sd_dI _).le (by decide)
  · exact sd_dP _
  · exact sd_dP _
  · exact (sdI _).le (by decide)
  · exact (sdI _).le (by decide)
section
variable {P : Program} {w : World} {K : PySem.W.Frag} {mg : Str → Option Value} {base : Heap}
def sp_lfold (T : Ev K mg base) : Sp := fun vs H Q _ => ∃ (a : Addr) (l : List (Addr × Pt)), vs = [.ref a] ∧ PtsAt K H a l ∧ Bd (l.map (·.2)) ∧ l.length ≤ 100000 ∧ ∀ H' v, Kp T.cF T.T [] H H' → Dp K H' v (dFd (fo (l.map (·.2)))) → Q v H'
theorem sc_law_fold : FnScope ["_law_points_here", "_law_rise", "_law_held", "_law_time_here", "_law_worth_here", "_law_later", "_law_other", "_law_worths", "_law_squares"] ["_law_points_here"] (defScope s_law_fold) := ⟨rfl, rfl, rfl, by decide +kernel, rfl, by decide +kernel, by decide +kernel⟩
theorem c_law_fold (T : Ev K mg base) : C8.Cal P w K mg base 1 "_law_fold" (sp_lfold T) [] := by
  refine calD T.d_law_fold sc_law_fold (fun _ _ _ _ _ _ us hl => match us, hl with | [_], _ => rfl) (fun vs H Q E h => by obtain ⟨_, _, rfl, _⟩ := h; rfl) (fun f cdv A outer s H vs Q E hr h => ?_)
  obtain ⟨a, l, rfl, hP, hB, hlen, k⟩ := h
  refine ⟨_, (pss_cons (ps_if (pt_cmpR (op_eqD hr.units) (pv 0) (pe_lst pa_nil) (nomark _)) (pss_one (ps_ret (pe_tup (pa_cons pe_int (pa_cons pe_int (pa_cons pe_int (pa_cons pe_non (pa_cons pe_non (pa_cons pe_non (pa_cons pe_non (pa_cons pe_int (pa_cons pe_int pa_nil))))))))))))
        pss_nil)
      (pss_cons (ps_set (i := 1) sc_law_fold.nd rfl (Or.inl rfl) pe_int)
      (pss_cons (ps_set (i := 2) sc_law_fold.nd rfl (Or.inl rfl) pe_int)
      (pss_cons (ps_for PassesOwn.never rfl (pi_zip (by rfl) T.b_zip (pa_cons (pv 0) (pa_cons (pe_slice sl_list (pv 0) (po_some pe_int) po_none) pa_nil))) (pg_tup rfl (pgs_cons (pg_tup rfl (pgs_cons (pg_name (i := 3) sc_law_fold.nd rfl (Or.inl rfl)) (pgs_cons (pg_name (i := 4) sc_law_fold.nd rfl (Or.inl rfl)) pgs_nil))) (pgs_cons (pg_tup rfl (pgs_cons (pg_name (i := 5) sc_law_fold.nd rfl (Or.inl rfl)) (pgs_cons (pg_name (i := 6) sc_law_fold.nd rfl (Or.inl rfl)) pgs_nil))) pgs_nil)))
        (pss_cons (ps_set (i := 2) sc_law_fold.nd rfl (Or.inl rfl) (pe_op op_add (pv 2) (pe_op op_mul (pv 4) (pe_op op_sub (pv 5) (pv 3)))))
        (pss_one (ps_if (pt_cmpR op_ge (pv 6) (pv 4) (nomark _)) (pss_one (ps_set (i := 1) sc_law_fold.nd rfl (Or.inl rfl) (pe_op op_sub (pe_op op_add (pv 1) (pv 6)) (pv 4))))
          (pss_one (ps_set (i := 1) sc_law_fold.nd rfl (Or.inl rfl) (pe_op op_add (pv 1) (pe_callB (call_max2 rfl) (by rfl) T.b_max (by decide +kernel) (pa_cons (pv 6) (pa_cons pe_int pa_nil))))))))))
      (pss_cons (ps_setLc (i := 7) (own := [("_law_time_here", 3), ("_law_worth_here", 4)]) rfl sc_law_fold.nd rfl rfl (sw_true rfl rfl rfl (by decide +kernel)) (pi_list (pv 0)) (blkOk_by (own := [("_law_time_here", 3), ("_law_worth_here", 4)]) (N := ["_law_points_here", "_law_rise", "_law_held", "_law_time_here", "_law_worth_here", "_law_later", "_law_other", "_law_worths", "_law_squares"]) (sc := defScope s_law_fold) (by decide +kernel)) (fun _ _ _ _ _ => (pgT (K := K) (n := 2) rfl rfl (pgs_cons (pg_name (i := 3) sc_law_fold.nd rfl (Or.inl rfl)) (pgs_cons (pg_name (i := 4) sc_law_fold.nd rfl (Or.inl rfl)) pgs_nil)))) (fun _ _ _ _ _ => pts_nil) (fun _ _ _ _ _ => (pv 4)))
      (pss_cons (ps_set (i := 8) sc_law_fold.nd rfl (Or.inl rfl) (pe_callB (cr_sum rfl) (by rfl) T.b_sum (by decide +kernel) (pa_cons (pe_lc (own := [("_law_worth_here", 4)]) rfl sc_law_fold.nd (pi_list (pv 7)) (blkOk_by (own := [("_law_worth_here", 4)]) (N := ["_law_points_here", "_law_rise", "_law_held", "_law_time_here", "_law_worth_here", "_law_later", "_law_other", "_law_worths", "_law_squares"]) (sc := defScope s_law_fold) (by decide +kernel)) (fun _ _ _ _ _ => (pg_name (i := 4) sc_law_fold.nd rfl (Or.inl rfl))) (fun _ _ _ _ _ => pts_nil) (fun _ _ _ _ _ => (pe_op op_mul (pv 4) (pv 4)))) pa_nil)))
      (pss_one (ps_ret (pe_tup (pa_cons (pe_callB call_len_seq (by rfl) T.b_len (by decide +kernel) (pa_cons (pv 7) pa_nil)) (pa_cons (pe_callB (cr_sum rfl) (by rfl) T.b_sum (by decide +kernel) (pa_cons (pv 7) pa_nil)) (pa_cons (pv 8) (pa_cons (pe_callB (cr_min rfl) (by rfl) T.b_min (by decide +kernel) (pa_cons (pv 7) pa_nil)) (pa_cons (pe_callB (cr_max rfl) (by rfl) T.b_max (by decide +kernel) (pa_cons (pv 7) pa_nil)) (pa_cons (pe_ix ix_list (pv 0) pe_int (fun _ _ => rfl)) (pa_cons (pe_ix ix_list (pv 0) (pe_un un_neg pe_int) (fun _ _ => rfl)) (pa_cons (pv 1) (pa_cons (pv 2) pa_nil)))))))))))))))))), ?_⟩
  refine ⟨_, rfl, Nat.zero_le _, fun z nz => ?_⟩
  have k0 : Kp T.cF T.T [] H (upd H z (.lst [])) := Kp.new nz
  refine ⟨.list (l.map fun x : Addr × Pt => dPt x.2), .list [], k0.dpv hP.dp, .lst (SqL.of upd_same) .nil, (sd_pts l).sh (by decide), rfl, _, rfl, ?_⟩
  by_cases hne : l = []
  · subst hne
    refine iteT ⟨(by show 9 ≤ sizeLine; decide), fun p np => k _ _ (k0.trans (Kp.new np)) (.tup (SqT.of upd_same) ?_)⟩
    exact .cons (.int _) (.cons (.int _) (.cons (.int _) (.cons .non (.cons .non (.cons .non (.cons .non (.cons (.int _) (.cons (.int _) .nil))))))))
  · have ee : PyData.eqv (.list (l.map fun x => dPt x.2)) (.list []) = false := by
      cases l with
      | nil => exact absurd rfl hne
      | cons x r => simp [PyData.eqv, PyData.eqvAll]
    rw [ee]
    refine iteF ?_
    have hlpos : 0 < l.length := List.length_pos_iff.mpr hne
    obtain ⟨x0, hx0⟩ : ∃ x, l[0]? = some x := ⟨_, List.getElem?_eq_getElem hlpos⟩
    refine ⟨_, rfl, _, rfl, 1, rfl, a, _, rfl, k0.lst hP.ls, fun b nb => ?_⟩
    rw [cut_1]
    have k1 := k0.trans (Kp.new (o := .lst ((l.map fun x => V.ref x.1).drop 1)) nb)
    refine ⟨a, b, _, _, rfl, k1.lst hP.ls, SqL.of upd_same, ?_⟩
    have hn : l.length - 1 = min (l.map fun x => V.ref x.1).length ((l.map fun x => V.ref x.1).drop 1).length := by
      rw [List.length_drop, List.length_map]
      omega
    refine for_it (walk_zip (K := K) (a := a) (b := b) (xs := l.map fun x => V.ref x.1) (ys := (l.map fun x => V.ref x.1).drop 1) hn) (fun i σ H' => ∃ (o3 o4 o5 o6 : Option V), σ = [some (.ref a), some (.int (riseL ((l.map (·.2)).take (i + 1)))), some (.int (heldL ((l.map (·.2)).take (i + 1)))), o3, o4, o5, o6, none, none] ∧ Kp T.cF T.T [] H H' ∧ SqL K H' b ((l.map fun x => V.ref x.1).drop 1))
      ⟨none, none, none, none, ?_, k1, SqL.of upd_same⟩ (fun i σ H' _ ⟨_, _, _, _, _, k2, hb⟩ => ⟨k2.lst hP.ls, hb⟩) ?_ ?_
    · have e1 : (l.map (·.2)).take (0 + 1) = [x0.2] := by
        rw [take_snoc (x := x0.2) (by rw [List.getElem?_map, hx0]; rfl)]
        rfl
      rw [e1]
      rfl
    · rintro i v σ H1 H2 hi ⟨o3, o4, o5, o6, rfl, k2, hb⟩ ⟨p, u, u2, rfl, np, rfl, e1, e2⟩
      obtain ⟨⟨q, t, wo⟩, hq⟩ : ∃ x, l[i]? = some x := ⟨_, List.getElem?_eq_getElem (by omega)⟩
      obtain ⟨⟨q', t', wo'⟩, hq'⟩ : ∃ x, l[i + 1]? = some x := ⟨_, List.getElem?_eq_getElem (by omega)⟩
      have e1 : u = .ref q := mapGet (f := fun x : Addr × Pt => V.ref x.1) (z := (q, t, wo)) e1 hq
      have e2 : u2 = .ref q' := by
        have e3 : ((l.map fun x => V.ref x.1).drop 1)[i]? = some u2 := e2
        rw [List.getElem?_drop, Nat.add_comm] at e3
        exact mapGet (f := fun x : Addr × Pt => V.ref x.1) (z := (q', t', wo')) e3 hq'
      subst e1 e2
      have m1 : (q, t, wo) ∈ l := List.mem_of_getElem? hq
      have m2 : (q', t', wo') ∈ l := List.mem_of_getElem? hq'
      have k3 := k2.trans (Kp.new (o := .tup [.ref q, .ref q']) np)
      have h1 := k3.tup (hP.pt _ m1)
      have h2 := k3.tup (hP.pt _ m2)
      have b1 := hB (t, wo) (List.mem_map.mpr ⟨_, m1, rfl⟩)
      refine ⟨p, _, rfl, SqT.of upd_same, rfl, _, _, rfl, ⟨q, _, rfl, SqT.of h1, rfl, _, _, rfl, _, _, rfl, rfl, _, _, rfl, ⟨q', _, rfl, SqT.of h2, rfl, _, _, rfl, _, _, rfl, rfl, rfl, ?_⟩⟩⟩
      refine ⟨_, rfl, _, rfl, _, rfl, _, rfl, _, _, rfl, rfl, _, _, rfl, rfl, mll (i := wo) (by omega) (by omega), _, _, rfl, rfl, ?_⟩
      refine ⟨_, rfl, _, rfl, _, _, rfl, rfl, _, rfl, ?_⟩
      have gl : ((l.map (·.2)).take (i + 1)).getLast? = some (t, wo) := take_last (by rw [List.getElem?_map, hq]; rfl)
      have gs : (l.map (·.2)).take (i + 1 + 1) = (l.map (·.2)).take (i + 1) ++ [(t', wo')] := take_snoc (by rw [List.getElem?_map, hq']; rfl)
      have er : riseL ((l.map (·.2)).take (i + 1 + 1)) = riseL ((l.map (·.2)).take (i + 1)) + stp wo wo' := by rw [gs, riseL_snoc gl]
      have eh : heldL ((l.map (·.2)).take (i + 1 + 1)) = heldL ((l.map (·.2)).take (i + 1)) + wo * (t' - t) := by rw [gs, heldL_snoc gl]
      refine ite2 (fun e => ?_) (fun e => ?_)
      · have e : wo' ≥ wo := of_decide_eq_true e
        refine ⟨_, rfl, _, rfl, _, _, rfl, rfl, _, rfl, _, _, rfl, rfl, ?_⟩
        refine ⟨some (.int t), some (.int wo), some (.int t'), some (.int wo'), ?_, k3, (Kp.new (C := T.cF) (T := T.T) np).lst hb⟩
        rw [er, eh]
        unfold stp
        rw [if_pos e, show riseL ((l.map (·.2)).take (i + 1)) + (wo' - wo) = riseL ((l.map (·.2)).take (i + 1)) + wo' - wo by omega]
        rfl
      · have e : ¬ wo' ≥ wo := fun z => e (decide_eq_true z)
        refine ⟨_, rfl, _, rfl, _, _, rfl, _, _, rfl, rfl, ?_⟩
        refine ⟨some (.int t), some (.int wo), some (.int t'), some (.int wo'), ?_, k3, (Kp.new (C := T.cF) (T := T.T) np).lst hb⟩
        rw [er, eh]
        unfold stp
        rw [if_neg e]
        rfl
    · rintro σ H1 ⟨o3, o4, o5, o6, rfl, k2, hb⟩
      have hall : (l.map (·.2)).take (l.length - 1 + 1) = l.map (·.2) := List.take_of_length_le (by rw [List.length_map]; omega)
      rw [hall]
      refine ⟨_, rfl, a, rfl, ⟨_, k2.lst hP.ls⟩, fun D nD => ?_⟩
      have hxl : (l.map fun x => V.ref x.1).length = l.length := List.length_map _
      have hsz : ∀ i, i < l.length → i < sizeLine := fun i h => Nat.lt_of_lt_of_le h (Nat.le_trans hlen (by decide))
      refine lc_it (walk_list (K := K) (a := a) (xs := l.map fun x => V.ref x.1)) (LcP T.cF T.T H1 D fun i acc H' => acc = ((l.map (·.2)).take i).map fun p => V.int p.2) (lc0 nD rfl) (fun i H' _ ⟨acc, _, _, k3, _⟩ => k3.lst (k2.lst hP.ls)) ?_ ?_
      · rintro i x H2 H3 hi ⟨acc, ha, hl, k3, rfl⟩ ⟨rfl, ex⟩
        rw [hxl] at hi
        obtain ⟨⟨q, t, wo⟩, hq⟩ : ∃ x, l[i]? = some x := ⟨_, List.getElem?_eq_getElem hi⟩
        have ex : x = .ref q := mapGet (f := fun x : Addr × Pt => V.ref x.1) (z := (q, t, wo)) ex hq
        subst ex
        have hqt := k3.tup (k2.tup (hP.pt _ (List.mem_of_getElem? hq)))
        refine ⟨q, _, rfl, SqT.of hqt, rfl, _, _, rfl, _, _, rfl, rfl, rfl, yes_ ⟨_, rfl, lcYes (hsz i hi) nD k3 ha hl (Kp.refl _) ?_⟩⟩
        rw [take_snoc (x := (t, wo)) (by rw [List.getElem?_map, hq]; rfl), List.map_append]
        rfl
      · rintro H2 ⟨acc, ha, hl, k3, rfl⟩
        rw [hxl, List.take_of_length_le (by simp)] at ha
        have k4 := k2.trans k3
        have ew : ((l.map (·.2)).map fun p : Pt => V.int p.2) = ((l.map (·.2)).map (·.2)).map V.int := by rw [List.map_map, List.map_map, List.map_map]; rfl
        rw [ew] at ha
        refine ⟨_, rfl, D, rfl, ⟨_, SqL.of ha⟩, fun D2 nD2 => ?_⟩
        have hwl : (((l.map (·.2)).map (·.2)).map V.int).length = l.length := by rw [List.length_map, List.length_map, List.length_map]
        refine lc_it (walk_list (K := K) (a := D) (xs := ((l.map (·.2)).map (·.2)).map V.int)) (LcP T.cF T.T H2 D2 fun i acc H' => acc = ((((l.map (·.2)).map (·.2)).take i).map fun x => x * x).map V.int) (lc0 nD2 rfl) (fun i H' _ ⟨acc, _, _, k5, _⟩ => k5.lst (SqL.of ha)) ?_ ?_
        · rintro i x H3 H4 hi ⟨acc, ha3, hl3, k5, rfl⟩ ⟨rfl, ex⟩
          rw [hwl] at hi
          obtain ⟨wo, hwo⟩ : ∃ x, ((l.map (·.2)).map (·.2))[i]? = some x := ⟨_, List.getElem?_eq_getElem (by rw [List.length_map, List.length_map]; exact hi)⟩
          have ex : x = .int wo := mapGet ex hwo
          subst ex
          obtain ⟨p, hp, hpw⟩ := List.mem_map.mp (List.mem_of_getElem? hwo)
          have hb := hB p hp
          have hpw : p.2 = wo := hpw
          rw [hpw] at hb
          refine ⟨rfl, yes_ ⟨_, rfl, _, rfl, _, _, rfl, rfl, mll (i := wo) (by omega) (by omega), lcYes (hsz i hi) nD2 k5 ha3 hl3 (Kp.refl _) ?_⟩⟩
          rw [take_snoc hwo, List.map_append, List.map_append]
          rfl
        · rintro H3 ⟨acc, ha3, hl3, k5, rfl⟩
          rw [hwl, List.take_of_length_le (by simp)] at ha3
          refine ⟨D2, _, rfl, SqL.of ha3, ?_⟩
          have haD := k5.any ha
          have k6 := k4.trans k5
          refine ⟨_, rfl, D, _, rfl, .inl (SqL.of haD), _, rfl, D, _, rfl, SqL.of haD, _, rfl, _, rfl, D, _, rfl, SqL.of haD, by rw [List.length_map, List.length_map]; exact hlpos, fun mi hmi lmi => ?_⟩
          refine ⟨_, rfl, D, _, rfl, SqL.of haD, by rw [List.length_map, List.length_map]; exact hlpos, fun ma hma lma => ?_⟩
          obtain ⟨xn, hxn⟩ : ∃ x, l.getLast? = some x := ⟨_, List.getLast?_eq_some_getLast hne⟩
          have hP6 := hP.kp k6 (by simp)
          refine ⟨_, rfl, a, _, 0, .ref x0.1, rfl, rfl, hP6.ls, atI_nat (j := 0) (by rw [List.getElem?_map, hx0]; rfl), _, rfl, 1, rfl, a, _, -1, .ref xn.1, rfl, rfl, hP6.ls, atLast (by rw [List.getLast?_map, hxn]; rfl), _, rfl, _, rfl, (by show 9 ≤ sizeLine; decide), fun p np => ?_⟩
          have k7 := Kp.new (C := T.cF) (T := T.T) (M := []) (o := .tup [.int ((((l.map (·.2)).map (·.2)).map V.int).length : Nat), .int ((l.map (·.2)).map (·.2)).sum, .int (((l.map (·.2)).map (·.2)).map fun x => x * x).sum, .int mi, .int ma, .ref x0.1, .ref xn.1, .int (riseL (l.map (·.2))), .int (heldL (l.map (·.2)))]) np
          refine k _ _ (k6.trans k7) (.tup (SqT.of upd_same) ?_)
          have e1 : ((((l.map (·.2)).map (·.2)).map V.int).length : Int) = (fo (l.map (·.2))).count := by simp [fo]
          have e2 : ((l.map (·.2)).map (·.2)).sum = (fo (l.map (·.2))).total := by rw [sm_sum]; rfl
          have e3 : (((l.map (·.2)).map (·.2)).map fun x => x * x).sum = (fo (l.map (·.2))).squares := by
            rw [sm_sum]
            show sm _ = sm _
            rw [List.map_map]
            rfl
          have e4 : (fo (l.map (·.2))).least = some mi := loL_spec hmi fun y hy => lmi y hy
          have e5 : (fo (l.map (·.2))).greatest = some ma := hiL_spec hma fun y hy => lma y hy
          have e6 : (fo (l.map (·.2))).first = some x0.2 := by
            show (l.map (·.2)).head? = _
            rw [List.head?_eq_getElem?, List.getElem?_map, hx0]
            rfl
          have e7 : (fo (l.map (·.2))).last = some xn.2 := by
            show (l.map (·.2)).getLast? = _
            rw [List.getLast?_map, hxn]
            rfl
          rw [e1, e2, e3]
          have hp0 := (k6.trans k7).tup (hP.pt x0 (List.mem_of_getElem? hx0))
          have hpn := (k6.trans k7).tup (hP.pt xn (List.mem_of_getLast? hxn))
          rw [e1, e2, e3] at hp0 hpn
          refine .cons (.int _) (.cons (.int _) (.cons (.int _) (.cons ?_ (.cons ?_ (.cons ?_ (.cons ?_ (.cons (.int _) (.cons (.int _) .nil))))))))
          · rw [e4]; exact .int _
          · rw [e5]; exact .int _
          · rw [e6]; exact dp_2 hp0 (.int _) (.int _)
          · rw [e7]; exact dp_2 hpn (.int _) (.int _)
end
end Tg
/-! TgD10 -/
set_option Elab.async false
set_option linter.all false
set_option maxRecDepth 100000
set_option maxHeartbeats 4000000
/-! read, cell, changed, horizons, told -/
namespace Tg
open PySem PySem.Spec PyProof.Rows L2 LamX NdefX TgM
section
variable {P : Program} {w : World} {K : PySem.W.Frag} {mg : Str → Option Value} {base : Heap}
def sp_read (T : Ev K mg base) : Sp := fun vs H Q _ => ∃ (f : Addr) (F : Fd), vs = [.ref f] ∧ FoldAt T.cF H f F ∧ ∀ H' v, Kp T.cF T.T [] H H' → Dp K H' v (dFd F) → Q v H'
theorem sc_law_read : FnScope ["_law_fold_here", "_law_some"] ["_law_fold_here"] (defScope s_law_read) := ⟨rfl, rfl, rfl, by decide +kernel, rfl, by decide +kernel, by decide +kernel⟩
theorem c_law_read (T : Ev K mg base) : C8.Cal P w K mg base 1 "_law_read" (sp_read T) [] := by
  refine calD T.d_law_read sc_law_read (fun _ _ _ _ _ _ us hl => match us, hl with | [_], _ => rfl) (fun vs H Q E h => by obtain ⟨_, _, rfl, _⟩ := h; rfl) (fun f cdv A outer s H vs Q E hr h => ?_)
  obtain ⟨f, F, rfl, ⟨dx, v1, v2, hf, g1, g2⟩, k⟩ := h
  refine ⟨_, (pss_cons (ps_if (pt_not (pt_val (pe_callB (C8.call_isC T.isF) (by rfl) T.b_isinstance (by decide +kernel) (pa_cons (pv 0) (pa_cons (pe_glob (by rfl) T.gF (v := .ref T.cF) rfl) pa_nil))))) (pss_one (ps_ret pe_non))
        pss_nil)
      (pss_cons (ps_set (i := 1) sc_law_read.nd rfl (Or.inl rfl) (pe_tup (pa_cons (pe_fldC T.clF (T.naF _ (by decide)) (pv 0)) (pa_cons (pe_fldC T.clF (T.naF _ (by decide)) (pv 0)) (pa_cons (pe_fldC T.clF (T.naF _ (by decide)) (pv 0)) (pa_cons (pe_fldC T.clF (T.naF _ (by decide)) (pv 0)) (pa_cons (pe_fldC T.clF (T.naF _ (by decide)) (pv 0)) pa_nil)))))))
      (pss_one (ps_ret (pe_op op_catA (pv 1) (pe_tup (pa_cons (pe_fldC T.clF (T.naF _ (by decide)) (pv 0)) (pa_cons (pe_fldC T.clF (T.naF _ (by decide)) (pv 0)) (pa_cons (pe_fldC T.clF (T.naF _ (by decide)) (pv 0)) (pa_cons (pe_fldC T.clF (T.naF _ (by decide)) (pv 0)) pa_nil)))))))))), ?_⟩
  refine ⟨_, rfl, f, dx, _, rfl, hf, true, rfl, iteF ?_⟩
  refine ⟨_, rfl, f, dx, _, _, rfl, hf, lk_count _ _ _, _, rfl, f, dx, _, _, rfl, hf, lk_total _ _ _, _, rfl, f, dx, _, _, rfl, hf, lk_squares _ _ _, _, rfl, f, dx, _, _, rfl, hf, lk_least _ _ _, _, rfl, f, dx, _, _, rfl, hf, lk_greatest _ _ _, (by show 5 ≤ sizeLine; decide), fun p np => ?_⟩
  have s1 := Same.new (o := .tup [.int F.count, .int F.total, .int F.squares, oI F.least, oI F.greatest]) np
  have hf1 := s1 _ _ hf
  refine ⟨_, rfl, _, rfl, f, dx, _, _, rfl, hf1, lk_first _ _ _, _, rfl, f, dx, _, _, rfl, hf1, lk_last _ _ _, _, rfl, f, dx, _, _, rfl, hf1, lk_rise _ _ _, _, rfl, f, dx, _, _, rfl, hf1, lk_held _ _ _, (by show 4 ≤ sizeLine; decide), fun q nq => ?_⟩
  have s2 := Same.new (o := .tup [v1, v2, .int F.rise, .int F.held]) nq
  refine ⟨p, q, _, _, rfl, rfl, SqT.of (s2 _ _ upd_same), SqT.of upd_same, (by show 9 ≤ sizeLine; decide), (fun z => by cases z), (fun _ z => by cases z), fun _ _ r nr => ?_⟩
  have s3 := Same.new (o := .tup ([.int F.count, .int F.total, .int F.squares, oI F.least, oI F.greatest] ++ [v1, v2, .int F.rise, .int F.held])) nr
  have ss := (s1.trans s2).trans s3
  refine k _ _ (Kp.of ss) (.tup (SqT.of upd_same) ?_)
  exact .cons (.int _) (.cons (.int _) (.cons (.int _) (.cons (dp_oI _) (.cons (dp_oI _) (.cons (dp_pt (g1.sm ss)) (.cons (dp_pt (g2.sm ss)) (.cons (.int _) (.cons (.int _) .nil))))))))
def sp_cell (T : Ev K mg base) : Sp := fun vs H Q _ => ∃ (t : Addr) (tb : List Pt) (wd st : Int), vs = [.ref t, .int wd, .int st] ∧ TabAt H t tb ∧ Bd tb ∧ ∀ H' v, Kp T.cF T.T [] H H' → Dp K H' v (dFd (fo (pin tb st (st + wd)))) → Q v H'
theorem sc_law_cell : FnScope ["_law_table", "_law_width", "_law_start"] ["_law_table", "_law_width", "_law_start"] (defScope s_law_cell) := ⟨rfl, rfl, rfl, by decide +kernel, rfl, by decide +kernel, by decide +kernel⟩
theorem c_law_cell (T : Ev K mg base) : C8.Cal P w K mg base 2 "_law_cell" (sp_cell T) [] := by
  refine calD T.d_law_cell sc_law_cell (fun _ _ _ _ _ _ us hl => match us, hl with | [_, _, _], _ => rfl) (fun vs H Q E h => by obtain ⟨_, _, _, _, rfl, _⟩ := h; rfl) (fun f cdv A outer s H vs Q E hr h => ?_)
  obtain ⟨t, tb, wd, st, rfl, hT, hB, k⟩ := h
  refine ⟨_, (pss_one (ps_ret (C8.pe_c (c_law_fold T) hr (by decide) rfl (pa_cons (C8.pe_c (c_law_points T) hr (by decide) rfl (pa_cons (pv 0) (pa_cons (pv 2) (pa_cons (pe_op op_add (pv 2) (pv 1)) pa_nil)))) pa_nil)))), ?_⟩
  refine ⟨_, rfl, _, rfl, _, rfl, _, rfl, _, _, rfl, rfl, t, tb, st, st + wd, rfl, hT, fun H1 p l k1 hp hl => ?_⟩
  refine ⟨p, l, rfl, hp, ?_, ?_, fun H2 v k2 hv => k H2 v (k1.trans k2) (hl ▸ hv)⟩
  · rw [hl]
    exact fun z hz => hB z (mem_pin.mp hz).1
  · have e : l.length = (pin tb st (st + wd)).length := by rw [← hl, List.length_map]
    rw [e]
    exact Nat.le_trans (List.length_filter_le _ _) (Nat.le_trans hT.len (by decide))
/-! ### news -/
def nwK (nw : List (Int × Option Int)) : List (Key × V) := nw.map fun p => (Sum.inl p.1, oI p.2)
structure NewsAt (H : Hp) (n : Addr) (nw : List (Int × Option Int)) : Prop where
  dc : H n = some (.dK (nwK nw))
  nd : (nw.map (·.1)).Nodup
  len : nw.length ≤ 100
  bd : ∀ t v, (t, some v) ∈ nw → -1125899906842624 < v ∧ v < 1125899906842624
theorem NewsAt.kp {C : Addr} {T : List (Addr × Str)} {M : List Addr} {H H' : Hp} {n : Addr} {nw : List (Int × Option Int)} (k : Kp C T M H H') (hm : n ∉ M) (h : NewsAt H n nw) : NewsAt H' n nw := ⟨k.at h.dc hm, h.nd, h.len, h.bd⟩
theorem nwK_keys (nw : List (Int × Option Int)) : (nwK nw).map (·.1) = (nw.map (·.1)).map Sum.inl := by
  unfold nwK
  rw [List.map_map, List.map_map]
  rfl
theorem valV_nwK {nw : List (Int × Option Int)} (h : (nw.map (·.1)).Nodup) {p : Int × Option Int} (hp : p ∈ nw) : valV (nwK nw) (Sum.inl p.1 : Key) = some (oI p.2) := by
  induction nw with
  | nil => simp at hp
  | cons q r ih =>
    rw [List.map_cons, List.nodup_cons] at h
    by_cases e : q.1 = p.1
    · have : q = p := by
        rcases List.mem_cons.mp hp with z | z
        · exact z.symm
        · exact absurd (List.mem_map.mpr ⟨p, z, e.symm⟩) h.1
      subst this
      exact valV_pos rfl
    · rcases List.mem_cons.mp hp with z | z
      · exact absurd (by rw [z]) e
      · rw [show nwK (q :: r) = (Sum.inl q.1, oI q.2) :: nwK r from rfl, valV_neg fun z => e (Sum.inl.inj z)]
        exact ih h.2 z
/-- a dict whose keys are ints, as a function -/
def IntK (kvs : List (Key × V)) (ks : List Int) : Prop := kvs.map (·.1) = ks.map Sum.inl
theorem valV_none {kvs : List (Key × V)} {ks : List Int} (h : IntK kvs ks) {t : Int} (ht : t ∉ ks) : valV kvs (Sum.inl t : Key) = none := by
  cases e : valV kvs (Sum.inl t : Key) with
  | none => rfl
  | some v =>
    have := valV_in e
    rw [h] at this
    obtain ⟨x, hx, ex⟩ := List.mem_map.mp this
    have : x = t := Sum.inl.inj ex
    exact absurd (this ▸ hx) ht
theorem valV_some {kvs : List (Key × V)} {ks : List Int} (h : IntK kvs ks) {t : Int} (ht : t ∈ ks) : ∃ v, valV kvs (Sum.inl t : Key) = some v := by
  cases e : valV kvs (Sum.inl t : Key) with
  | some v => exact ⟨v, rfl⟩
  | none =>
    exfalso
    have q := valV_any (Sum.inl t : Key) kvs
    rw [e] at q
    have m : (Sum.inl t : Key) ∈ kvs.map (·.1) := by rw [h]; exact List.mem_map.mpr ⟨t, ht, rfl⟩
    obtain ⟨p, hp, ep⟩ := List.mem_map.mp m
    have : kvs.any (fun kv => decide (kv.1 = (Sum.inl t : Key))) = true := List.any_eq_true.mpr ⟨p, hp, by rw [ep]; simp⟩
    rw [this] at q
    cases q
theorem putK_has {kvs : List (Key × V)} {ks : List Int} (h : IntK kvs ks) {t : Int} (ht : t ∈ ks) (v : V) : IntK (putK kvs (Sum.inl t) v) ks := by
  obtain ⟨u, hu⟩ := valV_some h ht
  have q := valV_any (Sum.inl t : Key) kvs
  rw [hu] at q
  unfold putK
  rw [if_pos (show _ = true from q)]
  unfold IntK at h ⊢
  rw [← h, List.map_map]
  refine List.map_congr_left fun kv _ => ?_
  show (if kv.1 = Sum.inl t then (kv.1, v) else kv).1 = kv.1
  split <;> rfl
theorem putK_not {kvs : List (Key × V)} {ks : List Int} (h : IntK kvs ks) {t : Int} (ht : t ∉ ks) (v : V) : putK kvs (Sum.inl t) v = kvs ++ [(Sum.inl t, v)] := putK_new v (valV_none h ht)
theorem fm_keys {g : Int → Option Pt} (hg : ∀ z p, g z = some p → p.1 = z) : ∀ l : List Int, (l.filterMap g).map (·.1) = l.filter (fun z => (g z).isSome)
  | [] => rfl
  | z :: r => by
    cases e : g z with
    | none => rw [List.filterMap_cons_none e, List.filter_cons_of_neg (by simp [e]), fm_keys hg r]
    | some p => rw [List.filterMap_cons_some e, List.filter_cons_of_pos (by simp [e]), List.map_cons, fm_keys hg r, hg z p e]
def sp_changed (T : Ev K mg base) : Sp := fun vs H Q _ => ∃ (t n : Addr) (tb : List Pt) (nw : List (Int × Option Int)), vs = [.ref t, .ref n] ∧ TabAt H t tb ∧ NewsAt H n nw ∧ tb.length + nw.length ≤ 10000 ∧
  ∀ H' p af, Kp T.cF T.T [] H H' → (∀ b kvs, H b = some (.dK kvs) → b ≠ p) → TabAt H' p af → After tb nw af → af.length ≤ tb.length + nw.length → Q (.ref p) H'
theorem sc_law_changed : FnScope ["_law_table", "_law_news_here", "_law_told_here", "_law_time_here", "_law_kept"] ["_law_table", "_law_news_here"] (defScope s_law_changed) := ⟨rfl, rfl, rfl, by decide +kernel, rfl, by decide +kernel, by decide +kernel⟩
theorem c_law_changed (T : Ev K mg base) : C8.Cal P w K mg base 1 "_law_changed" (sp_changed T) [] := by
  refine calD T.d_law_changed sc_law_changed (fun _ _ _ _ _ _ us hl => match us, hl with | [_, _], _ => rfl) (fun vs H Q E h => by obtain ⟨_, _, _, _, rfl, _⟩ := h; rfl) (fun f cdv A outer s H vs Q E hr h => ?_)
  obtain ⟨t, n, tb, nw, rfl, hT, hN, hlen, k⟩ := h
  have hu := hu_of hr
  refine ⟨_, (pss_cons (ps_set (i := 2) sc_law_changed.nd rfl (Or.inl rfl) (pe_callTy call_dictD (by rfl) T.b_dict (by decide +kernel) (pa_cons (pv 0) pa_nil)))
      (pss_cons (ps_for PassesOwn.never rfl (pi_list (pe_callB (call_sortedDA rfl) (by rfl) T.b_sorted (by decide +kernel) (pa_cons (pv 1) pa_nil))) (pg_name (i := 3) sc_law_changed.nd rfl (Or.inl rfl))
        (pss_one (ps_dput hu (pv 2) (pv 3) (pe_dget hu (pv 1) (pv 3) (fun _ _ => rfl)) rfl)))
      (pss_cons (ps_set (i := 4) sc_law_changed.nd rfl (Or.inl rfl) pe_dnewK)
      (pss_cons (ps_for PassesOwn.never rfl (pi_list (pe_callB (call_sortedDA rfl) (by rfl) T.b_sorted (by decide +kernel) (pa_cons (pv 2) pa_nil))) (pg_name (i := 3) sc_law_changed.nd rfl (Or.inl rfl))
        (pss_one (ps_if (pt_cmpR op_notN (pe_dget hu (pv 2) (pv 3) (fun _ _ => rfl)) pe_non (nomark _)) (pss_one (ps_dput hu (pv 4) (pv 3) (pe_dget hu (pv 2) (pv 3) (fun _ _ => rfl)) rfl))
          pss_nil)))
      (pss_one (ps_ret (pv 4))))))), ?_⟩
  refine ⟨_, rfl, t, _, rfl, .inl hT.dc, fun a na => ?_⟩
  have k1 : Kp T.cF T.T [] H (upd H a (.dK (tbK tb))) := Kp.new na
  have hna : n ≠ a := ne_of_none hN.dc na
  refine ⟨_, rfl, n, _, nw.map (·.1), rfl, .inl (k1.any hN.dc), nwK_keys nw, fun ys q hp hs nq => ⟨q, rfl, ⟨_, SqL.of upd_same⟩, ?_⟩⟩
  have hyu : Up ys := up_of hs (hp.nodup_iff.mpr hN.nd)
  have hym : ∀ z, z ∈ ys ↔ z ∈ nw.map (·.1) := fun z => hp.mem_iff
  have hyl : ys.length = nw.length := by rw [hp.length_eq, List.length_map]
  have k2 : Kp T.cF T.T [] H (upd (upd H a (.dK (tbK tb))) q (.lst (ys.map V.int))) := k1.trans (Kp.new nq)
  have naq : a ≠ q := ne_of_none upd_same nq
  have hxl : (ys.map V.int).length = ys.length := List.length_map _
  -- what told holds
  let Sem : Nat → List (Key × V) → Prop := fun i kv => (∃ ks : List Int, IntK kv ks ∧ ks.Nodup ∧ ks.length ≤ tb.length + i) ∧
    ∀ (z : Int) (v : V), valV kv (Sum.inl z : Key) = some v ↔ (z ∈ ys.take i ∧ ∃ o, (z, o) ∈ nw ∧ v = oI o) ∨ (z ∉ ys.take i ∧ ∃ x, (z, x) ∈ tb ∧ v = .int x)
  refine for_it (walk_list (K := K) (a := q) (xs := ys.map V.int)) (fun i σ H' => ∃ (o3 : Option V) (kv : List (Key × V)), σ = [some (.ref t), some (.ref n), some (.ref a), o3, none] ∧ Kp T.cF T.T [] H H' ∧ SqL K H' q (ys.map V.int) ∧ H' a = some (.dK kv) ∧ Sem i kv)
    ⟨none, tbK tb, rfl, k2, SqL.of upd_same, by rw [upd_ne naq]; exact upd_same, ⟨⟨tb.map (fun p : Pt => p.1), tbK_keys tb, hT.srt.up.nd, by rw [List.length_map]; omega⟩, fun z v => ?_⟩⟩ (fun i σ H' _ ⟨_, _, _, _, h, _⟩ => h) ?_ ?_
  · rw [List.take_zero]
    constructor
    · intro e
      have hz : z ∈ tb.map (·.1) := by
        have := valV_in e
        rw [tbK_keys] at this
        obtain ⟨x, hx, ex⟩ := List.mem_map.mp this
        exact (Sum.inl.inj ex) ▸ hx
      obtain ⟨p, hp, rfl⟩ := List.mem_map.mp hz
      rw [valV_tbK hT.srt hp] at e
      exact .inr ⟨by simp, p.2, hp, (Option.some.inj e).symm⟩
    · rintro (⟨h, _⟩ | ⟨_, x, hx, rfl⟩)
      · simp at h
      · exact valV_tbK hT.srt hx
  · rintro i x σ H1 H2 hi ⟨o3, kv, rfl, k3, hq, ha, ⟨ks, hk1, hk2, hk3⟩, hsem⟩ ⟨rfl, ex⟩
    rw [hxl] at hi
    obtain ⟨z, hz⟩ : ∃ z, ys[i]? = some z := ⟨_, List.getElem?_eq_getElem hi⟩
    have ex : x = .int z := mapGet ex hz
    subst ex
    obtain ⟨⟨z', o⟩, hzo, ez⟩ := List.mem_map.mp ((hym z).mp (List.mem_of_getElem? hz))
    have ez : z' = z := ez
    subst ez
    have hn1 : H2 n = some (.dK (nwK nw)) := k3.any hN.dc
    have g1 : DGet H2 n (.int z') (some (oI o)) := by
      have := DGet.k (k := Sum.inl z') hn1
      rw [valV_nwK hN.nd hzo] at this
      exact this
    have nan : n ≠ a := hna
    have hkl : kv.length = ks.length := by
      have := congrArg List.length hk1
      rw [List.length_map, List.length_map] at this
      exact this
    refine ⟨_, rfl, _, rfl, n, oI o, rfl, g1, _, rfl, _, rfl, a, _, rfl, DPut.k (k := Sum.inl z') ha (Nat.lt_of_le_of_lt (by rw [hkl]; exact hk3) (Nat.lt_of_lt_of_le (by omega : tb.length + i < 10001) (by decide))), ?_⟩
    refine ⟨some (.int z'), putK kv (Sum.inl z') (oI o), rfl, Kp.setNew (H := H) na k3 ha trivial, ?_, upd_same, ?_, fun y v => ?_⟩
    · rcases hq with h | h
      · refine .inl (h.elim (fun e => .inl ?_) fun ⟨ob, e⟩ => .inr ⟨ob, ?_⟩)
        · rw [upd_ne naq.symm]; exact e
        · rw [upd_ne naq.symm]; exact e
      · exact .inr h
    · by_cases hzk : z' ∈ ks
      · exact ⟨ks, putK_has hk1 hzk _, hk2, by omega⟩
      · refine ⟨ks ++ [z'], ?_, ?_, by rw [List.length_append, List.length_singleton]; omega⟩
        · rw [putK_not hk1 hzk]
          unfold IntK at hk1 ⊢
          rw [List.map_append, hk1, List.map_append]
          rfl
        · rw [List.nodup_append]
          exact ⟨hk2, by simp, fun x hx y hy e => hzk (by rw [List.mem_singleton.mp hy] at e; exact e ▸ hx)⟩
    · rw [valV_put, take_snoc hz, List.mem_append, List.mem_singleton]
      by_cases e : y = z'
      · subst e
        rw [if_pos rfl]
        constructor
        · intro h
          exact .inl ⟨.inr rfl, o, hzo, (Option.some.inj h).symm⟩
        · rintro (⟨_, o', ho', rfl⟩ | ⟨h, _⟩)
          · have : (y, o') = (y, o) := by
              have h1 := valV_nwK hN.nd ho'
              have h2 := valV_nwK hN.nd hzo
              have h3 : oI o' = oI o := Option.some.inj (h1.symm.trans h2)
              cases o <;> cases o' <;> simp [oI] at h3 <;> simp [h3]
            rw [(Prod.mk.inj this).2]
          · exact absurd (.inr rfl) h
      · rw [if_neg fun h => e (Sum.inl.inj h), hsem y v]
        simp [e]
  · rintro σ H1 ⟨o3, kv, rfl, k3, hq, ha, ⟨ks, hk1, hk2, hk3⟩, hsem⟩
    rw [hxl] at hsem hk3
    rw [List.take_length] at hsem
    intro d nd
    have k4 : Kp T.cF T.T [] H1 (upd H1 d (.dK [])) := Kp.new nd
    have nad : a ≠ d := ne_of_none ha nd
    have ha4 : (upd H1 d (.dK [])) a = some (.dK kv) := by rw [upd_ne nad]; exact ha
    refine ⟨_, rfl, a, kv, ks, rfl, .inl ha4, hk1, fun y2 r hp2 hs2 nr => ⟨r, rfl, ⟨_, SqL.of upd_same⟩, ?_⟩⟩
    have hu2 : Up y2 := up_of hs2 (hp2.nodup_iff.mpr hk2)
    have hm2 : ∀ z, z ∈ y2 ↔ z ∈ ks := fun z => hp2.mem_iff
    have nar : a ≠ r := ne_of_none ha4 nr
    have ndr : d ≠ r := ne_of_none upd_same nr
    have k5 := k4.trans (Kp.new (o := .lst (y2.map V.int)) nr)
    let g : Int → Option Pt := fun z => match valV kv (Sum.inl z : Key) with
      | some (.int v) => some (z, v)
      | _ => none
    have hx2 : (y2.map V.int).length = y2.length := List.length_map _
    have hl2 : y2.length ≤ 10000 := by rw [hp2.length_eq]; omega
    refine for_it (walk_list (K := K) (a := r) (xs := y2.map V.int)) (fun i σ H' => ∃ (o3 : Option V), σ = [some (.ref t), some (.ref n), some (.ref a), o3, some (.ref d)] ∧ Kp T.cF T.T [] H1 H' ∧ SqL K H' r (y2.map V.int) ∧ H' a = some (.dK kv) ∧ H' d = some (.dK (tbK ((y2.take i).filterMap g))))
      ⟨o3, rfl, k5, SqL.of upd_same, by rw [upd_ne nar]; exact ha4, by rw [upd_ne ndr]; exact upd_same⟩ (fun i σ H' _ ⟨_, _, _, h, _⟩ => h) ?_ ?_
    · rintro i x σ H2 H3 hi ⟨o3, rfl, k6, hr2, ha2, hd2⟩ ⟨rfl, ex⟩
      rw [hx2] at hi
      obtain ⟨z, hz⟩ : ∃ z, y2[i]? = some z := ⟨_, List.getElem?_eq_getElem hi⟩
      have ex : x = .int z := mapGet ex hz
      subst ex
      obtain ⟨v, hv⟩ := valV_some hk1 ((hm2 z).mp (List.mem_of_getElem? hz))
      have g1 : DGet H3 a (.int z) (some v) := by
        have := DGet.k (k := Sum.inl z) ha2
        rw [hv] at this
        exact this
      have hvo : ∃ o, v = oI o := by
        rcases (hsem z v).mp hv with ⟨_, o, _, e⟩ | ⟨_, y, _, e⟩
        · exact ⟨o, e⟩
        · exact ⟨some y, e⟩
      obtain ⟨o, rfl⟩ := hvo
      refine ⟨_, rfl, _, rfl, a, _, rfl, g1, rfl, _, rfl, ?_⟩
      have hts := take_snoc hz
      cases o with
      | none =>
        refine iteF ⟨_, rfl, k6, hr2, ha2, ?_⟩
        rw [hts, List.filterMap_append]
        have : ([z] : List Int).filterMap g = [] := by
          have : g z = none := by
            show (match valV kv (Sum.inl z : Key) with | some (.int v) => some (z, v) | _ => none) = _
            rw [hv]
            rfl
          simp [this]
        rw [this, List.append_nil]
        exact hd2
      | some v =>
        have hgz : g z = some (z, v) := by
          show (match valV kv (Sum.inl z : Key) with | some (.int v) => some (z, v) | _ => none) = _
          rw [hv]
          rfl
        have hnot : z ∉ ((y2.take i).filterMap g).map (·.1) := by
          intro h
          obtain ⟨p, hp, ep⟩ := List.mem_map.mp h
          obtain ⟨z2, hz2, ez2⟩ := List.mem_filterMap.mp hp
          have : z2 = p.1 := by
            have e : (match valV kv (Sum.inl z2 : Key) with | some (.int v) => some (z2, v) | _ => none) = some p := ez2
            split at e
            · exact (congrArg Prod.fst (Option.some.inj e))
            · cases e
          have : z2 = z := this.trans ep
          subst this
          obtain ⟨j, hj⟩ := List.mem_iff_getElem?.mp hz2
          have hji : j < i := by
            have := (List.getElem?_eq_some_iff.mp hj).1
            rw [List.length_take] at this
            omega
          rw [List.getElem?_take_of_lt hji] at hj
          obtain ⟨b1, e1⟩ := List.getElem?_eq_some_iff.mp hj
          obtain ⟨b2, e2⟩ := List.getElem?_eq_some_iff.mp hz
          have := List.pairwise_iff_getElem.mp hu2 j i b1 b2 hji
          rw [e1, e2] at this
          omega
        have hfl : ((y2.take i).filterMap g).length ≤ i := Nat.le_trans (List.length_filterMap_le _ _) (by rw [List.length_take]; exact Nat.min_le_left _ _)
        refine iteT ⟨_, rfl, _, rfl, a, _, rfl, g1, _, rfl, _, rfl, d, _, rfl, DPut.k (k := Sum.inl z) hd2 ?_, ?_⟩
        · unfold tbK
          rw [List.length_map]
          exact Nat.lt_of_le_of_lt hfl (Nat.lt_of_lt_of_le (by omega : i < 10000) (by decide))
        · have hdr : r ≠ d := ndr.symm
          refine ⟨_, rfl, Kp.setNew (H := H) nd k6 hd2 trivial, ?_, ?_, ?_⟩
          · rcases hr2 with h | h
            · refine .inl (h.elim (fun e => .inl ?_) fun ⟨ob, e⟩ => .inr ⟨ob, ?_⟩)
              · rw [upd_ne hdr]; exact e
              · rw [upd_ne hdr]; exact e
            · exact .inr h
          · rw [upd_ne nad]
            exact ha2
          · rw [upd_same, hts, List.filterMap_append]
            have e1 : ([z] : List Int).filterMap g = [(z, v)] := by simp [hgz]
            have e2 : IntK (tbK ((y2.take i).filterMap g)) (((y2.take i).filterMap g).map (·.1)) := tbK_keys _
            rw [e1, putK_not e2 hnot]
            unfold tbK
            rw [List.map_append]
            rfl
    · rintro σ H2 ⟨o3, rfl, k6, hr2, ha2, hd2⟩
      rw [hx2, List.take_length] at hd2
      have hg : ∀ z p, g z = some p ↔ p.1 = z ∧ valV kv (Sum.inl z : Key) = some (.int p.2) := fun z p => by
        show (match valV kv (Sum.inl z : Key) with | some (.int v) => some (z, v) | _ => none) = some p ↔ _
        constructor
        · intro e
          split at e
          · rename_i v hv
            cases e
            exact ⟨rfl, hv⟩
          · cases e
        · rintro ⟨rfl, hv⟩
          rw [hv]
      have hsrt : Srt (y2.filterMap g) := by
        refine Srt.of_up (hu2.sublist ?_)
        have := fm_keys (g := g) (fun z p e => ((hg z p).mp e).1) y2
        rw [this]
        exact List.filter_sublist
      have hle : (y2.filterMap g).length ≤ tb.length + nw.length := Nat.le_trans (List.length_filterMap_le _ _) (by rw [hp2.length_eq]; omega)
      refine ⟨_, rfl, k H2 d _ (k3.trans k6) ?_ ⟨hd2, hsrt, by omega⟩ ⟨hsrt, fun z v => ?_⟩ hle⟩
      · exact fun b kvs e => ne_of_none (k3.any e) nd
      · rw [List.mem_filterMap]
        constructor
        · rintro ⟨z', hz', e⟩
          obtain ⟨e1, e2⟩ := (hg z' (z, v)).mp e
          have e1 : z = z' := e1
          subst e1
          rcases (hsem z _).mp e2 with ⟨h1, o, ho, eo⟩ | ⟨h1, x, hx, ex⟩
          · cases o with
            | none => cases eo
            | some o =>
              cases eo
              exact .inl ho
          · cases ex
            exact .inr ⟨fun h => h1 ((hym z).mpr h), hx⟩
        · intro h
          have e : valV kv (Sum.inl z : Key) = some (.int v) := by
            refine (hsem z _).mpr ?_
            rcases h with h | ⟨h1, h2⟩
            · exact .inl ⟨(hym z).mpr (List.mem_map.mpr ⟨_, h, rfl⟩), some v, h, rfl⟩
            · exact .inr ⟨fun h => h1 ((hym z).mp h), v, h2, rfl⟩
          refine ⟨z, (hm2 z).mpr ?_, (hg z (z, v)).mpr ⟨rfl, e⟩⟩
          have := valV_in e
          rw [hk1] at this
          obtain ⟨x, hx, ex⟩ := List.mem_map.mp this
          exact (Sum.inl.inj ex) ▸ hx
end
end Tg
/-! TgM3 -/
set_option Elab.async false
set_option linter.all false
set_option maxRecDepth 100000
/-! plain mathematics: keeps, horizons -/
namespace TgM
def mxI (a b : Int) : Int := if b > a then b else a
theorem mxI_comm (a b : Int) : mxI a b = mxI b a := by
  unfold mxI
  split <;> split <;> omega
theorem le_mxI_l (a b : Int) : a ≤ mxI a b := by unfold mxI; split <;> omega
theorem le_mxI_r (a b : Int) : b ≤ mxI a b := by unfold mxI; split <;> omega
/-- the unit of a grade -/
def unitOf (ws : List Int) (g : Nat) : Int := ws.getD (min g (ws.length - 1)) 1
def newH1 (ws : List Int) (g : Nat) (k old : Option Int) (now : Int) : Option Int := match k with
  | none => old
  | some k => some (match old with
    | none => (now - k) / unitOf ws g * unitOf ws g
    | some o => mxI o ((now - k) / unitOf ws g * unitOf ws g))
def newHs (ws : List Int) (ks hs : List (Option Int)) (now : Int) : List (Option Int) := (List.range ks.length).map fun g => newH1 ws g (ks.getD g none) (hs.getD g none) now
/-- the keeps: numbers that do not fall, then None -/
structure KsOk (n : Nat) (ks : List (Option Int)) : Prop where
  ex : ∃ (l : List Int) (m : Nat), ks = l.map some ++ List.replicate m none ∧ l.Pairwise (· ≤ ·) ∧ ∀ x ∈ l, 0 ≤ x
  len : ks.length = n + 1
theorem KsOk.mono {n : Nat} {ks : List (Option Int)} (h : KsOk n ks) {g g' : Nat} {k k' : Int} (hg : g < g') (e : ks[g]? = some (some k)) (e' : ks[g']? = some (some k')) : k ≤ k' := by
  obtain ⟨l, m, rfl, hp, _⟩ := h.ex
  have low : ∀ {i : Nat} {x : Int}, (l.map some ++ List.replicate m none)[i]? = some (some x) → l[i]? = some x := fun {i x} q => by
    by_cases hi : i < l.length
    · rw [List.getElem?_append_left (by simpa using hi), List.getElem?_map] at q
      cases z : l[i]? with
      | none => rw [z] at q; cases q
      | some y => rw [z] at q; simp at q; rw [q]
    · rw [List.getElem?_append_right (by simpa using Nat.le_of_not_lt hi), List.getElem?_replicate] at q
      split at q <;> simp at q
  obtain ⟨b1, e1⟩ := List.getElem?_eq_some_iff.mp (low e)
  obtain ⟨b2, e2⟩ := List.getElem?_eq_some_iff.mp (low e')
  have := List.pairwise_iff_getElem.mp hp g g' b1 b2 hg
  rw [e1, e2] at this
  exact this
theorem KsOk.none_suf {n : Nat} {ks : List (Option Int)} (h : KsOk n ks) {g g' : Nat} (hg : g ≤ g') (e : ks[g]? = some none) (hl : g' < ks.length) : ks[g']? = some none := by
  obtain ⟨l, m, rfl, _, _⟩ := h.ex
  by_cases hi : g < l.length
  · rw [List.getElem?_append_left (by simpa using hi), List.getElem?_map] at e
    cases z : l[g]? with
    | none => rw [z] at e; cases e
    | some y => rw [z] at e; simp at e
  · have hi' : ¬ g' < l.length := by omega
    rw [List.getElem?_append_right (by simpa using Nat.le_of_not_lt hi'), List.getElem?_replicate]
    rw [List.length_append, List.length_map, List.length_replicate] at hl
    rw [if_pos (by simp; omega)]
theorem KsOk.nn {n : Nat} {ks : List (Option Int)} (h : KsOk n ks) {g : Nat} {k : Int} (e : ks[g]? = some (some k)) : 0 ≤ k := by
  obtain ⟨l, m, rfl, _, hn⟩ := h.ex
  have := List.mem_of_getElem? e
  rcases List.mem_append.mp this with z | z
  · obtain ⟨x, hx, ex⟩ := List.mem_map.mp z
    rw [← Option.some.inj ex]
    exact hn x hx
  · have := List.eq_of_mem_replicate z
    cases this
end TgM
/-! TgD11 -/
set_option Elab.async false
set_option linter.all false
set_option maxRecDepth 100000
set_option maxHeartbeats 4000000
/-! the law's horizons and keeps -/
namespace Tg
open PySem PySem.Spec PyProof.Rows L2 LamX NdefX TgM
theorem oI_non {o : Option Int} : decide (oI o = V.non) = decide (o = none) := by cases o <;> simp [oI]
theorem unit_at {ws : List Int} (hw : WsOk ws) (g : Nat) : ∃ u, ws[min g (ws.length - 1)]? = some u ∧ unitOf ws g = u ∧ 0 < u ∧ u ≤ 1000000000000 := by
  have hl : 0 < ws.length := List.length_pos_iff.mpr hw.ne
  have hi : min g (ws.length - 1) < ws.length := by omega
  have hm := hw.bd _ (List.getElem_mem hi)
  refine ⟨_, List.getElem?_eq_getElem hi, ?_, hm⟩
  unfold unitOf
  rw [List.getD_eq_getElem?_getD, List.getElem?_eq_getElem hi]
  rfl
section
variable {P : Program} {w : World} {K : PySem.W.Frag} {mg : Str → Option Value} {base : Heap}
def sp_horizons (T : Ev K mg base) : Sp := fun vs H Q _ => ∃ (wt kt ht : Addr) (now : Int) (ws : List Int) (ks hs : List (Option Int)), vs = [.ref wt, .ref kt, .ref ht, .int now] ∧ WT H wt (ws.map V.int) ∧ H kt = some (.tup (ks.map oI)) ∧ H ht = some (.tup (hs.map oI)) ∧
  WsOk ws ∧ hs.length = ks.length ∧ ks.length ≤ 5 ∧ ∀ H' p, Kp T.cF T.T [] H H' → H' p = some (.tup ((newHs ws ks hs now).map oI)) → Q (.ref p) H'
theorem sc_law_horizons : FnScope ["_law_widths_here", "_law_keeps_here", "_law_old", "_law_now", "_law_found", "_law_grade", "_law_keep", "_law_new", "_law_unit"] ["_law_widths_here", "_law_keeps_here", "_law_old", "_law_now"] (defScope s_law_horizons) := ⟨rfl, rfl, rfl, by decide +kernel, rfl, by decide +kernel, by decide +kernel⟩
theorem c_law_horizons (T : Ev K mg base) : C8.Cal P w K mg base 1 "_law_horizons" (sp_horizons T) [] := by
  refine calD T.d_law_horizons sc_law_horizons (fun _ _ _ _ _ _ us hl => match us, hl with | [_, _, _, _], _ => rfl) (fun vs H Q E h => by obtain ⟨_, _, _, _, _, _, _, rfl, _⟩ := h; rfl) (fun f cdv A outer s H vs Q E hr h => ?_)
  obtain ⟨wt, kt, ht, now, ws, ks, hs, rfl, hw, hk, hh, wok, hlen, h5, k⟩ := h
  refine ⟨_, (pss_cons (ps_set (i := 4) sc_law_horizons.nd rfl (Or.inl rfl) (pe_lst pa_nil))
      (pss_cons (ps_for PassesOwn.never rfl (TgI.pi_enumT (by rfl) T.b_enumerate (pa_cons (pv 1) pa_nil)) (pg_tup rfl (pgs_cons (pg_name (i := 5) sc_law_horizons.nd rfl (Or.inl rfl)) (pgs_cons (pg_name (i := 6) sc_law_horizons.nd rfl (Or.inl rfl)) pgs_nil)))
        (pss_cons (ps_set (i := 7) sc_law_horizons.nd rfl (Or.inl rfl) (pe_ix ix_tup (pv 2) (pv 5) (fun _ _ => rfl)))
        (pss_cons (ps_if (pt_cmpR op_notN (pv 6) pe_non (nomark _)) (pss_cons (ps_set (i := 8) sc_law_horizons.nd rfl (Or.inl rfl) (pe_ix ix_tup (pv 0) (pe_callB (call_min2 rfl) (by rfl) T.b_min (by decide +kernel) (pa_cons (pv 5) (pa_cons (pe_op op_sub (pe_callB call_len_seq (by rfl) T.b_len (by decide +kernel) (pa_cons (pv 0) pa_nil)) pe_int) pa_nil))) (fun _ _ => rfl)))
          (pss_cons (ps_set (i := 7) sc_law_horizons.nd rfl (Or.inl rfl) (pe_op op_mul (pe_op op_fdivW (pe_op op_sub (pv 3) (pv 6)) (pv 8)) (pv 8)))
          (pss_one (ps_if (pt_cmpR op_notN (pe_ix ix_tup (pv 2) (pv 5) (fun _ _ => rfl)) pe_non (nomark _)) (pss_one (ps_set (i := 7) sc_law_horizons.nd rfl (Or.inl rfl) (pe_callB (call_max2 rfl) (by rfl) T.b_max (by decide +kernel) (pa_cons (pv 7) (pa_cons (pe_ix ix_tup (pv 2) (pv 5) (fun _ _ => rfl)) pa_nil)))))
            pss_nil))))
          pss_nil)
        (pss_one (ps_expr (pe_bm PySem.F.plainAttrs_list PySem.F.slot_list_append PySem.F.type_list_append mt_append (pv 4) (pa_cons (pv 7) pa_nil)))))))
      (pss_one (ps_ret (pe_callTy call_tuple_of (by rfl) T.b_tuple (by decide +kernel) (pa_cons (pv 4) pa_nil)))))), ?_⟩
  refine ⟨Nat.zero_le _, fun d nd => ?_⟩
  have k1 : Kp T.cF T.T [] H (upd H d (.lst [])) := Kp.new nd
  refine ⟨_, rfl, kt, _, rfl, SqT.of (k1.tup hk), ?_⟩
  have hxl : (ks.map oI).length = ks.length := List.length_map _
  let f := fun g => newH1 ws g (ks.getD g none) (hs.getD g none) now
  refine for_it (TgI.walk_enumT (K := K) (a := kt) (xs := ks.map oI)) (fun i σ H' => ∃ (o5 o6 o7 o8 : Option V), σ = [some (.ref wt), some (.ref kt), some (.ref ht), some (.int now), some (.ref d), o5, o6, o7, o8] ∧ Kp T.cF T.T [] H H' ∧ H' d = some (.lst (((List.range i).map f).map oI)))
    ⟨none, none, none, none, rfl, k1, upd_same⟩ (fun i σ H' _ ⟨_, _, _, _, _, k2, _⟩ => SqT.of (k2.tup hk)) ?_ ?_
  · rintro i x σ H1 H2 hi ⟨o5, o6, o7, o8, rfl, k2, hd⟩ ⟨p, u, v, rfl, np, rfl, e1, e2⟩
    rw [hxl] at hi
    obtain ⟨kp, hkp⟩ : ∃ o, ks[i]? = some o := ⟨_, List.getElem?_eq_getElem hi⟩
    obtain ⟨ho, hho⟩ : ∃ o, hs[i]? = some o := ⟨_, List.getElem?_eq_getElem (by omega)⟩
    have e1 : u = .int (i : Nat) := (Option.some.inj e1).symm
    have e2 : v = oI kp := mapGet e2 hkp
    subst e1 e2
    have k3 := k2.trans (Kp.new (o := .tup [.int (i : Nat), oI kp]) np)
    have hd3 : (upd H1 p (.tup [.int (i : Nat), oI kp])) d = some (.lst (((List.range i).map f).map oI)) := by rw [upd_ne (ne_of_none hd np)]; exact hd
    have hat : atI (hs.map oI) ((i : Nat) : Int) = some (oI ho) := atI_nat (by rw [List.getElem?_map, hho]; rfl)
    have fin : ∀ (o6' o7' o8' : Option V) (z : Option Int), z = f i → ∃ (o5 o6 o7 o8 : Option V), [some (.ref wt), some (.ref kt), some (.ref ht), some (.int now), some (.ref d), some (.int (i : Nat)), o6', o7', o8'] = [some (.ref wt), some (.ref kt), some (.ref ht), some (.int now), some (.ref d), o5, o6, o7, o8] ∧
        Kp T.cF T.T [] H (upd (upd H1 p (.tup [.int (i : Nat), oI kp])) d (.lst (((List.range i).map f).map oI ++ [oI z]))) ∧ (upd (upd H1 p (.tup [.int (i : Nat), oI kp])) d (.lst (((List.range i).map f).map oI ++ [oI z]))) d = some (.lst (((List.range (i + 1)).map f).map oI)) := fun o6' o7' o8' z ez =>
      ⟨_, _, _, _, rfl, Kp.setNew (H := H) nd k3 hd3 trivial, by rw [upd_same, List.range_succ, List.map_append, List.map_append, ez]; rfl⟩
    have hacc : (((List.range i).map f).map oI).length < sizeLine := by
      rw [List.length_map, List.length_map, List.length_range]
      exact Nat.lt_of_lt_of_le (by omega : i < 5) (by decide)
    refine ⟨p, _, rfl, SqT.of upd_same, rfl, _, _, rfl, _, _, rfl, rfl, _, rfl, _, rfl, ht, _, _, _, rfl, rfl, SqT.of (k3.tup hh), hat, ?_⟩
    refine ⟨_, rfl, rfl, _, rfl, ?_⟩
    rw [oI_non]
    have fi : f i = newH1 ws i kp ho now := by
      show newH1 ws i (ks.getD i none) (hs.getD i none) now = _
      rw [List.getD_eq_getElem?_getD, List.getD_eq_getElem?_getD, hkp, hho]
      rfl
    cases kp with
    | none =>
      refine iteF ⟨_, rfl, .inl ⟨rfl, _, SqL.of hd3⟩, _, rfl, d, _, _, rfl, rfl, hd3, hacc, ?_⟩
      exact fin _ _ _ ho (by rw [fi]; rfl)
    | some kk =>
      obtain ⟨un, hu1, hu2, hu3, hu4⟩ := unit_at wok i
      have hatw : ∀ z : Int, z = ((min i (ws.length - 1) : Nat) : Int) → atI (ws.map V.int) z = some (.int un) := fun z e => by
        rw [e]
        exact atI_nat (by rw [List.getElem?_map, hu1]; rfl)
      have hl : 0 < ws.length := List.length_pos_iff.mpr wok.ne
      refine iteT ⟨_, rfl, _, rfl, _, rfl, wt, _, rfl, .inr ((hw.kp k3).sq), _, _, rfl, rfl, _, _, rfl, wt, _, _, _, rfl, rfl, (hw.kp k3).sq, hatw _ ?_, ?_⟩
      · rw [List.length_map]
        split <;> omega
      refine ⟨_, rfl, _, rfl, _, _, rfl, rfl, _, rfl, _, _, rfl, rfl, dv hu3 (by omega), _, rfl, _, _, rfl, rfl, mlr (j := un) (by omega) (by omega), ?_⟩
      refine ⟨_, rfl, _, rfl, ht, _, _, _, rfl, rfl, SqT.of (k3.tup hh), hat, rfl, _, rfl, ?_⟩
      rw [oI_non]
      cases ho with
      | none =>
        refine iteF ⟨_, rfl, .inl ⟨rfl, _, SqL.of hd3⟩, _, rfl, d, _, _, rfl, rfl, hd3, hacc, ?_⟩
        exact fin _ _ _ (some _) (by rw [fi]; show _ = some _; rw [hu2])
      | some h0 =>
        refine iteT ⟨_, rfl, _, rfl, _, rfl, ht, _, _, _, rfl, rfl, SqT.of (k3.tup hh), hat, _, _, rfl, ?_⟩
        refine ⟨_, rfl, .inl ⟨rfl, _, SqL.of hd3⟩, _, rfl, d, _, _, rfl, rfl, hd3, hacc, ?_⟩
        refine fin _ _ _ (some _) ?_
        rw [fi]
        show _ = some (mxI h0 _)
        rw [hu2, mxI_comm]
        rfl
  · rintro σ H1 ⟨o5, o6, o7, o8, rfl, k2, hd⟩
    rw [hxl] at hd
    exact ⟨_, rfl, d, _, rfl, .inl ⟨SqL.of hd, fun p np => k _ _ (k2.trans (Kp.new np)) upd_same⟩⟩
end
end Tg
/-! TgG1 -/
set_option Elab.async false
set_option linter.all false
set_option maxRecDepth 100000
set_option maxHeartbeats 4000000
/-! Grains: its data, right_widths, look, fold_at -/
namespace Tg
open PySem PySem.Spec PyProof.Rows L2 LamX NdefX TgM
/-! ### data -/
/-- a kept cell: its width, start, fold; the pair's address, the fold's, since -/
structure Rc where
  w : Int
  s : Int
  F : Fd
  t : Addr
  f : Addr
  n : Int
def kyR (w s : Int) : List Key := [.inl 5, .inl w, .inl s]
def ent (r : Rc) : List Key × V := (kyR r.w r.s, .ref r.t)
def RcOk (C : Addr) (H : Hp) (r : Rc) : Prop := H r.t = some (.tup [.ref r.f, .int r.n]) ∧ FoldAt C H r.f r.F
structure CmAt (C : Addr) (H : Hp) (cd : Addr) (cm : List Rc) : Prop where
  dc : H cd = some (.dT (cm.map ent))
  rc : ∀ r ∈ cm, RcOk C H r
  nd : (cm.map fun r => (r.w, r.s)).Nodup
  ln : cm.length ≤ 10000
theorem RcOk.kp {C : Addr} {T : List (Addr × Str)} {M : List Addr} {H H' : Hp} {r : Rc} (k : Kp C T M H H') (h : RcOk C H r) : RcOk C H' r := ⟨k.tup h.1, h.2.kp k⟩
theorem CmAt.kp {C : Addr} {T : List (Addr × Str)} {M : List Addr} {H H' : Hp} {cd : Addr} {cm : List Rc} (k : Kp C T M H H') (hm : cd ∉ M) (h : CmAt C H cd cm) : CmAt C H' cd cm := ⟨k.at h.dc hm, fun r hr => (h.rc r hr).kp k, h.nd, h.ln⟩
def lookR (cm : List Rc) (w s : Int) : Option Rc := cm.find? fun r => decide (r.w = w ∧ r.s = s)
def fdAt (cm : List Rc) (w s : Int) : Fd := match lookR cm w s with
  | some r => r.F
  | none => F0
theorem kyR_inj {w s w' s' : Int} : kyR w s = kyR w' s' ↔ w = w' ∧ s = s' := by
  unfold kyR
  constructor
  · intro h
    simp at h
    exact h
  · rintro ⟨rfl, rfl⟩
    rfl
theorem val_cm (cm : List Rc) (w s : Int) : valV (cm.map ent) (kyR w s) = (lookR cm w s).map fun r => V.ref r.t := by
  induction cm with
  | nil => rfl
  | cons r cm ih =>
    unfold lookR
    rw [List.map_cons, List.find?_cons]
    by_cases h : r.w = w ∧ r.s = s
    · rw [valV_pos (kyR_inj.mpr h), decide_eq_true h]
      rfl
    · rw [valV_neg fun z => h (kyR_inj.mp z), decide_eq_false h]
      exact ih
theorem lookR_mem {cm : List Rc} {w s : Int} {r : Rc} (h : lookR cm w s = some r) : r ∈ cm ∧ r.w = w ∧ r.s = s := by
  have h1 := List.mem_of_find?_eq_some h
  have h2 := List.find?_some h
  exact ⟨h1, of_decide_eq_true h2⟩
theorem lookR_none {cm : List Rc} {w s : Int} (h : lookR cm w s = none) : ∀ r ∈ cm, ¬ (r.w = w ∧ r.s = s) := fun r hr z => by
  have := List.find?_eq_none.mp h r hr
  exact this (decide_eq_true z)
/-- the attributes of Grains -/
def gFs (wt cd ed : Addr) (b : Bool) : List (Str × V) := [("widths", .ref wt), ("cells_kept", .ref cd), ("ends", .ref ed), ("busy", .bl b)]
section
variable (wt cd ed : Addr) (b : Bool)
theorem lk_widths : (gFs wt cd ed b).lookup ("widths" : Str) = some (.ref wt) := by kernel_rfl
theorem lk_cells : (gFs wt cd ed b).lookup ("cells_kept" : Str) = some (.ref cd) := by kernel_rfl
theorem lk_ends : (gFs wt cd ed b).lookup ("ends" : Str) = some (.ref ed) := by kernel_rfl
theorem lk_busy : (gFs wt cd ed b).lookup ("busy" : Str) = some (.bl b) := by kernel_rfl
theorem lk_look : (gFs wt cd ed b).lookup ("look" : Str) = none := by kernel_rfl
theorem lk_fold_at : (gFs wt cd ed b).lookup ("fold_at" : Str) = none := by kernel_rfl
theorem lk_cells_of : (gFs wt cd ed b).lookup ("cells_of" : Str) = none := by kernel_rfl
theorem lk_renew : (gFs wt cd ed b).lookup ("renew" : Str) = none := by kernel_rfl
theorem lk_made_anew : (gFs wt cd ed b).lookup ("made_anew" : Str) = none := by kernel_rfl
theorem lk_whole_of : (gFs wt cd ed b).lookup ("whole_of" : Str) = none := by kernel_rfl
theorem lk_let_go : (gFs wt cd ed b).lookup ("let_go" : Str) = none := by kernel_rfl
theorem lk_right : (gFs wt cd ed b).lookup ("right" : Str) = none := by kernel_rfl
theorem lk_right_by : (gFs wt cd ed b).lookup ("right_by" : Str) = none := by kernel_rfl
end
/-- a Grains in the heap (its ends stand apart) -/
structure Gr (CG : Addr) (CF : Addr) (H : Hp) (g wt cd ed : Addr) (b : Bool) (ws : List Int) (cm : List Rc) : Prop where
  ins : ∃ dx, H g = some (.ins CG dx (gFs wt cd ed b))
  wt : WT H wt (ws.map V.int)
  cs : CmAt CF H cd cm
  wok : WsOk ws
theorem Gr.kp {CG CF : Addr} {TL : List (Addr × Str)} {M : List Addr} {H H' : Hp} {g wt cd ed : Addr} {b : Bool} {ws : List Int} {cm : List Rc} (k : Kp CF TL M H H') (hg : g ∉ M) (hc : cd ∉ M) (h : Gr CG CF H g wt cd ed b ws cm) : Gr CG CF H' g wt cd ed b ws cm := by
  obtain ⟨⟨dx, h1⟩, h2, h3, h4⟩ := h
  exact ⟨⟨dx, k.at h1 hg⟩, h2.kp k, h3.kp k hc, h4⟩
section
variable {P : Program} {w : World} {K : PySem.W.Frag} {mg : Str → Option Value} {base : Heap}
def sp_right_widths (T : Ev K mg base) : Sp := fun vs H Q _ => ∃ (wt : Addr) (ws : List Int), vs = [.ref wt] ∧ WT H wt (ws.map V.int) ∧ WsOk ws ∧ ∀ H', Kp T.cF T.T [] H H' → Q (.ref wt) H'
theorem sc_right_widths : FnScope ["widths", "at", "width"] ["widths"] (defScope s_right_widths) := ⟨rfl, rfl, rfl, by decide +kernel, rfl, by decide +kernel, by decide +kernel⟩
theorem c_right_widths (T : Ev K mg base) : C8.Cal P w K mg base 1 "right_widths" (sp_right_widths T) [] := by
  refine calD T.d_right_widths sc_right_widths (fun _ _ _ _ _ _ us hl => match us, hl with | [_], _ => rfl) (fun vs H Q E h => by obtain ⟨_, _, rfl, _⟩ := h; rfl) (fun f cdv A outer s H vs Q E hr h => ?_)
  obtain ⟨wt, ws, rfl, hw, wok, k⟩ := h
  refine ⟨_, (pss_cons (ps_if (pt_cmpR op_eq (pe_callB call_len_seq (by rfl) T.b_len (by decide +kernel) (pa_cons (pv 0) pa_nil)) pe_int (nomark _)) (pss_one ps_never)
        pss_nil)
      (pss_cons (ps_for PassesOwn.never rfl (TgI.pi_enumT (by rfl) T.b_enumerate (pa_cons (pv 0) pa_nil)) (pg_tup rfl (pgs_cons (pg_name (i := 1) sc_right_widths.nd rfl (Or.inl rfl)) (pgs_cons (pg_name (i := 2) sc_right_widths.nd rfl (Or.inl rfl)) pgs_nil)))
        (pss_one (ps_if (PW.pt (pw_or (pt_cmpR op_eq (pv 1) pe_int (nomark _)) (pw_or (pt_cmpR op_lt (pv 2) pe_int (nomark _)) (pw_or1 (PW.pt (pw_and (pt_cmpR op_gt (pv 1) pe_int (nomark _)) (pw_and1 (PW.pt (pw_or (pt_cmpR op_le (pv 2) (pe_ix ix_tup (pv 0) (pe_op op_sub (pv 1) pe_int) (fun _ _ => rfl)) (nomark _)) (pw_or1 (pt_cmpR op_ne (pe_op op_mod (pv 2) (pe_ix ix_tup (pv 0) (pe_op op_sub (pv 1) pe_int) (fun _ _ => rfl))) pe_int (nomark _)))))))))))) (pss_one ps_never)
          pss_nil)))
      (pss_one (ps_ret (pe_callTy call_tuple_of (by rfl) T.b_tuple (by decide +kernel) (pa_cons (pv 0) pa_nil)))))), ?_⟩
  have hl : 0 < ws.length := List.length_pos_iff.mpr wok.ne
  refine ⟨_, rfl, wt, _, rfl, .inr (hw.sq), rfl, _, rfl, ?_⟩
  rw [List.length_map, decide_eq_false (by intro z; have := V.int.inj z; omega)]
  refine iteF ⟨_, rfl, wt, _, rfl, hw.sq, ?_⟩
  have hxl : (ws.map V.int).length = ws.length := List.length_map _
  refine for_it (TgI.walk_enumT (K := K) (a := wt) (xs := ws.map V.int)) (fun i σ H' => ∃ (o1 o2 : Option V), σ = [some (.ref wt), o1, o2] ∧ Kp T.cF T.T [] H H')
    ⟨none, none, rfl, Kp.refl _⟩ (fun i σ H' _ ⟨_, _, _, k2⟩ => (hw.kp k2).sq) ?_ ?_
  · rintro i x σ H1 H2 hi ⟨o1, o2, rfl, k1⟩ ⟨p, u, v, rfl, np, rfl, e1, e2⟩
    rw [hxl] at hi
    obtain ⟨wd, hwd⟩ : ∃ o, ws[i]? = some o := ⟨_, List.getElem?_eq_getElem hi⟩
    have e1 : u = .int (i : Nat) := (Option.some.inj e1).symm
    have e2 : v = .int wd := mapGet e2 hwd
    subst e1 e2
    have k2 := k1.trans (Kp.new (C := T.cF) (T := T.T) (M := []) (o := .tup [.int (i : Nat), .int wd]) np)
    have fin : ∃ (o1 o2 : Option V), [some (.ref wt), some (.int (i : Nat)), some (.int wd)] = [some (.ref wt), o1, o2] ∧ Kp T.cF T.T [] H (upd H1 p (.tup [.int (i : Nat), .int wd])) := ⟨_, _, rfl, k2⟩
    have h4 := wok.len
    have hb := wok.bd wd (List.mem_of_getElem? hwd)
    refine ⟨p, _, rfl, SqT.of upd_same, rfl, _, _, rfl, _, _, rfl, rfl, _, rfl, rfl, _, rfl, ?_⟩
    rw [decide_eq_false (by intro z; have := V.int.inj z; omega)]
    refine iteF ⟨_, rfl, _, _, rfl, rfl, _, rfl, ?_⟩
    rw [decide_eq_false (by omega)]
    refine iteF ⟨_, rfl, _, _, rfl, rfl, _, rfl, ?_⟩
    refine ite2 (fun e => ?_) (fun e => iteF fin)
    have hi0 : 0 < i := by have := of_decide_eq_true e; omega
    obtain ⟨w0, hw0⟩ : ∃ o, ws[i - 1]? = some o := ⟨_, List.getElem?_eq_getElem (by omega)⟩
    have hat : atI (ws.map V.int) ((i : Int) - 1) = some (.int w0) := by
      have : ((i : Int) - 1) = ((i - 1 : Nat) : Int) := by omega
      rw [this]
      exact atI_nat (by rw [List.getElem?_map, hw0]; rfl)
    obtain ⟨b1, g1⟩ := List.getElem?_eq_some_iff.mp hw0
    obtain ⟨b2, g2⟩ := List.getElem?_eq_some_iff.mp hwd
    have hp := List.pairwise_iff_getElem.mp wok.pw (i - 1) i b1 b2 (by omega)
    rw [g1, g2] at hp
    have hb0 := wok.bd w0 (List.mem_of_getElem? hw0)
    refine ⟨_, rfl, _, rfl, _, rfl, _, _, rfl, rfl, wt, _, _, _, rfl, rfl, (hw.kp k2).sq, hat, _, _, rfl, rfl, _, rfl, ?_⟩
    rw [decide_eq_false (by omega)]
    refine iteF ⟨_, rfl, _, rfl, _, rfl, _, _, rfl, rfl, wt, _, _, _, rfl, rfl, (hw.kp k2).sq, hat, _, _, rfl, rfl, hb0.1, rfl, _, rfl, ?_⟩
    have ez : (!decide (V.int (wd % w0) = V.int 0)) = false := by rw [Int.emod_eq_zero_of_dvd hp.2]; rfl
    show if (!decide (V.int (wd % w0) = V.int 0)) = true then _ else _
    rw [ez]
    exact iteF fin
  · rintro σ H1 ⟨o1, o2, rfl, k1⟩
    exact ⟨_, rfl, wt, _, rfl, .inr ⟨(hw.kp k1).sq, k H1 k1⟩⟩
def sp_look (T : Ev K mg base) : Sp := fun vs H Q _ => ∃ (g wt cd ed : Addr) (b : Bool) (ws : List Int) (cm : List Rc) (wd : Int), vs = [.ref g, .int wd] ∧ Gr T.cG T.cF H g wt cd ed b ws cm ∧ wd ∈ ws ∧ Q .non H
theorem sc_look : FnScope ["self", "width"] ["self", "width"] (defScope s_look) := ⟨rfl, rfl, rfl, by decide +kernel, rfl, by decide +kernel, by decide +kernel⟩
theorem int_in {i : Int} {l : List Int} (h : i ∈ l) : inV (V.int i) (l.map V.int) = true := by
  unfold inV
  rw [List.any_eq_true]
  exact ⟨_, List.mem_map.mpr ⟨i, h, rfl⟩, by show decide (i = i) = true; exact decide_eq_true rfl⟩
theorem flat_ints (l : List Int) : (l.map V.int).all flatV = true := by
  rw [List.all_eq_true]
  intro x hx
  obtain ⟨i, _, rfl⟩ := List.mem_map.mp hx
  rfl
theorem m_look (T : Ev K mg base) : C8.Met P w K mg base 1 T.cG "look" (sp_look T) [] := by
  refine metD T.clG T.e_look sc_look (fun _ _ _ _ _ _ us hl => match us, hl with | [_, _], _ => rfl) (fun vs H Q E h => by obtain ⟨_, _, _, _, _, _, _, _, rfl, _⟩ := h; rfl) (fun f cdv A outer s H vs Q E hr h => ?_)
  obtain ⟨g, wt, cd, ed, b, ws, cm, wd, rfl, ⟨⟨dx, hg⟩, hw, _, _⟩, hm, k⟩ := h
  refine ⟨_, (pss_one (ps_if (pt_cmpR op_notIn_seq (pv 1) (pe_fldC T.clG (T.naG _ (by decide)) (pv 0)) (by rfl)) (pss_one ps_never)
        pss_nil)), ?_⟩
  refine ⟨_, rfl, _, rfl, g, dx, _, _, rfl, hg, lk_widths _ _ _ _, wt, _, rfl, .inr (hw.sq), rfl, flat_ints _, _, rfl, ?_⟩
  rw [int_in hm]
  exact iteF k
def sp_fold_at (T : Ev K mg base) : Sp := fun vs H Q _ => ∃ (g wt cd ed : Addr) (b : Bool) (ws : List Int) (cm : List Rc) (wd t : Int), vs = [.ref g, .int 5, .int wd, .int t] ∧ Gr T.cG T.cF H g wt cd ed b ws cm ∧ wd ∈ ws ∧
  ∀ H' f, Kp T.cF T.T [] H H' → FoldAt T.cF H' f (fdAt cm wd (cel t wd)) → Q (.ref f) H'
theorem sc_fold_at : FnScope ["self", "place", "width", "time"] ["self", "place", "width", "time"] (defScope s_fold_at) := ⟨rfl, rfl, rfl, by decide +kernel, rfl, by decide +kernel, by decide +kernel⟩
theorem m_fold_at (T : Ev K mg base) : C8.Met P w K mg base 3 T.cG "fold_at" (sp_fold_at T) [] := by
  refine metD T.clG T.e_fold_at sc_fold_at (fun _ _ _ _ _ _ us hl => match us, hl with | [_, _, _, _], _ => rfl) (fun vs H Q E h => by obtain ⟨_, _, _, _, _, _, _, _, _, rfl, _⟩ := h; rfl) (fun f cdv A outer s H vs Q E hr h => ?_)
  obtain ⟨g, wt, cd, ed, b, ws, cm, wd, t, rfl, hG, hm, k⟩ := h
  obtain ⟨⟨dx, hg⟩, hw, hc, wok⟩ := id hG
  have hu := hu_of hr
  refine ⟨_, (pss_cons (ps_expr (C8.pe_mt (m_look T) hr (by decide) (pv 0) (pa_cons (pv 2) pa_nil)))
      (pss_one (ps_ret (pe_ix ix_tup (pe_dget2 hu (pe_fldC T.clG (T.naG _ (by decide)) (pv 0)) (pe_tup (pa_cons (pv 1) (pa_cons (pv 2) (pa_cons (C8.pe_c (c_cell_of T) hr (by decide) rfl (pa_cons (pv 3) (pa_cons (pv 2) pa_nil))) pa_nil)))) (pe_tup (pa_cons (pe_F0 T (hr.mono (by decide)) (by rfl)) (pa_cons pe_int pa_nil))) ⟨rfl, rfl, rfl, rfl⟩) pe_int (fun _ _ => rfl))))), ?_⟩
  have hb := wok.bd wd hm
  refine ⟨_, rfl, g, dx, _, rfl, hg, lk_look _ _ _ _, _, rfl, g, wt, cd, ed, b, ws, cm, wd, rfl, hG, hm, ?_⟩
  refine ⟨_, rfl, g, dx, _, _, rfl, hg, lk_cells _ _ _ _, cd, rfl, .inr ⟨_, .inl hc.dc⟩, ?_⟩
  refine ⟨_, rfl, _, rfl, _, rfl, _, rfl, t, wd, rfl, hb.1, (by omega), ?_⟩
  refine ⟨(by show 3 ≤ sizeLine; decide), fun p np => ?_⟩
  refine ⟨_, _, _, _, _, _, _, _, _, rfl, fun x H1 s1 nx ⟨dz, hz⟩ => ⟨two_le, fun q nq => ?_⟩⟩
  have k1 : Kp T.cF T.T [] H (upd H1 q (.tup [.ref x, .int 0])) := (Kp.new np).trans ((Kp.of s1).trans (Kp.new nq))
  have hc1 := hc.kp k1 (by simp)
  have hp1 : (upd H1 q (.tup [.ref x, .int 0])) p = some (.tup ((kyR wd (cel t wd)).map kV)) := ((Kp.of (C := T.cF) (T := T.T) (M := []) s1).trans (Kp.new nq)).tup upd_same
  have g1 := DGet.t hc1.dc hp1
  rw [val_cm] at g1
  refine ⟨_, g1, ?_⟩
  cases e : lookR cm wd (cel t wd) with
  | none =>
    refine ⟨q, _, 0, .ref x, rfl, rfl, SqT.of upd_same, rfl, k _ x k1 ?_⟩
    unfold fdAt
    rw [e]
    exact ⟨dz, .non, .non, (Same.new nq) _ _ hz, rfl, rfl⟩
  | some r =>
    obtain ⟨h1, h2, h3⟩ := lookR_mem e
    obtain ⟨h4, h5⟩ := hc1.rc r h1
    refine ⟨r.t, _, 0, .ref r.f, rfl, rfl, SqT.of h4, rfl, k _ r.f k1 ?_⟩
    unfold fdAt
    rw [e]
    exact h5
end
end Tg
/-! TgG2 -/
set_option Elab.async false
set_option linter.all false
set_option maxRecDepth 100000
set_option maxHeartbeats 4000000
/-! Grains.__init__, cells_of -/
namespace Tg
open PySem PySem.Spec PyProof.Rows L2 LamX NdefX TgM
def endK (ws : List Int) (hs : List (Option Int)) : List (Key × V) := List.zipWith (fun w h => (Sum.inl w, oI h)) ws hs
theorem endK_none (ws : List Int) : endK ws (ws.map fun _ => none) = ws.map fun w => (Sum.inl w, V.non) := by
  unfold endK
  induction ws with
  | nil => rfl
  | cons a r ih =>
    rw [List.map_cons, List.zipWith_cons_cons, List.map_cons, ih]
    rfl
section
variable {C : Addr} {T : List (Addr × Str)} {H H1 H2 : Hp} {x : Addr}
/-- what is new may be written -/
theorem Kp.newM (hx : H x = none) (a : Kp C T [] H H1) (b : Kp C T [x] H1 H2) : Kp C T [] H H2 := by
  refine ⟨fun c o e n => ?_, fun t => b.tb (a.tb t)⟩
  refine b.st c o (a.st c o e n) (n.elim (fun z => .inl ⟨fun m => ?_, z.2⟩) .inr)
  rw [List.mem_singleton.mp m, hx] at e
  cases e
/-- a thing is read under a lock -/
theorem Kp.lock {M : List Addr} {u : HO} {od : Obj} (h : H x = some u) (hw : wr C u) (k : Kp C T M (upd H x (.frz od u)) H1) (e1 : H1 x = some (.frz od u)) : Kp C T M H (upd H1 x u) := by
  refine ⟨fun c o e n => ?_, fun t => ?_⟩
  · by_cases hc : c = x
    · subst hc
      rw [h] at e
      rw [upd_same]
      exact e
    · rw [upd_ne hc]
      exact k.st c o (by rw [upd_ne hc]; exact e) n
  · have nt : ∀ q ps, H q = some (.tbl ps) → q ≠ x := fun q ps e z => by
      rw [z, h] at e
      cases e
      exact hw
    have ne : ∀ c qual, H c = some (CodeO c qual) → c ≠ x := fun c qual e z => by
      rw [z, h] at e
      unfold CodeO at e
      cases e
      exact hw
    have t1 : Tabs T (upd H x (.frz od u)) := fun q hq => by
      obtain ⟨ps, a1, a2, a3⟩ := t q hq
      refine ⟨ps, by rw [upd_ne (nt _ _ a1)]; exact a1, a2, fun pos cv hc => ?_⟩
      obtain ⟨c, a4, a5⟩ := a3 pos cv hc
      exact ⟨c, a4, by rw [upd_ne (ne _ _ a5)]; exact a5⟩
    have t2 := k.tb t1
    intro q hq
    obtain ⟨ps, a1, a2, a3⟩ := t2 q hq
    refine ⟨ps, ?_, a2, fun pos cv hc => ?_⟩
    · rw [upd_ne fun z => ?_]
      · exact a1
      · rw [z, e1] at a1
        cases a1
    · obtain ⟨c, a4, a5⟩ := a3 pos cv hc
      refine ⟨c, a4, ?_⟩
      rw [upd_ne fun z => ?_]
      · exact a5
      · rw [z, e1] at a5
        unfold CodeO at a5
        cases a5
theorem Kp.frz {M : List Addr} {u : HO} {od : Obj} (h : H x = some u) (hw : wr C u) : Kp C T [x] H (upd H x (.frz od u)) := .set h (by simp) hw
end
theorem eqv_pt (a b c d : Int) : PyData.eqv (dPt (a, b)) (dPt (c, d)) = (decide (a = c) && decide (b = d)) := by
  unfold dPt
  by_cases h1 : a = c <;> by_cases h2 : b = d <;> simp [PyData.eqv, PyData.eqvAll, h1, h2]
theorem RcOk.frz {C : Addr} {H : Hp} {r : Rc} {x : Addr} {u o : HO} (h : H x = some u) (h1 : ∀ xs, u ≠ .tup xs) (h2 : ∀ dx fs, u ≠ .ins C dx fs) (k : RcOk C H r) : RcOk C (upd H x o) r := by
  obtain ⟨k1, dx, v1, v2, k2, k3, k4⟩ := k
  have ne : ∀ b xs, H b = some (.tup xs) → b ≠ x := fun b xs e z => by
    rw [z, h] at e
    exact h1 xs (Option.some.inj e)
  have pv : ∀ {o' : Option Pt} {v : V}, PtV H v o' → PtV (upd H x o) v o' := fun {o' v} q => by
    cases o' with
    | none => exact q
    | some p =>
      obtain ⟨a, e, q⟩ := q
      exact ⟨a, e, by rw [upd_ne (ne _ _ q)]; exact q⟩
  refine ⟨by rw [upd_ne (ne _ _ k1)]; exact k1, dx, v1, v2, ?_, pv k3, pv k4⟩
  rw [upd_ne fun z => ?_]
  · exact k2
  · rw [z, h] at k2
    exact h2 _ _ (Option.some.inj k2)
section
variable {P : Program} {w : World} {K : PySem.W.Frag} {mg : Str → Option Value} {base : Heap}
def sp_Ginit (T : Ev K mg base) : Sp := fun vs H Q _ => ∃ (x dx wt : Addr) (ws : List Int), vs = [.ref x, .ref wt] ∧ H x = some (.ins T.cG dx []) ∧ WT H wt (ws.map V.int) ∧ WsOk ws ∧
  ∀ H' cd ed, Kp T.cF T.T [x] H H' → Gr T.cG T.cF H' x wt cd ed false ws [] → H' ed = some (.dK (endK ws (ws.map fun _ => none))) → (∀ kvs, H ed ≠ some (.dK kvs)) → Q .non H'
theorem sc_Ginit : FnScope ["self", "widths", "width"] ["self", "widths"] (defScope s_Ginit) := ⟨rfl, rfl, rfl, by decide +kernel, rfl, by decide +kernel, by decide +kernel⟩
theorem k_Ginit (T : Ev K mg base) {f : Addr} {fd : FuncData} (F : FunD K "__init__" "Grains.__init__" (defArgs s_Ginit) (defBody s_Ginit) (defScope s_Ginit) [] [] f fd) : FnOk P w K mg base CX0 2 f fd ["self", "widths"] (sp_Ginit T) := by
  refine F.ok sc_Ginit (fun vs H Q E h => by obtain ⟨_, _, _, _, rfl, _⟩ := h; rfl) (fun cdv A outer s H vs Q E hr h => ?_)
  obtain ⟨x, dx, wt, ws, rfl, hx, hw, wok, k⟩ := h
  refine ⟨_, (pss_cons (ps_fld (pv 0) (C8.pe_c (c_right_widths T) hr (by decide) rfl (pa_cons (pv 1) pa_nil)) rfl)
      (pss_cons (ps_fld (pv 0) pe_dnewT rfl)
      (pss_cons (ps_fld (pv 0) (pe_dc (own := [("width", 2)]) rfl sc_Ginit.nd (pi_tup (pe_fldC T.clG (T.naG _ (by decide)) (pv 0))) (blkOk_by (own := [("width", 2)]) (N := ["self", "widths", "width"]) (sc := defScope s_Ginit) (by decide +kernel)) (fun _ _ _ _ _ => (pg_name (i := 2) sc_Ginit.nd rfl (Or.inl rfl))) (fun _ _ _ _ _ => pts_nil) (fun _ _ _ _ _ => (pv 2)) (fun _ _ _ _ _ => pe_non)) rfl)
      (pss_one (ps_fld (pv 0) pe_bl rfl))))), ?_⟩
  refine ⟨_, rfl, wt, ws, rfl, hw, wok, fun H1 k1 => ⟨_, rfl, x, T.cG, dx, _, rfl, k1.any hx, T.clG, T.naG _ (by decide), (by decide), ?_⟩⟩
  have kx : Kp T.cF T.T [x] H (upd H1 x (.ins T.cG dx (putF "widths" (.ref wt) []))) := (k1.mono (by simp)).trans (Kp.set (k1.any hx) (by simp) T.FG)
  intro cd ncd
  have xcd : x ≠ cd := ne_of_none upd_same ncd
  refine ⟨_, rfl, x, T.cG, dx, _, rfl, (Same.new ncd) _ _ upd_same, T.clG, T.naG _ (by decide), (by show 1 < 1000; decide), ?_⟩
  have k2 : Kp T.cF T.T [x] H (upd (upd (upd H1 x (.ins T.cG dx (putF "widths" (.ref wt) []))) cd (.dT [])) x (.ins T.cG dx (putF "cells_kept" (.ref cd) (putF "widths" (.ref wt) [])))) :=
    (kx.trans (Kp.new ncd)).trans (Kp.set ((Same.new ncd) _ _ upd_same) (by simp) T.FG)
  have hcd2 : (upd (upd (upd H1 x (.ins T.cG dx (putF "widths" (.ref wt) []))) cd (.dT [])) x (.ins T.cG dx (putF "cells_kept" (.ref cd) (putF "widths" (.ref wt) [])))) cd = some (.dT []) := by rw [upd_ne xcd.symm, upd_same]
  refine ⟨_, rfl, x, dx, _, _, rfl, upd_same, (by kernel_rfl : _ = some (V.ref wt)), wt, rfl, ⟨_, (hw.kp k2).sq⟩, fun D nD => ?_⟩
  have xD : x ≠ D := ne_of_none upd_same nD
  have hxl : (ws.map V.int).length = ws.length := List.length_map _
  refine dc_it (walk_tup (K := K) (a := wt) (xs := ws.map V.int)) (DcP T.cF T.T _ D fun i acc H' => acc = (ws.take i).map fun w => (Sum.inl w, V.non)) (dc0 nD rfl) (fun i H' _ ⟨acc, _, _, k3, _⟩ => ((hw.kp k2).kp k3).sq) ?_ ?_
  · rintro i y H2 H3 hi ⟨acc, ha, hl, k3, rfl⟩ ⟨rfl, ey⟩
    rw [hxl] at hi
    obtain ⟨wd, hwd⟩ : ∃ o, ws[i]? = some o := ⟨_, List.getElem?_eq_getElem hi⟩
    have ey : y = .int wd := mapGet ey hwd
    subst ey
    have h4 := wok.len
    refine ⟨rfl, yes_ ⟨_, rfl, dcYes (k := Sum.inl wd) (Nat.lt_of_lt_of_le (by omega : i < 4) (by decide)) nD k3 ha hl (Kp.refl _) ?_⟩⟩
    have hk : IntK ((ws.take i).map fun w => (Sum.inl w, V.non)) (ws.take i) := by
      unfold IntK
      rw [List.map_map]
      rfl
    have hnot : wd ∉ ws.take i := fun hm => by
      obtain ⟨j, hj⟩ := List.mem_iff_getElem?.mp hm
      have hji : j < i := by
        have := (List.getElem?_eq_some_iff.mp hj).1
        rw [List.length_take] at this
        omega
      rw [List.getElem?_take_of_lt hji] at hj
      obtain ⟨b1, e1⟩ := List.getElem?_eq_some_iff.mp hj
      obtain ⟨b2, e2⟩ := List.getElem?_eq_some_iff.mp hwd
      have := (List.pairwise_iff_getElem.mp wok.pw j i b1 b2 hji).1
      rw [e1, e2] at this
      omega
    rw [putK_not hk hnot, take_snoc hwd, List.map_append]
    rfl
  · rintro H2 ⟨acc, ha, hl, k3, rfl⟩
    rw [hxl, List.take_length] at ha
    refine ⟨_, rfl, x, T.cG, dx, _, rfl, k3.any upd_same, T.clG, T.naG _ (by decide), (by show 2 < 1000; decide), ?_⟩
    refine ⟨_, rfl, x, T.cG, dx, _, rfl, upd_same, T.clG, T.naG _ (by decide), (by show 3 < 1000; decide), ?_⟩
    have s1 : Kp T.cF T.T [x] H2 (upd H2 x (.ins T.cG dx (putF "ends" (.ref D) (putF "cells_kept" (.ref cd) (putF "widths" (.ref wt) []))))) := Kp.set (k3.any upd_same) (by simp) T.FG
    have s2 : Kp T.cF T.T [x] (upd H2 x (.ins T.cG dx (putF "ends" (.ref D) (putF "cells_kept" (.ref cd) (putF "widths" (.ref wt) []))))) (upd (upd H2 x (.ins T.cG dx (putF "ends" (.ref D) (putF "cells_kept" (.ref cd) (putF "widths" (.ref wt) []))))) x (.ins T.cG dx (putF "busy" (.bl false) (putF "ends" (.ref D) (putF "cells_kept" (.ref cd) (putF "widths" (.ref wt) [])))))) := Kp.set upd_same (by simp) T.FG
    have k4 := (k2.trans (k3.mono (by simp))).trans (s1.trans s2)
    refine k _ cd D k4 ⟨⟨dx, ?_⟩, hw.kp k4, ⟨?_, (by simp), (by simp), (by simp)⟩, wok⟩ ?_ ?_
    · rw [upd_same]
      exact congrArg (fun l => some (HO.ins T.cG dx l)) (by kernel_rfl)
    · rw [upd_ne xcd.symm, upd_ne xcd.symm]
      exact k3.any hcd2
    · rw [upd_ne xD.symm, upd_ne xD.symm, endK_none]
      exact ha
    · intro kvs e
      have := k2.at e (by simpa using xD.symm)
      rw [nD] at this
      cases this
end
end Tg
/-! TgG3 -/
set_option Elab.async false
set_option linter.all false
set_option maxRecDepth 100000
set_option maxHeartbeats 4000000
/-! Grains.cells_of -/
namespace Tg
open PySem PySem.Spec PyProof.Rows L2 LamX NdefX TgM
theorem ky_at {cm : List Rc} {i : Nat} {k : List Key} {v : V} {r : Rc} (hr : cm[i]? = some r) (e : (cm.map ent)[i]? = some (k, v)) : k = kyR r.w r.s ∧ v = .ref r.t := by
  rw [List.getElem?_map, hr] at e
  have := Option.some.inj e
  exact ⟨(Prod.mk.inj this).1.symm, (Prod.mk.inj this).2.symm⟩
/-- rows: the pairs (key, fold) of some records -/
structure RowsAt (C : Addr) (H : Hp) (L : List (Addr × Addr × Rc)) : Prop where
  row : ∀ x ∈ L, H x.1 = some (.tup [.ref x.2.1, .ref x.2.2.f]) ∧ H x.2.1 = some (.tup ((kyR x.2.2.w x.2.2.s).map kV)) ∧ FoldAt C H x.2.2.f x.2.2.F
theorem RowsAt.kp {C : Addr} {T : List (Addr × Str)} {M : List Addr} {H H' : Hp} {L : List (Addr × Addr × Rc)} (k : Kp C T M H H') (h : RowsAt C H L) : RowsAt C H' L := ⟨fun x hx => let ⟨a, b, c⟩ := h.row x hx; ⟨k.tup a, k.tup b, c.kp k⟩⟩
theorem nd_same {cm : List Rc} (h : (cm.map fun r => (r.w, r.s)).Nodup) (w : Int) (p : Rc → Bool) : (((cm.filter fun r => decide (r.w = w)).filter p).map (·.s)).Nodup := by
  have h1 : (((cm.filter fun r => decide (r.w = w)).filter p).map fun r => (r.w, r.s)).Nodup := List.Nodup.sublist (((List.filter_sublist).trans List.filter_sublist).map _) h
  have h2 : ((cm.filter fun r => decide (r.w = w)).filter p).map (fun r => (r.w, r.s)) = (((cm.filter fun r => decide (r.w = w)).filter p).map (·.s)).map fun s => (w, s) := by
    rw [List.map_map]
    apply List.map_congr_left
    intro r hr
    have := (List.mem_filter.mp (List.mem_filter.mp hr).1).2
    show (r.w, r.s) = (w, r.s)
    rw [of_decide_eq_true this]
  rw [h2] at h1
  exact (List.pairwise_map.mp h1).imp fun a e => a (by rw [e])
section
variable {P : Program} {w : World} {K : PySem.W.Frag} {mg : Str → Option Value} {base : Heap}
def sp_cells_of (T : Ev K mg base) : Sp := fun vs H Q _ => ∃ (g wt cd ed : Addr) (b : Bool) (ws : List Int) (cm : List Rc) (wd : Int), vs = [.ref g, .int 5, .int wd] ∧ Gr T.cG T.cF H g wt cd ed b ws cm ∧ wd ∈ ws ∧
  ∀ H' p ys, Kp T.cF T.T [] H H' → H' p = some (.lst (ys.map V.int)) → Up ys → (∀ z, z ∈ ys ↔ ∃ r ∈ cm, r.w = wd ∧ r.s = z ∧ 0 < r.F.count) → ys.length ≤ cm.length → Q (.ref p) H'
theorem sc_cells_of : FnScope ["self", "place", "width", "rows", "key", "fold", "since", "series", "wide", "start"] ["self", "place", "width"] (defScope s_cells_of) := ⟨rfl, rfl, rfl, by decide +kernel, rfl, by decide +kernel, by decide +kernel⟩
theorem m_cells_of (T : Ev K mg base) : C8.Met P w K mg base 2 T.cG "cells_of" (sp_cells_of T) [] := by
  refine metD T.clG T.e_cells_of sc_cells_of (fun _ _ _ _ _ _ us hl => match us, hl with | [_, _, _], _ => rfl) (fun vs H Q E h => by obtain ⟨_, _, _, _, _, _, _, _, rfl, _⟩ := h; rfl) (fun f cdv A outer s H vs Q E hr h => ?_)
  obtain ⟨g, wt, cd, ed, b, ws, cm, wd, rfl, hG, hm, k⟩ := h
  obtain ⟨⟨dx, hg⟩, hw, hc, wok⟩ := id hG
  refine ⟨_, (pss_cons (ps_expr (C8.pe_mt (m_look T) hr (by decide) (pv 0) (pa_cons (pv 2) pa_nil)))
      (pss_cons (ps_lock (ps_setLc (i := 3) (own := [("key", 4), ("fold", 5), ("since", 6)]) rfl sc_cells_of.nd rfl rfl (sw_true rfl rfl rfl (by decide +kernel)) (TgI.pi_itemsT (pe_fldC T.clG (T.naG _ (by decide)) (pv 0))) (blkOk_by (own := [("key", 4), ("fold", 5), ("since", 6)]) (N := ["self", "place", "width", "rows", "key", "fold", "since", "series", "wide", "start"]) (sc := defScope s_cells_of) (by decide +kernel)) (fun _ _ _ _ _ => (pgT (K := K) (n := 2) rfl rfl (pgs_cons (pg_name (i := 4) sc_cells_of.nd rfl (Or.inl rfl)) (pgs_cons (pgT (K := K) (n := 2) rfl rfl (pgs_cons (pg_name (i := 5) sc_cells_of.nd rfl (Or.inl rfl)) (pgs_cons (pg_name (i := 6) sc_cells_of.nd rfl (Or.inl rfl)) pgs_nil))) pgs_nil)))) (fun _ _ _ _ _ => (pts_one (pt_cmpR (eqDK (K := K) rfl hr.units) (pe_slice (slTK (K := K) rfl) (pv 4) po_none (po_some pe_int)) (pe_tup (pa_cons (pv 1) (pa_cons (pv 2) pa_nil))) (nomark _)))) (fun _ _ _ _ _ => (pe_tup (pa_cons (pv 4) (pa_cons (pv 5) pa_nil))))))
      (pss_one (ps_ret (pe_callB cr_sortedI (by rfl) T.b_sorted (by decide +kernel) (pa_cons (pe_lc (own := [("series", 7), ("wide", 8), ("start", 9), ("fold", 5)]) rfl sc_cells_of.nd (pi_list (pv 3)) (blkOk_by (own := [("series", 7), ("wide", 8), ("start", 9), ("fold", 5)]) (N := ["self", "place", "width", "rows", "key", "fold", "since", "series", "wide", "start"]) (sc := defScope s_cells_of) (by decide +kernel)) (fun _ _ _ _ _ => (pgT (K := K) (n := 2) rfl rfl (pgs_cons (pgT (K := K) (n := 3) rfl rfl (pgs_cons (pg_name (i := 7) sc_cells_of.nd rfl (Or.inl rfl)) (pgs_cons (pg_name (i := 8) sc_cells_of.nd rfl (Or.inl rfl)) (pgs_cons (pg_name (i := 9) sc_cells_of.nd rfl (Or.inl rfl)) pgs_nil)))) (pgs_cons (pg_name (i := 5) sc_cells_of.nd rfl (Or.inl rfl)) pgs_nil)))) (fun _ _ _ _ _ => (pts_one (pt_cmpR op_gt (pe_fldC T.clF (T.naF _ (by decide)) (pv 5)) pe_int (nomark _)))) (fun _ _ _ _ _ => (pv 9))) pa_nil)))))), ?_⟩
  refine ⟨_, rfl, g, dx, _, rfl, hg, lk_look _ _ _ _, _, rfl, g, wt, cd, ed, b, ws, cm, wd, rfl, hG, hm, ?_⟩
  refine ⟨cd, _, hc.dc, trivial, fun od => ?_⟩
  have gcd : g ≠ cd := fun z => by rw [z, hc.dc] at hg; cases hg
  have hg1 : (upd H cd (.frz od (.dT (cm.map ent)))) g = some (.ins T.cG dx (gFs wt cd ed b)) := by rw [upd_ne gcd]; exact hg
  refine ⟨_, rfl, g, dx, _, _, rfl, hg1, lk_cells _ _ _ _, cd, od, _, rfl, upd_same, fun D nD => ?_⟩
  have hrc : ∀ r ∈ cm, RcOk T.cF (upd H cd (.frz od (.dT (cm.map ent)))) r := fun r h => (hc.rc r h).frz hc.dc (fun _ z => by cases z) (fun _ _ z => by cases z)
  have hln := hc.ln
  have hxl : (cm.map ent).length = cm.length := List.length_map _
  have hsz : ∀ i, i < cm.length → i < sizeLine := fun i h => Nat.lt_of_lt_of_le h (Nat.le_trans hln (by decide))
  refine lc_it (TgI.walk_itemsT (d := cd) (o := od) (kvs := cm.map ent)) (LcP T.cF T.T (upd H cd (.frz od (.dT (cm.map ent)))) D fun i acc H' => ∃ L : List (Addr × Addr × Rc), acc = L.map (fun x => V.ref x.1) ∧ RowsAt T.cF H' L ∧ L.map (·.2.2) = (cm.take i).filter fun r => decide (r.w = wd))
    (lc0 nD ⟨[], rfl, ⟨fun x hx => by simp at hx⟩, rfl⟩) (fun i H' _ ⟨acc, _, _, k2, _⟩ => k2.any upd_same) ?_ ?_
  · rintro i x H1 H2 hi ⟨acc, ha, hl, k2, L, rfl, hL, hLm⟩ ⟨Tp, kk, v, q, hkv, rfl, nT, hq, rfl⟩
    rw [hxl] at hi
    obtain ⟨r, hr1⟩ : ∃ r, cm[i]? = some r := ⟨_, List.getElem?_eq_getElem hi⟩
    obtain ⟨rfl, rfl⟩ := ky_at hr1 hkv
    have hrm := List.mem_of_getElem? hr1
    have kT : Kp T.cF T.T [] H1 (upd H1 Tp (.tup [.ref q, .ref r.t])) := Kp.new nT
    obtain ⟨hrt, hrF⟩ := ((hrc r hrm).kp k2).kp kT
    have hf := filter_snoc (p := fun r : Rc => decide (r.w = wd)) hr1
    refine ⟨Tp, _, rfl, SqT.of upd_same, rfl, _, _, rfl, _, _, rfl, r.t, _, rfl, SqT.of hrt, rfl, _, _, rfl, _, _, rfl, rfl, rfl, rfl, ?_⟩
    refine ⟨_, rfl, 2, rfl, q, _, rfl, SqT.of (kT.tup hq), (fun z => absurd z.2 (by show ¬ HT.sIx 3 3 (some 2) = 3; decide)), fun _ p2 n2 => ?_⟩
    refine ⟨_, rfl, _, rfl, two_le, fun p3 n3 => ?_⟩
    have k3 : Kp T.cF T.T [] (upd (upd H1 Tp (.tup [.ref q, .ref r.t])) p2 (.tup (cutV ((kyR r.w r.s).map kV) none (some 2)))) (upd (upd (upd H1 Tp (.tup [.ref q, .ref r.t])) p2 (.tup (cutV ((kyR r.w r.s).map kV) none (some 2)))) p3 (.tup [.int 5, .int wd])) := Kp.new n3
    have e2 : cutV ((kyR r.w r.s).map kV) none (some 2) = [.int 5, .int r.w] := rfl
    refine ⟨dPt (5, r.w), dPt (5, wd), dp_2 (k3.tup (by rw [upd_same, e2])) (.int _) (.int _), dp_2 upd_same (.int _) (.int _), (sd_dPt _).sh (by decide), (sd_dPt _).sh (by decide), _, rfl, ?_⟩
    rw [eqv_pt]
    have k4 := kT.trans ((Kp.new (o := .tup (cutV ((kyR r.w r.s).map kV) none (some 2))) n2).trans k3)
    by_cases e : r.w = wd
    · rw [decide_eq_true e]
      refine iteT ⟨_, rfl, _, rfl, two_le, fun p4 n4 => lcYes (hsz i hi) nD k2 ha hl (k4.trans (Kp.new n4)) ⟨L ++ [(p4, q, r)], by simp, ⟨fun x hx => ?_⟩, ?_⟩⟩
      · have hDt : ∀ {Hx : Hp}, Kp T.cF T.T [] H1 Hx → Kp T.cF T.T [] Hx (upd Hx D (.lst (L.map (fun x => V.ref x.1) ++ [.ref p4]))) ∨ True := fun _ => .inr trivial
        have kD : Kp T.cF T.T [D] _ (upd (upd (upd (upd (upd H1 Tp (.tup [.ref q, .ref r.t])) p2 (.tup (cutV ((kyR r.w r.s).map kV) none (some 2)))) p3 (.tup [.int 5, .int wd])) p4 (.tup [.ref q, .ref r.f])) D (.lst (L.map (fun x => V.ref x.1) ++ [.ref p4]))) := Kp.set ((k4.trans (Kp.new n4)).any ha) (by simp) trivial
        rcases List.mem_append.mp hx with hx | hx
        · exact ((hL.kp (k4.trans (Kp.new n4))).kp kD).row x hx
        · rw [List.mem_singleton.mp hx]
          refine ⟨kD.tup upd_same, kD.tup ((k4.trans (Kp.new n4)).tup hq), ?_⟩
          exact ((hrc r hrm).kp (k2.trans (k4.trans (Kp.new n4)))).2.kp kD
      · rw [List.map_append, hLm, hf, if_pos (decide_eq_true e)]
        rfl
    · rw [decide_eq_false e]
      refine iteF (lcNo k2 ha hl k4 ⟨L, rfl, hL.kp k4, ?_⟩)
      rw [hLm, hf, if_neg (by simpa using e), List.append_nil]
  · rintro H1 ⟨acc, ha, hl, k2, L, rfl, hL, hLm⟩
    rw [hxl, List.take_length] at hLm
    refine ⟨k2.any upd_same, ?_⟩
    have k3 : Kp T.cF T.T [] H (upd H1 cd (.dT (cm.map ent))) := Kp.lock hc.dc trivial k2 (k2.any upd_same)
    have cdD : cd ≠ D := ne_of_none upd_same nD
    have kL : Kp T.cF T.T [cd] H1 (upd H1 cd (.dT (cm.map ent))) := Kp.set (k2.any upd_same) (by simp) trivial
    have hD3 : (upd H1 cd (.dT (cm.map ent))) D = some (.lst (L.map fun x => V.ref x.1)) := kL.at ha (by simpa using cdD.symm)
    have hL3 := hL.kp kL
    refine ⟨_, rfl, D, rfl, ⟨_, SqL.of hD3⟩, fun D2 nD2 => ?_⟩
    have hLl : (L.map fun x => V.ref x.1).length = L.length := List.length_map _
    have hLl2 : L.length ≤ cm.length := by
      have := congrArg List.length hLm
      rw [List.length_map] at this
      rw [this]
      exact List.length_filter_le _ _
    refine lc_it (walk_list (K := K) (a := D) (xs := L.map fun x => V.ref x.1)) (LcP T.cF T.T (upd H1 cd (.dT (cm.map ent))) D2 fun i acc H' => acc = ((((L.map (·.2.2)).take i).filter fun r => decide (0 < r.F.count)).map (·.s)).map V.int) (lc0 nD2 rfl)
      (fun i H' _ ⟨acc, _, _, k4, _⟩ => k4.lst (SqL.of hD3)) ?_ ?_
    · rintro i x H2 H4 hi ⟨acc, ha4, hl4, k4, rfl⟩ ⟨rfl, ex⟩
      rw [hLl] at hi
      obtain ⟨⟨p, q, r⟩, hx⟩ : ∃ x, L[i]? = some x := ⟨_, List.getElem?_eq_getElem hi⟩
      have ex : x = .ref p := mapGet (f := fun x : Addr × Addr × Rc => V.ref x.1) (z := (p, q, r)) ex hx
      subst ex
      obtain ⟨h1, h2, h3⟩ := (hL3.kp k4).row _ (List.mem_of_getElem? hx)
      obtain ⟨dz, v1, v2, h4, _⟩ := h3
      have hx2 : (L.map (·.2.2))[i]? = some r := by rw [List.getElem?_map, hx]; rfl
      have hf := filter_snoc (p := fun r : Rc => decide (0 < r.F.count)) hx2
      refine ⟨p, _, rfl, SqT.of h1, rfl, _, _, rfl, ⟨q, _, rfl, SqT.of h2, rfl, _, _, rfl, _, _, rfl, _, _, rfl, rfl, _, _, rfl, rfl, rfl, ?_⟩⟩
      refine ⟨_, rfl, r.f, dz, _, _, rfl, h4, lk_count _ _ _, _, _, rfl, rfl, _, rfl, ?_⟩
      refine ite2 (fun e => ?_) (fun e => ?_)
      · refine ⟨_, rfl, lcYes (hsz i (Nat.lt_of_lt_of_le hi hLl2)) nD2 k4 ha4 hl4 (Kp.refl _) ?_⟩
        rw [hf, if_pos e, List.map_append, List.map_append]
        rfl
      · refine lcNo k4 ha4 hl4 (Kp.refl _) ?_
        rw [hf, if_neg e, List.append_nil]
    · rintro H2 ⟨acc, ha4, hl4, k4, rfl⟩
      rw [hLl, List.take_of_length_le (by simp), hLm] at ha4
      refine ⟨D2, _, rfl, SqL.of ha4, fun ys p hp hs np => ?_⟩
      have nd := nd_same hc.nd wd fun r => decide (0 < r.F.count)
      refine k _ p ys (k3.trans (k4.trans (Kp.new np))) upd_same (up_of hs (hp.nodup_iff.mpr nd)) (fun z => ?_) ?_
      · rw [hp.mem_iff]
        simp only [List.mem_map, List.mem_filter, decide_eq_true_eq]
        constructor
        · rintro ⟨r, ⟨⟨h1, h2⟩, h3⟩, h4⟩
          exact ⟨r, h1, h2, h4, h3⟩
        · rintro ⟨r, h1, h2, h3, h4⟩
          exact ⟨r, ⟨⟨h1, h2⟩, h4⟩, h3⟩
      · rw [hp.length_eq, List.length_map]
        exact Nat.le_trans (List.length_filter_le _ _) (List.length_filter_le _ _)
end
end Tg
/-! TgG4 -/
set_option Elab.async false
set_option linter.all false
set_option maxRecDepth 100000
set_option maxHeartbeats 4000000
/-! Grains.whole_of -/
namespace Tg
open PySem PySem.Spec PyProof.Rows L2 LamX NdefX TgM
section
variable {X : Cx}
theorem swd_true {kx vx : Expr} {gs : List Comprehension} {scope : Scope} {pos py : Pos} {y : Str} {l : Nat} {env : Env} (hk : env.scope.kind = .function) (hy : env.scope.names.lookup y = some .local) (hl : (py.line == pos.line) = true)
    (ha : (scope.names.any fun (n, k) => n == y && (k == .local || k == .cell)) = false) : swapsWith (.DictComp kx vx gs scope pos) (some (.Name y py)) l env = pure true := by
  have ky : env.kindOf y = some .local := hy
  have hb : env.blockKind = .function := by unfold Env.blockKind; rw [hk]; rfl
  unfold swapsWith
  simp only [hb, ky, ha, Expr.pos, hl]
  rfl
/-- name = {..} on one line, the name a local -/
theorem ps_setDc {i : Nat} {y : Str} {py : Pos} {kx vx tg iter : Expr} {ifs : List Expr} {scope : Scope} {own : List (Str × Nat)} {pos spos : Pos} {wi : TI} {g : TG} {tt : TT} {tk tv : TE} (hc : X.calm = true) (hN : X.N.Nodup) (hy : X.N[i]? = some y) (hyl : X.env.scope.names.lookup y = some .local)
    (hsw : swapsWith (.DictComp kx vx [⟨tg, iter, ifs, 0⟩] scope pos) (some (.Name y py)) spos.line X.env = pure true) (hi : PI X tg iter wi) (ok : BlkOk X.N X.env.scope scope own)
    (hg : ∀ (s : Shared) (H : Hp) (C : Addr) (cl : List (Str × Addr)) (fp : List Addr), PG (X.blk s H scope (compEnvC scope cl C X.env) fp) tg g) (ht : ∀ (s : Shared) (H : Hp) (C : Addr) (cl : List (Str × Addr)) (fp : List Addr), PTs (X.blk s H scope (compEnvC scope cl C X.env) fp) ifs tt)
    (hk : ∀ (s : Shared) (H : Hp) (C : Addr) (cl : List (Str × Addr)) (fp : List Addr), PE (X.blk s H scope (compEnvC scope cl C X.env) fp) kx tk)
    (he : ∀ (s : Shared) (H : Hp) (C : Addr) (cl : List (Str × Addr)) (fp : List Addr), PE (X.blk s H scope (compEnvC scope cl C X.env) fp) vx tv) (hs : ∀ x, foldedSetIterable iter X.env x = pure x := by intro _; rfl) :
    PS X (.Assign [.Name y py] (.DictComp kx vx [⟨tg, iter, ifs, 0⟩] scope pos) spos) (tAsg (tDc wi g tt tk tv (own.map (·.2))) (gName i)) := by
  refine ⟨fun pins s σ H D I h => ?_⟩
  rw [exec_Assign_Name_used _ _ _ _ hsw]
  refine wpAny_bind (wpAny_standAt (wpAny_bind ?_))
  show wpAny _ X.A (do let _ ← comprehension (.DictComp kx vx [⟨tg, iter, ifs, 0⟩] scope pos) scope X.env (firstIterPos [⟨tg, iter, ifs, 0⟩] pos) newDict false (eval iter X.env) (some (assign (.Name y py) X.env))) _ _ s
  have h : tDc wi g tt tk tv (own.map (·.2)) σ H (fun x H1 => gName i x σ H1 D.nx) := h
  refine wpAny_bind (thn (dc_core (Qf := fun _ s' => SP X pins D .next s') hc hN I hi ok hg ht hk he hs h fun L C s' m H' I' q hn f => ?_) fun _ s' hq => wpAny_pure (wpAny_pure hq))
  show wpAny _ _ (assign (.Name y py) X.env (.ref L)) _ _ _
  refine wpAny_assign_Name (store_ok2 (v := V.ref L) I' hN hy (.inl hyl) rfl (fun s2 I2 ⟨a, sb, ha⟩ => ?_) (.inr hyl))
  obtain ⟨f0, f1, f2, f3, f4, f5⟩ := f
  have haC : C ≠ a := by
    rcases ha with z | z
    · rw [z]; exact f1
    · exact fun e => f4 y a z e.symm
  refine ⟨m, hn.sameBut sb haC, fun h3 sb3 => ?_⟩
  exact ⟨_, H', I2.turned (t' := s2.toks) (fun b o hb e => (sb3.2 b hb).trans e) f0 f1 f3 f4 f5, q⟩
end
/-! ### dicts with int keys, by meaning -/
structure FD (acc : List (Key × V)) (S : Int → V → Prop) (N : Int → Prop) : Prop where
  ks : ∃ ks, IntK acc ks ∧ ks.Nodup ∧ ∀ z, N z → z ∈ ks
  snd : ∀ z v, valV acc (Sum.inl z : Key) = some v → S z v
theorem FD.nil {S : Int → V → Prop} {N : Int → Prop} (h : ∀ z, ¬ N z) : FD [] S N := ⟨⟨[], rfl, by simp, fun z q => absurd q (h z)⟩, fun z v e => by cases e⟩
theorem intK_put {acc : List (Key × V)} {ks : List Int} (h : IntK acc ks) (nd : ks.Nodup) (z : Int) (v : V) : ∃ ks', IntK (putK acc (Sum.inl z) v) ks' ∧ ks'.Nodup ∧ ∀ y, y ∈ ks' ↔ y ∈ ks ∨ y = z := by
  by_cases hz : z ∈ ks
  · exact ⟨ks, putK_has h hz v, nd, fun y => ⟨.inl, fun q => q.elim id fun e => e ▸ hz⟩⟩
  · refine ⟨ks ++ [z], ?_, ?_, fun y => by simp⟩
    · rw [putK_not h hz]
      unfold IntK at h ⊢
      rw [List.map_append, h, List.map_append]
      rfl
    · rw [List.nodup_append]
      exact ⟨nd, by simp, fun x hx y hy e => hz (by rw [List.mem_singleton.mp hy] at e; exact e ▸ hx)⟩
theorem FD.put {acc : List (Key × V)} {S : Int → V → Prop} {N N' : Int → Prop} (h : FD acc S N) {z : Int} {v : V} (hs : S z v) (hn : ∀ y, N' y → N y ∨ y = z) : FD (putK acc (Sum.inl z) v) S N' := by
  obtain ⟨⟨ks, h1, h2, h3⟩, h4⟩ := h
  obtain ⟨ks', a1, a2, a3⟩ := intK_put h1 h2 z v
  refine ⟨⟨ks', a1, a2, fun y hy => (a3 y).mpr ((hn y hy).imp (h3 y) id)⟩, fun y u e => ?_⟩
  rw [valV_put] at e
  split at e
  · rename_i q
    cases Sum.inl.inj q
    cases e
    exact hs
  · exact h4 y u e
theorem FD.mono {acc : List (Key × V)} {S S' : Int → V → Prop} {N N' : Int → Prop} (h : FD acc S N) (hs : ∀ z v, S z v → S' z v) (hn : ∀ z, N' z → N z) : FD acc S' N' :=
  let ⟨⟨ks, h1, h2, h3⟩, h4⟩ := h
  ⟨⟨ks, h1, h2, fun z q => h3 z (hn z q)⟩, fun z v e => hs z v (h4 z v e)⟩
theorem val_merge : ∀ (b a : List (Key × V)), (b.map (·.1)).Nodup → ∀ k, valV (mergeK a b) k = match valV b k with
    | some v => some v
    | none => valV a k
  | [], a, _, k => rfl
  | p :: r, a, h, k => by
    rw [List.map_cons, List.nodup_cons] at h
    show valV (mergeK (putK a p.1 p.2) r) k = _
    rw [val_merge r _ h.2 k, valV_put]
    by_cases e : p.1 = k
    · subst e
      have : valV r p.1 = none := by
        cases q : valV r p.1 with
        | none => rfl
        | some v => exact absurd (valV_in q) h.1
      rw [this, valV_pos rfl, if_pos rfl]
    · rw [valV_neg e, if_neg fun z => e z.symm]
theorem intK_merge : ∀ (b a : List (Key × V)) (kb ka : List Int), IntK a ka → ka.Nodup → IntK b kb → ∃ kc, IntK (mergeK a b) kc ∧ kc.Nodup ∧ ∀ y, y ∈ kc ↔ y ∈ ka ∨ y ∈ kb
  | [], a, kb, ka, ha, na, hb => by
    have : kb = [] := by
      unfold IntK at hb
      simpa using hb.symm
    subst this
    exact ⟨ka, ha, na, fun y => by simp⟩
  | p :: r, a, kb, ka, ha, na, hb => by
    unfold IntK at hb
    cases kb with
    | nil => simp at hb
    | cons z kb =>
      rw [List.map_cons, List.map_cons] at hb
      have e1 : p.1 = Sum.inl z := (List.cons.inj hb).1
      have e2 : IntK r kb := (List.cons.inj hb).2
      obtain ⟨k1, a1, a2, a3⟩ := intK_put ha na z p.2
      obtain ⟨kc, b1, b2, b3⟩ := intK_merge r (putK a (Sum.inl z) p.2) kb k1 a1 a2 e2
      refine ⟨kc, ?_, b2, fun y => ?_⟩
      · show IntK (mergeK (putK a p.1 p.2) r) kc
        rw [e1]
        exact b1
      · rw [b3, a3, List.mem_cons]
        constructor
        · rintro ((h | h) | h)
          · exact .inl h
          · exact .inr (.inl h)
          · exact .inr (.inr h)
        · rintro (h | h | h)
          · exact .inl (.inl h)
          · exact .inl (.inr h)
          · exact .inr h
theorem FD.merge {a b : List (Key × V)} {S S' : Int → V → Prop} {N N' : Int → Prop} (h : FD a S N) (h' : FD b S' N') : FD (mergeK a b) (fun z v => S' z v ∨ (S z v ∧ ¬ N' z)) (fun z => N z ∨ N' z) := by
  obtain ⟨⟨ka, a1, a2, a3⟩, a4⟩ := h
  obtain ⟨⟨kb, b1, b2, b3⟩, b4⟩ := h'
  obtain ⟨kc, c1, c2, c3⟩ := intK_merge b a kb ka a1 a2 b1
  have nb : (b.map (·.1)).Nodup := by
    rw [b1]
    exact List.Pairwise.map _ (fun x y hxy e => hxy (Sum.inl.inj e)) b2
  refine ⟨⟨kc, c1, c2, fun z q => (c3 z).mpr (q.imp (a3 z) (b3 z))⟩, fun z v e => ?_⟩
  rw [val_merge b a nb] at e
  cases q : valV b (Sum.inl z : Key) with
  | some u =>
    rw [q] at e
    cases e
    exact .inl (b4 z _ q)
  | none =>
    rw [q] at e
    refine .inr ⟨a4 z v e, fun n => ?_⟩
    obtain ⟨u, hu⟩ := valV_some b1 (b3 z n)
    rw [q] at hu
    cases hu
theorem FD.kk {acc : List (Key × V)} {S : Int → V → Prop} {N : Int → Prop} (h : FD acc S N) : ∃ ks, IntK acc ks ∧ ks.Nodup ∧ (∀ z, N z → z ∈ ks) ∧ ∀ z ∈ ks, ∃ v, valV acc (Sum.inl z : Key) = some v ∧ S z v := by
  obtain ⟨⟨ks, a1, a2, a3⟩, a4⟩ := h
  exact ⟨ks, a1, a2, a3, fun z hz => let ⟨v, e⟩ := valV_some a1 hz; ⟨v, e, a4 z v e⟩⟩
/-! ### what is renewed -/
structure Rn where
  w : Int
  s : Int
  F : Fd
  f : Addr
def kyN (w s : Int) : List Key := [.inl w, .inl s]
def entN (r : Rn) : List Key × V := (kyN r.w r.s, .ref r.f)
structure RnAt (C : Addr) (H : Hp) (rd : Addr) (rn : List Rn) : Prop where
  dc : H rd = some (.dT (rn.map entN))
  fl : ∀ r ∈ rn, FoldAt C H r.f r.F
  ln : rn.length ≤ 10000
theorem RnAt.kp {C : Addr} {T : List (Addr × Str)} {M : List Addr} {H H' : Hp} {rd : Addr} {rn : List Rn} (k : Kp C T M H H') (hm : rd ∉ M) (h : RnAt C H rd rn) : RnAt C H' rd rn := ⟨k.at h.dc hm, fun r hr => (h.fl r hr).kp k, h.ln⟩
theorem kn_at {rn : List Rn} {i : Nat} {k : List Key} {v : V} {r : Rn} (hr : rn[i]? = some r) (e : (rn.map entN)[i]? = some (k, v)) : k = kyN r.w r.s ∧ v = .ref r.f := by
  rw [List.getElem?_map, hr] at e
  have := Option.some.inj e
  exact ⟨(Prod.mk.inj this).1.symm, (Prod.mk.inj this).2.symm⟩
theorem FoldAt.frz {C : Addr} {H : Hp} {f : Addr} {F : Fd} {x : Addr} {u o : HO} (h : H x = some u) (h1 : ∀ xs, u ≠ .tup xs) (h2 : ∀ dx fs, u ≠ .ins C dx fs) (k : FoldAt C H f F) : FoldAt C (upd H x o) f F := by
  obtain ⟨dx, v1, v2, k2, k3, k4⟩ := k
  have ne : ∀ b xs, H b = some (.tup xs) → b ≠ x := fun b xs e z => by
    rw [z, h] at e
    exact h1 xs (Option.some.inj e)
  have pv : ∀ {o' : Option Pt} {v : V}, PtV H v o' → PtV (upd H x o) v o' := fun {o' v} q => by
    cases o' with
    | none => exact q
    | some p =>
      obtain ⟨a, e, q⟩ := q
      exact ⟨a, e, by rw [upd_ne (ne _ _ q)]; exact q⟩
  refine ⟨dx, v1, v2, ?_, pv k3, pv k4⟩
  rw [upd_ne fun z => ?_]
  · exact k2
  · rw [z, h] at k2
    exact h2 _ _ (Option.some.inj k2)
section
variable {P : Program} {w : World} {K : PySem.W.Frag} {mg : Str → Option Value} {base : Heap}
/-- the finer cells within are those of the table -/
structure Fin (cm : List Rc) (rn : List Rn) (tb : List Pt) (fi st en : Int) : Prop where
  pos : 0 < fi
  ds : fi ∣ st
  de : fi ∣ en
  srt : Srt tb
  bd : Bd tb
  inC : ∀ r ∈ cm, r.w = fi → st ≤ r.s → r.s < en → (∀ q ∈ rn, ¬ (q.w = fi ∧ q.s = r.s)) → fi ∣ r.s ∧ r.F = fo (pin tb r.s (r.s + fi))
  inN : ∀ r ∈ rn, r.w = fi → st ≤ r.s → r.s < en → fi ∣ r.s ∧ r.F = fo (pin tb r.s (r.s + fi))
  cov : ∀ p ∈ tb, st ≤ p.1 → p.1 < en → (∃ r ∈ cm, r.w = fi ∧ r.s = cel p.1 fi) ∨ ∃ r ∈ rn, r.w = fi ∧ r.s = cel p.1 fi
def sp_whole_of (T : Ev K mg base) : Sp := fun vs H Q _ => ∃ (g wt cd ed rd : Addr) (b : Bool) (ws : List Int) (cm : List Rc) (rn : List Rn) (tb : List Pt) (fi st en : Int), vs = [.ref g, .int 5, .int fi, .int st, .int en, .ref rd] ∧ Gr T.cG T.cF H g wt cd ed b ws cm ∧ RnAt T.cF H rd rn ∧
  Fin cm rn tb fi st en ∧ Tabs T.T H ∧ ∀ H' x, Kp T.cF T.T [] H H' → FoldAt T.cF H' x (fo (pin tb st en)) → Q (.ref x) H'
theorem sc_whole_of : FnScope ["self", "place", "finer", "start", "end", "renewed", "rows", "folds", "whole", "at", "key", "fold", "since", "series", "wide"] ["self", "place", "finer", "start", "end", "renewed"] (defScope s_whole_of) := ⟨rfl, rfl, rfl, by decide +kernel, rfl, by decide +kernel, by decide +kernel⟩
theorem m_whole_of (T : Ev K mg base) : C8.Met P w K mg base 5 T.cG "whole_of" (sp_whole_of T) [] := by
  refine metD T.clG T.e_whole_of sc_whole_of (fun _ _ _ _ _ _ us hl => match us, hl with | [_, _, _, _, _, _], _ => rfl) (fun vs H Q E h => by obtain ⟨_, _, _, _, _, _, _, _, _, _, _, _, _, rfl, _⟩ := h; rfl) (fun f cdv A outer s H vs Q E hr h => ?_)
  obtain ⟨g, wt, cd, ed, rd, b, ws, cm, rn, tb, fi, st, en, rfl, hG, hR, hF, hTb, k⟩ := h
  obtain ⟨⟨dx, hg⟩, hw, hc, wok⟩ := id hG
  have hu := hu_of hr
  refine ⟨_, (pss_cons (ps_lock (ps_setLc (i := 6) (own := [("key", 10), ("fold", 11), ("since", 12)]) rfl sc_whole_of.nd rfl rfl (sw_true rfl rfl rfl (by decide +kernel)) (TgI.pi_itemsT (pe_fldC T.clG (T.naG _ (by decide)) (pv 0))) (blkOk_by (own := [("key", 10), ("fold", 11), ("since", 12)]) (N := ["self", "place", "finer", "start", "end", "renewed", "rows", "folds", "whole", "at", "key", "fold", "since", "series", "wide"]) (sc := defScope s_whole_of) (by decide +kernel)) (fun _ _ _ _ _ => (pgT (K := K) (n := 2) rfl rfl (pgs_cons (pg_name (i := 10) sc_whole_of.nd rfl (Or.inl rfl)) (pgs_cons (pgT (K := K) (n := 2) rfl rfl (pgs_cons (pg_name (i := 11) sc_whole_of.nd rfl (Or.inl rfl)) (pgs_cons (pg_name (i := 12) sc_whole_of.nd rfl (Or.inl rfl)) pgs_nil))) pgs_nil)))) (fun _ _ _ _ _ => (pts_one (pt_cmpR (eqDK (K := K) rfl hr.units) (pe_slice (slTK (K := K) rfl) (pv 10) po_none (po_some pe_int)) (pe_tup (pa_cons (pv 1) (pa_cons (pv 2) pa_nil))) (nomark _)))) (fun _ _ _ _ _ => (pe_tup (pa_cons (pv 10) (pa_cons (pv 11) pa_nil))))))
      (pss_cons (ps_setDc (i := 7) (own := [("series", 13), ("wide", 14), ("at", 9), ("fold", 11)]) rfl sc_whole_of.nd rfl rfl (swd_true rfl rfl rfl (by decide +kernel)) (pi_list (pv 6)) (blkOk_by (own := [("series", 13), ("wide", 14), ("at", 9), ("fold", 11)]) (N := ["self", "place", "finer", "start", "end", "renewed", "rows", "folds", "whole", "at", "key", "fold", "since", "series", "wide"]) (sc := defScope s_whole_of) (by decide +kernel)) (fun _ _ _ _ _ => (pgT (K := K) (n := 2) rfl rfl (pgs_cons (pgT (K := K) (n := 3) rfl rfl (pgs_cons (pg_name (i := 13) sc_whole_of.nd rfl (Or.inl rfl)) (pgs_cons (pg_name (i := 14) sc_whole_of.nd rfl (Or.inl rfl)) (pgs_cons (pg_name (i := 9) sc_whole_of.nd rfl (Or.inl rfl)) pgs_nil)))) (pgs_cons (pg_name (i := 11) sc_whole_of.nd rfl (Or.inl rfl)) pgs_nil)))) (fun _ _ _ _ _ => (pts_one (pt_chain op_le op_lt (pv 3) (pv 9) (pv 4)))) (fun _ _ _ _ _ => (pv 9)) (fun _ _ _ _ _ => (pv 11)))
      (pss_cons (ps_expr (pe_bm PySem.F.plainAttrs_dict PySem.F.slot_dict_update PySem.F.type_dict_update TgS.mt_updD (pv 7) (pa_cons (pe_lock (pe_dc (own := [("wide", 14), ("at", 9), ("fold", 11)]) rfl sc_whole_of.nd (TgI.pi_itemsT (pv 5)) (blkOk_by (own := [("wide", 14), ("at", 9), ("fold", 11)]) (N := ["self", "place", "finer", "start", "end", "renewed", "rows", "folds", "whole", "at", "key", "fold", "since", "series", "wide"]) (sc := defScope s_whole_of) (by decide +kernel)) (fun _ _ _ _ _ => (pgT (K := K) (n := 2) rfl rfl (pgs_cons (pgT (K := K) (n := 2) rfl rfl (pgs_cons (pg_name (i := 14) sc_whole_of.nd rfl (Or.inl rfl)) (pgs_cons (pg_name (i := 9) sc_whole_of.nd rfl (Or.inl rfl)) pgs_nil))) (pgs_cons (pg_name (i := 11) sc_whole_of.nd rfl (Or.inl rfl)) pgs_nil)))) (fun _ _ _ _ _ => (pts_one (PW.pt (pw_and (pt_cmpR op_eq (pv 14) (pv 2) (nomark _)) (pw_and1 (pt_chain op_le op_lt (pv 3) (pv 9) (pv 4))))))) (fun _ _ _ _ _ => (pv 9)) (fun _ _ _ _ _ => (pv 11)))) pa_nil)))
      (pss_cons (ps_set (i := 8) sc_whole_of.nd rfl (Or.inl rfl) (pe_F0 T (hr.mono (by decide)) (by rfl)))
      (pss_cons (ps_for PassesOwn.never rfl (pi_list (pe_callB (call_sortedDA rfl) (by rfl) T.b_sorted (by decide +kernel) (pa_cons (pv 7) pa_nil))) (pg_name (i := 9) sc_whole_of.nd rfl (Or.inl rfl))
        (pss_one (ps_set (i := 8) sc_whole_of.nd rfl (Or.inl rfl) (C8.pe_c (c_together T) hr (by decide) rfl (pa_cons (pv 8) (pa_cons (pe_dget hu (pv 7) (pv 9) (fun _ _ => rfl)) pa_nil))))))
      (pss_one (ps_ret (pv 8)))))))), ?_⟩
  refine ⟨cd, _, hc.dc, trivial, fun od => ?_⟩
  have gcd : g ≠ cd := fun z => by rw [z, hc.dc] at hg; cases hg
  have hg1 : (upd H cd (.frz od (.dT (cm.map ent)))) g = some (.ins T.cG dx (gFs wt cd ed b)) := by rw [upd_ne gcd]; exact hg
  refine ⟨_, rfl, g, dx, _, _, rfl, hg1, lk_cells _ _ _ _, cd, od, _, rfl, upd_same, fun D nD => ?_⟩
  have hrc : ∀ r ∈ cm, RcOk T.cF (upd H cd (.frz od (.dT (cm.map ent)))) r := fun r h => (hc.rc r h).frz hc.dc (fun _ z => by cases z) (fun _ _ z => by cases z)
  have hln := hc.ln
  have hxl : (cm.map ent).length = cm.length := List.length_map _
  have hsz : ∀ i, i < cm.length → i < sizeLine := fun i h => Nat.lt_of_lt_of_le h (Nat.le_trans hln (by decide))
  refine lc_it (TgI.walk_itemsT (d := cd) (o := od) (kvs := cm.map ent)) (LcP T.cF T.T (upd H cd (.frz od (.dT (cm.map ent)))) D fun i acc H' => ∃ L : List (Addr × Addr × Rc), acc = L.map (fun x => V.ref x.1) ∧ RowsAt T.cF H' L ∧ L.map (·.2.2) = (cm.take i).filter fun r => decide (r.w = fi))
    (lc0 nD ⟨[], rfl, ⟨fun x hx => by simp at hx⟩, rfl⟩) (fun i H' _ ⟨acc, _, _, k2, _⟩ => k2.any upd_same) ?_ ?_
  · rintro i x H1 H2 hi ⟨acc, ha, hl, k2, L, rfl, hL, hLm⟩ ⟨Tp, kk, v, q, hkv, rfl, nT, hq, rfl⟩
    rw [hxl] at hi
    obtain ⟨r, hr1⟩ : ∃ r, cm[i]? = some r := ⟨_, List.getElem?_eq_getElem hi⟩
    obtain ⟨rfl, rfl⟩ := ky_at hr1 hkv
    have hrm := List.mem_of_getElem? hr1
    have kT : Kp T.cF T.T [] H1 (upd H1 Tp (.tup [.ref q, .ref r.t])) := Kp.new nT
    obtain ⟨hrt, hrF⟩ := ((hrc r hrm).kp k2).kp kT
    have hf := filter_snoc (p := fun r : Rc => decide (r.w = fi)) hr1
    refine ⟨Tp, _, rfl, SqT.of upd_same, rfl, _, _, rfl, _, _, rfl, r.t, _, rfl, SqT.of hrt, rfl, _, _, rfl, _, _, rfl, rfl, rfl, rfl, ?_⟩
    refine ⟨_, rfl, 2, rfl, q, _, rfl, SqT.of (kT.tup hq), (fun z => absurd z.2 (by show ¬ HT.sIx 3 3 (some 2) = 3; decide)), fun _ p2 n2 => ?_⟩
    refine ⟨_, rfl, _, rfl, two_le, fun p3 n3 => ?_⟩
    have k3 : Kp T.cF T.T [] (upd (upd H1 Tp (.tup [.ref q, .ref r.t])) p2 (.tup (cutV ((kyR r.w r.s).map kV) none (some 2)))) (upd (upd (upd H1 Tp (.tup [.ref q, .ref r.t])) p2 (.tup (cutV ((kyR r.w r.s).map kV) none (some 2)))) p3 (.tup [.int 5, .int fi])) := Kp.new n3
    have e2 : cutV ((kyR r.w r.s).map kV) none (some 2) = [.int 5, .int r.w] := rfl
    refine ⟨dPt (5, r.w), dPt (5, fi), dp_2 (k3.tup (by rw [upd_same, e2])) (.int _) (.int _), dp_2 upd_same (.int _) (.int _), (sd_dPt _).sh (by decide), (sd_dPt _).sh (by decide), _, rfl, ?_⟩
    rw [eqv_pt]
    have k4 := kT.trans ((Kp.new (o := .tup (cutV ((kyR r.w r.s).map kV) none (some 2))) n2).trans k3)
    by_cases e : r.w = fi
    · rw [decide_eq_true e]
      refine iteT ⟨_, rfl, _, rfl, two_le, fun p4 n4 => lcYes (hsz i hi) nD k2 ha hl (k4.trans (Kp.new n4)) ⟨L ++ [(p4, q, r)], by simp, ⟨fun x hx => ?_⟩, ?_⟩⟩
      · have kD : Kp T.cF T.T [D] _ (upd (upd (upd (upd (upd H1 Tp (.tup [.ref q, .ref r.t])) p2 (.tup (cutV ((kyR r.w r.s).map kV) none (some 2)))) p3 (.tup [.int 5, .int fi])) p4 (.tup [.ref q, .ref r.f])) D (.lst (L.map (fun x => V.ref x.1) ++ [.ref p4]))) := Kp.set ((k4.trans (Kp.new n4)).any ha) (by simp) trivial
        rcases List.mem_append.mp hx with hx | hx
        · exact ((hL.kp (k4.trans (Kp.new n4))).kp kD).row x hx
        · rw [List.mem_singleton.mp hx]
          refine ⟨kD.tup upd_same, kD.tup ((k4.trans (Kp.new n4)).tup hq), ?_⟩
          exact ((hrc r hrm).kp (k2.trans (k4.trans (Kp.new n4)))).2.kp kD
      · rw [List.map_append, hLm, hf, if_pos (decide_eq_true e)]
        rfl
    · rw [decide_eq_false e]
      refine iteF (lcNo k2 ha hl k4 ⟨L, rfl, hL.kp k4, ?_⟩)
      rw [hLm, hf, if_neg (by simpa using e), List.append_nil]
  · rintro H1 ⟨acc, ha, hl, k2, L, rfl, hL, hLm⟩
    rw [hxl, List.take_length] at hLm
    refine ⟨k2.any upd_same, ?_⟩
    have k3 : Kp T.cF T.T [] H (upd H1 cd (.dT (cm.map ent))) := Kp.lock hc.dc trivial k2 (k2.any upd_same)
    have cdD : cd ≠ D := ne_of_none upd_same nD
    have kL : Kp T.cF T.T [cd] H1 (upd H1 cd (.dT (cm.map ent))) := Kp.set (k2.any upd_same) (by simp) trivial
    have hD3 : (upd H1 cd (.dT (cm.map ent))) D = some (.lst (L.map fun x => V.ref x.1)) := kL.at ha (by simpa using cdD.symm)
    have hL3 := hL.kp kL
    have hrd3 := hR.kp k3 (by simp)
    generalize upd H1 cd (.dT (cm.map ent)) = Ha at k3 hD3 hL3 hrd3 ⊢
    have hLl : (L.map fun x => V.ref x.1).length = L.length := List.length_map _
    have hLl2 : L.length ≤ cm.length := by
      have := congrArg List.length hLm
      rw [List.length_map] at this
      rw [this]
      exact List.length_filter_le _ _
    have hLin : ∀ x ∈ L, x.2.2 ∈ cm ∧ x.2.2.w = fi := fun x hx => by
      have : x.2.2 ∈ L.map (·.2.2) := List.mem_map.mpr ⟨x, hx, rfl⟩
      rw [hLm, List.mem_filter] at this
      exact ⟨this.1, of_decide_eq_true this.2⟩
    refine ⟨_, rfl, D, rfl, ⟨_, SqL.of hD3⟩, fun D2 nD2 => ?_⟩
    refine dc_it (walk_list (K := K) (a := D) (xs := L.map fun x => V.ref x.1)) (DcP T.cF T.T Ha D2 fun i acc H' => FD acc (fun z v => ∃ r ∈ cm, r.w = fi ∧ r.s = z ∧ v = .ref r.f ∧ st ≤ z ∧ z < en) (fun z => ∃ x ∈ L.take i, x.2.2.s = z ∧ st ≤ z ∧ z < en)) (dc0 nD2 (.nil (by simp)))
      (fun i H' _ ⟨acc, _, _, k4, _⟩ => k4.lst (SqL.of hD3)) ?_ ?_
    · rintro i x H2 H4 hi ⟨acc, ha4, hl4, k4, hfd⟩ ⟨rfl, ex⟩
      rw [hLl] at hi
      obtain ⟨⟨p, q, r⟩, hx⟩ : ∃ x, L[i]? = some x := ⟨_, List.getElem?_eq_getElem hi⟩
      have ex : x = .ref p := mapGet (f := fun x : Addr × Addr × Rc => V.ref x.1) (z := (p, q, r)) ex hx
      subst ex
      obtain ⟨h1, h2, h3⟩ := (hL3.kp k4).row _ (List.mem_of_getElem? hx)
      obtain ⟨c1, c2⟩ := hLin _ (List.mem_of_getElem? hx)
      have hts := take_snoc hx
      have hno : ¬ (st ≤ r.s ∧ r.s < en) → FD acc (fun z v => ∃ r ∈ cm, r.w = fi ∧ r.s = z ∧ v = .ref r.f ∧ st ≤ z ∧ z < en) (fun z => ∃ x ∈ L.take (i + 1), x.2.2.s = z ∧ st ≤ z ∧ z < en) := fun hn => hfd.mono (fun _ _ q => q) fun z ⟨x, hx, e1, e2, e3⟩ => by
        rw [hts, List.mem_append] at hx
        rcases hx with hx | hx
        · exact ⟨x, hx, e1, e2, e3⟩
        · rw [List.mem_singleton.mp hx] at e1
          have e1 : r.s = z := e1
          exact absurd ⟨by omega, by omega⟩ hn
      refine ⟨p, _, rfl, SqT.of h1, rfl, _, _, rfl, ⟨q, _, rfl, SqT.of h2, rfl, _, _, rfl, _, _, rfl, _, _, rfl, rfl, _, _, rfl, rfl, rfl, ?_⟩⟩
      refine ⟨_, rfl, _, rfl, _, _, rfl, rfl, _, rfl, ?_⟩
      refine ite2 (fun e => ?_) (fun e => ?_)
      · refine ⟨_, rfl, _, _, rfl, rfl, _, rfl, ?_⟩
        refine ite2 (fun e' => ?_) (fun e' => dcNo k4 ha4 hl4 (Kp.refl _) (hno fun z => e' (decide_eq_true z.2)))
        have e := of_decide_eq_true e
        have e' := of_decide_eq_true e'
        refine ⟨_, rfl, _, rfl, dcYes (k := Sum.inl r.s) (hsz i (Nat.lt_of_lt_of_le hi hLl2)) nD2 k4 ha4 hl4 (Kp.refl _) (hfd.put ⟨r, c1, c2, rfl, rfl, e, e'⟩ fun z ⟨x, hx, e1, e2, e3⟩ => ?_)⟩
        rw [hts, List.mem_append] at hx
        rcases hx with hx | hx
        · exact .inl ⟨x, hx, e1, e2, e3⟩
        · rw [List.mem_singleton.mp hx] at e1
          exact .inr e1.symm
      · refine ⟨_, rfl, iteF (dcNo k4 ha4 hl4 (Kp.refl _) (hno fun z => e (decide_eq_true z.1)))⟩
    · rintro H2 ⟨acc, ha4, hl4, k4, hfd⟩
      rw [hLl, List.take_length] at hfd
      rw [hLl] at hl4
      have hrd4 := hrd3.kp k4 (by simp)
      refine ⟨_, rfl, .inr (.inr (.inl ⟨rfl, .inl ⟨_, ha4⟩⟩)), ?_⟩
      refine ⟨rd, _, hrd4.dc, trivial, fun od2 => ?_⟩
      have hnl := hrd4.ln
      have hnx : (rn.map entN).length = rn.length := List.length_map _
      have hfl : ∀ r ∈ rn, FoldAt T.cF (upd H2 rd (.frz od2 (.dT (rn.map entN)))) r.f r.F := fun r h => (hrd4.fl r h).frz hrd4.dc (fun _ z => by cases z) (fun _ _ z => by cases z)
      refine ⟨_, rfl, rd, od2, _, rfl, upd_same, fun D3 nD3 => ?_⟩
      refine dc_it (TgI.walk_itemsT (d := rd) (o := od2) (kvs := rn.map entN)) (DcP T.cF T.T (upd H2 rd (.frz od2 (.dT (rn.map entN)))) D3 fun i acc H' => FD acc (fun z v => ∃ r ∈ rn, r.w = fi ∧ r.s = z ∧ v = .ref r.f ∧ st ≤ z ∧ z < en) (fun z => ∃ r ∈ rn.take i, r.w = fi ∧ r.s = z ∧ st ≤ z ∧ z < en)) (dc0 nD3 (.nil (by simp)))
        (fun i H' _ ⟨acc, _, _, k5, _⟩ => k5.any upd_same) ?_ ?_
      · rintro i x H4 H5 hi ⟨acc5, ha5, hl5, k5, hfd5⟩ ⟨Tp, kk, v, q, hkv, rfl, nT, hq, rfl⟩
        rw [hnx] at hi
        obtain ⟨r, hr1⟩ : ∃ r, rn[i]? = some r := ⟨_, List.getElem?_eq_getElem hi⟩
        obtain ⟨rfl, rfl⟩ := kn_at hr1 hkv
        have hrm := List.mem_of_getElem? hr1
        have kT : Kp T.cF T.T [] H4 (upd H4 Tp (.tup [.ref q, .ref r.f])) := Kp.new nT
        have hts := take_snoc hr1
        have hi2 : i < sizeLine := Nat.lt_of_lt_of_le hi (Nat.le_trans hnl (by decide))
        have hno : ¬ (r.w = fi ∧ st ≤ r.s ∧ r.s < en) → FD acc5 (fun z v => ∃ r ∈ rn, r.w = fi ∧ r.s = z ∧ v = .ref r.f ∧ st ≤ z ∧ z < en) (fun z => ∃ r ∈ rn.take (i + 1), r.w = fi ∧ r.s = z ∧ st ≤ z ∧ z < en) := fun hn => hfd5.mono (fun _ _ q => q) fun z ⟨x, hx, e0, e1, e2, e3⟩ => by
          rw [hts, List.mem_append] at hx
          rcases hx with hx | hx
          · exact ⟨x, hx, e0, e1, e2, e3⟩
          · rw [List.mem_singleton.mp hx] at e0 e1
            exact absurd ⟨e0, by omega, by omega⟩ hn
        refine ⟨Tp, _, rfl, SqT.of upd_same, rfl, _, _, rfl, ⟨q, _, rfl, SqT.of (kT.tup hq), rfl, _, _, rfl, _, _, rfl, rfl, _, _, rfl, rfl, rfl, ?_⟩⟩
        refine ⟨_, rfl, _, rfl, rfl, _, rfl, ?_⟩
        refine ite2 (fun e0 => ?_) (fun e0 => iteF (dcNo k5 ha5 hl5 kT (hno fun z => e0 (decide_eq_true (congrArg V.int z.1)))))
        have e0 : r.w = fi := V.int.inj (of_decide_eq_true e0)
        refine ⟨_, rfl, _, rfl, _, _, rfl, rfl, _, rfl, ?_⟩
        refine ite2 (fun e => ?_) (fun e => ?_)
        · refine ⟨_, rfl, _, _, rfl, rfl, _, rfl, ?_⟩
          refine ite2 (fun e' => ?_) (fun e' => dcNo k5 ha5 hl5 kT (hno fun z => e' (decide_eq_true z.2.2)))
          have e := of_decide_eq_true e
          have e' := of_decide_eq_true e'
          refine ⟨_, rfl, _, rfl, dcYes (k := Sum.inl r.s) hi2 nD3 k5 ha5 hl5 kT (hfd5.put ⟨r, hrm, e0, rfl, rfl, e, e'⟩ fun z ⟨x, hx, c0, c1, c2, c3⟩ => ?_)⟩
          rw [hts, List.mem_append] at hx
          rcases hx with hx | hx
          · exact .inl ⟨x, hx, c0, c1, c2, c3⟩
          · rw [List.mem_singleton.mp hx] at c1
            exact .inr c1.symm
        · refine ⟨_, rfl, iteF (dcNo k5 ha5 hl5 kT (hno fun z => e (decide_eq_true z.2.1)))⟩
      · rintro H4 ⟨acc5, ha5, hl5, k5, hfd5⟩
        rw [hnx, List.take_length] at hfd5
        rw [hnx] at hl5
        refine ⟨k5.any upd_same, ?_⟩
        have k6 : Kp T.cF T.T [] H2 (upd H4 rd (.dT (rn.map entN))) := Kp.lock hrd4.dc trivial k5 (k5.any upd_same)
        have rdD3 : rd ≠ D3 := ne_of_none upd_same nD3
        have ha6 : (upd H4 rd (.dT (rn.map entN))) D3 = some (.dK acc5) := by rw [upd_ne rdD3.symm]; exact ha5
        have hD26 : (upd H4 rd (.dT (rn.map entN))) D2 = some (.dK acc) := k6.any ha4
        generalize upd H4 rd (.dT (rn.map entN)) = Hb at k6 ha6 hD26 ⊢
        have hD2D3 : D2 ≠ D3 := by
          refine ne_of_none (H := upd H2 rd (.frz od2 (.dT (rn.map entN)))) (o := .dK acc) ?_ nD3
          rw [upd_ne fun z => ?_]
          · exact ha4
          · rw [z, hrd4.dc] at ha4
            cases ha4
        have hFD := hfd.merge hfd5
        obtain ⟨ks, y1, y2, y3, y4⟩ := hFD.kk
        have hml := length_mergeK acc5 acc
        refine ⟨D2, D3, acc, acc5, rfl, rfl, hD2D3, hD26, ha6, Nat.le_trans (by omega : acc.length + acc5.length ≤ 20000) (by decide), ?_⟩
        have k7 : Kp T.cF T.T [] Ha (upd Hb D2 (.dK (mergeK acc acc5))) := Kp.setNew (H := Ha) nD2 (k4.trans k6) hD26 trivial
        refine ⟨_, _, _, _, _, _, _, _, _, rfl, fun x0 H6 s6 nx6 ⟨dz, hz⟩ => ?_⟩
        have k8 := k3.trans (k7.trans (Kp.of s6))
        have hD28 : H6 D2 = some (.dK (mergeK acc acc5)) := s6 _ _ upd_same
        have hTb6 := k8.tb hTb
        refine ⟨_, rfl, D2, _, ks, rfl, .inl hD28, y1, fun ys q hp hs nq => ?_⟩
        have hup : Up ys := up_of hs (hp.nodup_iff.mpr y2)
        have hmem : ∀ z, z ∈ ys ↔ z ∈ ks := fun z => hp.mem_iff
        have hval : ∀ z ∈ ys, ∃ x F, valV (mergeK acc acc5) (Sum.inl z : Key) = some (.ref x) ∧ FoldAt T.cF H6 x F ∧ F = fo (pin tb z (z + fi)) ∧ fi ∣ z ∧ st ≤ z ∧ z < en := fun z hz => by
          obtain ⟨v, v1, v2⟩ := y4 z ((hmem z).mp hz)
          rcases v2 with ⟨r, r1, r2, r3, r4, r5, r6⟩ | ⟨⟨r, r1, r2, r3, r4, r5, r6⟩, r7⟩
          · subst r4 r3
            obtain ⟨q1, q2⟩ := hF.inN r r1 r2 r5 r6
            exact ⟨r.f, r.F, v1, (hR.fl r r1).kp k8, q2, q1, r5, r6⟩
          · subst r4 r3
            obtain ⟨q1, q2⟩ := hF.inC r r1 r2 r5 r6 fun q hq ⟨z1, z2⟩ => r7 ⟨q, hq, z1, z2, r5, r6⟩
            exact ⟨r.f, r.F, v1, ((hc.rc r r1).kp k8).2, q2, q1, r5, r6⟩
        have hcell : ys.flatMap (fun z => pin tb z (z + fi)) = pin tb st en := by
          refine pin_cells hF.srt hF.pos hF.ds hF.de ys hup (fun z hz => ?_) fun p hp h1 h2 => ?_
          · obtain ⟨x, F, _, _, _, a1, a2, a3⟩ := hval z hz
            exact ⟨a1, a2, a3⟩
          · rw [hmem]
            have l1 := le_cel hF.pos hF.ds h1
            have l2 := cel_le (t := p.1) hF.pos
            rcases hF.cov p hp h1 h2 with ⟨r, r1, r2, r3⟩ | ⟨r, r1, r2, r3⟩
            · refine y3 _ (.inl ?_)
              have : r ∈ L.map (·.2.2) := by rw [hLm]; exact List.mem_filter.mpr ⟨r1, decide_eq_true r2⟩
              obtain ⟨x, hx, ex⟩ := List.mem_map.mp this
              exact ⟨x, hx, by rw [ex, r3], by omega, by omega⟩
            · exact y3 _ (.inr ⟨r, r1, r2, r3, by omega, by omega⟩)
        have hxs : (ys.map V.int).length = ys.length := List.length_map _
        have k9 : Kp T.cF T.T [] H6 (upd H6 q (.lst (ys.map V.int))) := Kp.new nq
        refine ⟨q, rfl, ⟨_, SqL.of upd_same⟩, ?_⟩
        refine for_it (walk_list (K := K) (a := q) (xs := ys.map V.int)) (fun i σ H' => ∃ (x : Addr) (o9 : Option V), σ = [some (.ref g), some (.int 5), some (.int fi), some (.int st), some (.int en), some (.ref rd), some (.ref D), some (.ref D2), some (.ref x), o9, none, none, none, none, none] ∧ Kp T.cF T.T [] (upd H6 q (.lst (ys.map V.int))) H' ∧ FoldAt T.cF H' x (fo ((ys.take i).flatMap fun z => pin tb z (z + fi))))
          ⟨x0, _, rfl, Kp.refl _, ⟨dz, .non, .non, k9.fold hz, rfl, rfl⟩⟩ (fun i σ H' _ ⟨_, _, _, k10, _⟩ => k10.lst (SqL.of upd_same)) ?_ ?_
        · rintro i x σ H7 H8 hi ⟨xa, o9, rfl, k10, hX⟩ ⟨rfl, ex⟩
          rw [hxs] at hi
          obtain ⟨z, hz⟩ : ∃ z, ys[i]? = some z := ⟨_, List.getElem?_eq_getElem hi⟩
          have ex : x = .int z := mapGet ex hz
          subst ex
          obtain ⟨y, F, v1, v2, v3, _⟩ := hval z (List.mem_of_getElem? hz)
          subst v3
          have g1 : DGet H8 D2 (.int z) (some (.ref y)) := by
            have := DGet.k (k := Sum.inl z) (k10.any (k9.any hD28))
            rw [v1] at this
            exact this
          have hts := take_snoc hz
          have hall : ((ys.take i).flatMap fun z => pin tb z (z + fi)) ++ pin tb z (z + fi) = (ys.take (i + 1)).flatMap fun z => pin tb z (z + fi) := by
            rw [hts, List.flatMap_append]
            simp
          have hsub : ((ys.take (i + 1)).flatMap fun z => pin tb z (z + fi)).Sublist (pin tb st en) := by
            rw [← hcell]
            conv => rhs; rw [← List.take_append_drop (i + 1) ys, List.flatMap_append]
            exact List.sublist_append_left _ _
          refine ⟨_, rfl, _, rfl, _, rfl, D2, _, rfl, g1, xa, y, _, pin tb z (z + fi), rfl, hX, v2.kp (k9.trans k10), ?_, ?_, k10.tb (k9.tb hTb6), fun H9 x9 k11 h9 => ?_⟩
          · rw [hall]
            exact List.Pairwise.sublist hsub (pin_srt hF.srt _ _)
          · rw [hall]
            exact fun p hp => hF.bd p (mem_pin.mp (hsub.subset hp)).1
          · refine ⟨x9, _, rfl, k10.trans k11, ?_⟩
            rw [hall] at h9
            exact h9
        · rintro σ H7 ⟨xa, o9, rfl, k10, hX⟩
          rw [hxs, List.take_length, hcell] at hX
          exact ⟨_, rfl, k H7 xa (k8.trans (k9.trans k10)) hX⟩
end
end Tg
/-! TgM4 -/
set_option Elab.async false
set_option linter.all false
set_option maxRecDepth 100000
/-! plain mathematics: the cells of times -/
namespace TgM
def insU (z : Int) : List Int → List Int
  | [] => [z]
  | y :: r => if z < y then z :: y :: r else if z = y then y :: r else y :: insU z r
theorem mem_insU (z : Int) : ∀ (l : List Int) (x : Int), x ∈ insU z l ↔ x = z ∨ x ∈ l
  | [], x => by simp [insU]
  | y :: r, x => by
    unfold insU
    split
    · simp
    · split
      · rename_i h
        subst h
        simp
      · rw [List.mem_cons, mem_insU z r x, List.mem_cons]
        constructor
        · rintro (h | h | h)
          · exact .inr (.inl h)
          · exact .inl h
          · exact .inr (.inr h)
        · rintro (h | h | h)
          · exact .inr (.inl h)
          · exact .inl h
          · exact .inr (.inr h)
theorem up_insU (z : Int) : ∀ (l : List Int), Up l → Up (insU z l)
  | [], _ => by simp [insU, Up]
  | y :: r, h => by
    unfold Up at h ⊢
    rw [List.pairwise_cons] at h
    unfold insU
    split
    · rename_i hz
      rw [List.pairwise_cons, List.pairwise_cons]
      refine ⟨fun x hx => ?_, h⟩
      rcases List.mem_cons.mp hx with e | e
      · omega
      · have := h.1 x e
        omega
    · split
      · rw [List.pairwise_cons]
        exact h
      · rw [List.pairwise_cons]
        refine ⟨fun x hx => ?_, up_insU z r h.2⟩
        rcases (mem_insU z r x).mp hx with e | e
        · omega
        · exact h.1 x e
/-- the starts of the cells of some times -/
def celsOf (ts : List Int) (w : Int) : List Int := ts.foldr (fun t acc => insU (cel t w) acc) []
theorem celsOf_up (ts : List Int) (w : Int) : Up (celsOf ts w) := by
  induction ts with
  | nil => simp [celsOf, Up]
  | cons t ts ih => exact up_insU _ _ ih
theorem mem_celsOf {ts : List Int} {w x : Int} : x ∈ celsOf ts w ↔ ∃ t ∈ ts, cel t w = x := by
  induction ts with
  | nil => simp [celsOf]
  | cons t ts ih =>
    show x ∈ insU (cel t w) (celsOf ts w) ↔ _
    rw [mem_insU, ih]
    constructor
    · rintro (h | ⟨y, h1, h2⟩)
      · exact ⟨t, by simp, h.symm⟩
      · exact ⟨y, by simp [h1], h2⟩
    · rintro ⟨y, h1, h2⟩
      rcases List.mem_cons.mp h1 with e | e
      · subst e
        exact .inl h2.symm
      · exact .inr ⟨y, e, h2⟩
theorem celsOf_eq {ts ys : List Int} {w : Int} (h : Up ys) (m : ∀ k, k ∈ ys ↔ k ∈ ts.map fun t => cel t w) : ys = celsOf ts w := by
  refine ints_ext h (celsOf_up _ _) fun k => ?_
  rw [m, mem_celsOf]
  simp
theorem celsOf_len (ts : List Int) (w : Int) : (celsOf ts w).length ≤ ts.length := by
  induction ts with
  | nil => simp [celsOf]
  | cons t ts ih =>
    show (insU (cel t w) (celsOf ts w)).length ≤ _
    have : ∀ (z : Int) (l : List Int), (insU z l).length ≤ l.length + 1 := fun z l => by
      induction l with
      | nil => simp [insU]
      | cons y r ih =>
        unfold insU
        split
        · simp
        · split
          · simp
          · simp only [List.length_cons]
            omega
    have := this (cel t w) (celsOf ts w)
    simp only [List.length_cons]
    omega
end TgM
/-! TgT1 -/
set_option Elab.async false
set_option linter.all false
set_option maxRecDepth 100000
set_option maxHeartbeats 4000000
/-! the teller (a lambda that captures the points left) -/
namespace Tg
open PySem PySem.Spec PyProof.Rows L2 LamX NdefX TgM
def asgV : Stmt → Expr
  | .Assign _ v _ => v
  | _ => .Constant .none 0 ⟨0, 0, 0, 0⟩
def ltell : Expr := asgV ((defBody s_law_renewed).getD 2 (.Pass ⟨0, 0, 0, 0⟩))
theorem ls_tell : TgL.LScope ["_law_start", "_law_end", "_law_left", "_law_row"] ["_law_start", "_law_end"] ["_law_left"] (lamS ltell) := TgL.lscope_by (by decide +kernel)
/-- what the teller promises -/
def spTell (K : PySem.W.Frag) : List (Option V) → Sp := fun ws vs H Q _ => ∃ (la : Addr) (ll : List (Addr × Pt)) (s e : Int), ws = [some (.ref la)] ∧ vs = [.int s, .int e] ∧ PtsAt K H la ll ∧ ll.length ≤ 10000 ∧
  ∀ H' p l', Same H H' → PtsAt K H' p l' → l'.map (·.2) = pin (ll.map (·.2)) s e → Q (.ref p) H'
section
variable {P : Program} {w : World} {K : PySem.W.Frag} {mg : Str → Option Value} {base : Heap}
theorem lok_tell (q : Str) (cl : List (Str × Addr)) (c c' : Addr) (hcl : cl = [(("_law_left" : Str), c)]) : TgL.LOk P w K mg base 1 ⟨lamP ltell, lamB ltell, lamS ltell, q, cl, c'⟩ ["_law_start", "_law_end"] ["_law_left"] (spTell K) := by
  refine TgL.lok_of ls_tell (fun y d m => by
    rw [hcl] at m
    cases List.mem_singleton.mp m
    exact ⟨by rw [hcl]; rfl, by simp⟩) (fun pm ctv us hl => match us, hl with | [_, _], _ => rfl) (fun ws vs H Q E h => by obtain ⟨_, _, _, _, _, rfl, _⟩ := h; rfl) fun A outer s H f vs ws Q hr hw h => ?_
  obtain ⟨la, ll, st, en, rfl, rfl, hP, hlen, k⟩ := h
  refine ⟨_, pe_lc (own := [("_law_row", 3)]) rfl ls_tell.nd (pi_list (pv 2)) (blkOk_by (own := [("_law_row", 3)]) (N := ["_law_start", "_law_end", "_law_left", "_law_row"]) (sc := lamS ltell) (by decide +kernel))
    (fun _ _ _ _ _ => (pg_name (i := 3) ls_tell.nd rfl (Or.inl rfl))) (fun _ _ _ _ _ => (pts_one (pt_chain op_le op_lt (pv 0) (pe_ix (ixTK (K := K) rfl) (pv 3) pe_int (fun _ _ => rfl)) (pv 1)))) (fun _ _ _ _ _ => (pv 3)), ?_⟩
  refine ⟨_, rfl, la, rfl, ⟨_, hP.ls⟩, fun D nD => ?_⟩
  have hxl : (ll.map fun x => V.ref x.1).length = ll.length := List.length_map _
  let g : Addr × Pt → Bool := fun x => decide (st ≤ x.2.1) && decide (x.2.1 < en)
  have sq : ∀ l, SqL K (upd H D (.lst l)) la (ll.map fun x => V.ref x.1) := fun l => (Kp.of (C := 0) (T := []) (M := []) (Same.new nD)).lst hP.ls
  have tp : ∀ l x, x ∈ ll → (upd H D (.lst l)) x.1 = some (.tup [.int x.2.1, .int x.2.2]) := fun l x hx => (Same.new nD) _ _ (hP.pt x hx)
  refine lc_it (walk_list (K := K) (a := la) (xs := ll.map fun x => V.ref x.1)) (fun i H' => H' = upd H D (.lst (((ll.take i).filter g).map fun x => V.ref x.1))) rfl (fun i H' _ e => by rw [e]; exact sq _) ?_ ?_
  · rintro i x H1 H2 hi rfl ⟨rfl, ex⟩
    rw [hxl] at hi
    obtain ⟨y, hy⟩ : ∃ x, ll[i]? = some x := ⟨_, List.getElem?_eq_getElem hi⟩
    have ex : x = .ref y.1 := mapGet (f := fun x : Addr × Pt => V.ref x.1) (z := y) ex hy
    subst ex
    have hm := List.mem_of_getElem? hy
    have hf := filter_snoc (p := g) hy
    have hn : g y = false → upd H D (.lst (((ll.take i).filter g).map fun x => V.ref x.1)) = upd H D (.lst (((ll.take (i + 1)).filter g).map fun x => V.ref x.1)) := fun e => by
      rw [hf, if_neg (by rw [e]; simp), List.append_nil]
    refine ⟨rfl, _, rfl, _, rfl, y.1, _, 0, .int y.2.1, rfl, rfl, SqT.of (tp _ y hm), rfl, _, _, rfl, rfl, _, rfl, ?_⟩
    refine ite2 (fun e => ?_) (fun e => ?_)
    · refine ⟨_, rfl, _, _, rfl, rfl, _, rfl, ?_⟩
      refine ite2 (fun e' => ?_) (fun e' => hn ?_)
      · refine ⟨_, rfl, _, upd_same, ?_, ?_⟩
        · rw [List.length_map]
          refine Nat.lt_of_le_of_lt (List.length_filter_le _ _) ?_
          rw [List.length_take]
          exact Nat.lt_of_le_of_lt (Nat.min_le_left _ _) (Nat.lt_of_lt_of_le hi (Nat.le_trans hlen (by decide)))
        · show upd (upd _ D _) D _ = _
          have hg : g y = true := by show (decide (st ≤ y.2.1) && decide (y.2.1 < en)) = true; rw [e, e']; rfl
          rw [upd_upd, hf, if_pos hg, List.map_append]
          rfl
      · show (decide (st ≤ y.2.1) && decide (y.2.1 < en)) = false
        have e' : decide (y.2.1 < en) = false := Bool.eq_false_iff.mpr e'
        rw [e', Bool.and_false]
    · refine ⟨_, rfl, iteF (hn ?_)⟩
      show (decide (st ≤ y.2.1) && decide (y.2.1 < en)) = false
      have e : decide (st ≤ y.2.1) = false := Bool.eq_false_iff.mpr e
      rw [e, Bool.false_and]
  · rintro H1 rfl
    rw [hxl, List.take_length]
    refine k _ D (ll.filter g) (Same.new nD) ⟨SqL.of upd_same, fun x hx => tp _ x (List.mem_filter.mp hx).1⟩ ?_
    unfold pin
    rw [List.filter_map]
    rfl
/-- a teller in the heap, its cell known -/
structure TellAt (P : Program) (w : World) (K : PySem.W.Frag) (mg : Str → Option Value) (base : Heap) (H : Hp) (pf : Addr) (l : List Pt) : Prop where
  ex : ∃ (L : TgL.LF) (c : Addr) (ob : Obj) (la : Addr) (ll : List (Addr × Pt)), H pf = some (TgL.LamO pf L) ∧ H L.c = some (CodeO L.c L.qual) ∧ TgL.LOk P w K mg base 1 L ["_law_start", "_law_end"] ["_law_left"] (spTell K) ∧ L.cl = [(("_law_left" : Str), c)] ∧
    H c = some (.frz ob (TgL.CelO c (.ref la))) ∧ PtsAt K H la ll ∧ ll.map (·.2) = l ∧ ll.length ≤ 10000
theorem PtsAt.kpi {C : Addr} {T : List (Addr × Str)} {g dx : Addr} {D : Addr} {fs : List (Str × V)} {H H' : Hp} {a : Addr} {l : List (Addr × Pt)} (hg : H g = some (.ins D dx fs)) (k : Kp C T [g] H H') (h : PtsAt K H a l) : PtsAt K H' a l := by
  refine ⟨?_, fun x hx => k.tup (h.pt x hx)⟩
  have h := h.ls
  unfold SqL at h ⊢
  rcases h with h | h
  · refine .inl (h.elim (fun e => .inl (k.at e ?_)) fun ⟨ob, e⟩ => .inr ⟨ob, k.at e ?_⟩)
    · intro m
      rw [List.mem_singleton.mp m, hg] at e
      cases e
    · intro m
      rw [List.mem_singleton.mp m, hg] at e
      cases e
  · exact .inr h
theorem TellAt.kpi {C : Addr} {T : List (Addr × Str)} {g dx : Addr} {D : Addr} {fs : List (Str × V)} {H H' : Hp} {pf : Addr} {l : List Pt} (hg : H g = some (.ins D dx fs)) (k : Kp C T [g] H H') (h : TellAt P w K mg base H pf l) : TellAt P w K mg base H' pf l := by
  obtain ⟨L, c, ob, la, ll, h1, h2, h3, h4, h5, h6, h7, h8⟩ := h
  refine ⟨L, c, ob, la, ll, k.at h1 ?_ TgL.lamO_tbl, k.at h2 ?_ ?_, h3, h4, k.at h5 ?_, h6.kpi hg k, h7, h8⟩
  · intro m
    rw [List.mem_singleton.mp m, hg] at h1
    unfold TgL.LamO at h1
    cases h1
  · intro m
    rw [List.mem_singleton.mp m, hg] at h2
    unfold CodeO at h2
    cases h2
  · intro ps z
    unfold CodeO at z
    cases z
  · intro m
    rw [List.mem_singleton.mp m, hg] at h5
    cases h5
theorem TellAt.kp {C : Addr} {T : List (Addr × Str)} {H H' : Hp} {pf : Addr} {l : List Pt} (k : Kp C T [] H H') (h : TellAt P w K mg base H pf l) : TellAt P w K mg base H' pf l := by
  obtain ⟨L, c, ob, la, ll, h1, h2, h3, h4, h5, h6, h7, h8⟩ := h
  refine ⟨L, c, ob, la, ll, k.any h1 TgL.lamO_tbl, k.any h2 ?_, h3, h4, k.any h5, ⟨k.lst h6.ls, fun x hx => k.tup (h6.pt x hx)⟩, h7, h8⟩
  intro ps z
  unfold CodeO at z
  cases z
theorem same_ers {H H2 : Hp} {c : Addr} {u : HO} (h : H c = some u) (s : Same (TgL.ers H c) H2) : Same H (upd H2 c u) := fun b o e => by
  by_cases hb : b = c
  · subst hb
    rw [upd_same, ← h, e]
  · rw [upd_ne hb]
    exact s b o (by rw [TgL.ers_ne hb]; exact e)
/-- the teller is called -/
theorem TellAt.call {σ : L2.St} {i : Nat} {H : Hp} {pf : Addr} {l : List Pt} {Q : VK} {t : TA} {st en : Int} (h : TellAt P w K mg base H pf l) (hs : σ[i]? = some (some (.ref pf))) (ht : ∀ R : List V → Hp → Prop, R [.int st, .int en] H → t σ H R)
    (hq : ∀ H' p l', Same H H' → PtsAt K H' p l' → l'.map (·.2) = pin l st en → Q (.ref p) H') : TgL.tCallClo P w K mg base 1 i t σ H Q := by
  obtain ⟨L, c, ob, la, ll, h1, h2, h3, h4, h5, h6, h7, h8⟩ := h
  refine ⟨pf, L, _, _, _, hs, h1, h3, ht _ ⟨h1, h2, .inr ⟨"_law_left", c, ob, .ref la, h4, rfl, h5, ?_⟩⟩⟩
  have lac : ∀ xs, H c ≠ some (.lst xs) := fun xs e => by rw [h5] at e; cases e
  refine ⟨la, ll, st, en, rfl, rfl, ⟨?_, fun x hx => ?_⟩, h8, fun H' p l' s1 hp hl => ?_⟩
  · have h := h6.ls
    unfold SqL at h ⊢
    rcases h with h | h
    · refine .inl (h.elim (fun e => .inl ?_) fun ⟨ob', e⟩ => .inr ⟨ob', ?_⟩)
      · rw [TgL.ers_ne fun z => by rw [z, h5] at e; cases e]
        exact e
      · rw [TgL.ers_ne fun z => by rw [z, h5] at e; cases e]
        exact e
    · exact .inr h
  · have e := h6.pt x hx
    rw [TgL.ers_ne fun z => by rw [z, h5] at e; cases e]
    exact e
  · intro nc
    have s2 := same_ers h5 s1
    refine hq _ p l' s2 ⟨?_, fun x hx => ?_⟩ (by rw [hl, h7])
    · have h := hp.ls
      unfold SqL at h ⊢
      rcases h with h | h
      · refine .inl (h.elim (fun e => .inl ?_) fun ⟨ob', e⟩ => .inr ⟨ob', ?_⟩)
        · rw [upd_ne (ne_of_none e nc)]
          exact e
        · rw [upd_ne (ne_of_none e nc)]
          exact e
      · exact .inr h
    · have e := hp.pt x hx
      rw [upd_ne (ne_of_none e nc)]
      exact e
end
end Tg
/-! TgG5 -/
set_option Elab.async false
set_option linter.all false
set_option maxRecDepth 100000
set_option maxHeartbeats 4000000
/-! Grains.made_anew -/
namespace Tg
open PySem PySem.Spec PyProof.Rows L2 LamX NdefX TgM
structure AnewOk (cm : List Rc) (ws ts : List Int) (tb l : List Pt) : Prop where
  srt : Srt tb
  bd : Bd tb
  srl : Srt l
  bdl : Bd l
  len : ts.length ≤ 1000
  cell0 : ∀ w0, ws[0]? = some w0 → ∀ t ∈ ts, pin l (cel t w0) (cel t w0 + w0) = pin tb (cel t w0) (cel t w0 + w0)
  inC : ∀ (i : Nat) fi, ws[i]? = some fi → ∀ r ∈ cm, r.w = fi → (∀ t ∈ ts, cel t fi ≠ r.s) → fi ∣ r.s ∧ r.F = fo (pin tb r.s (r.s + fi))
  cov : ∀ (i : Nat) fi wd, ws[i]? = some fi → ws[i + 1]? = some wd → ∀ t ∈ ts, ∀ p ∈ tb, cel t wd ≤ p.1 → p.1 < cel t wd + wd → (∃ r ∈ cm, r.w = fi ∧ r.s = cel p.1 fi) ∨ ∃ t' ∈ ts, cel t' fi = cel p.1 fi
def keysOf (ws ts : List Int) : List (Int × Int) := ws.flatMap fun w => (celsOf ts w).map fun s => (w, s)
theorem mem_keysOf {ws ts : List Int} {w s : Int} : (w, s) ∈ keysOf ws ts ↔ w ∈ ws ∧ s ∈ celsOf ts w := by
  unfold keysOf
  rw [List.mem_flatMap]
  constructor
  · rintro ⟨a, ha, h⟩
    obtain ⟨b, hb, e⟩ := List.mem_map.mp h
    cases e
    exact ⟨ha, hb⟩
  · rintro ⟨h1, h2⟩
    exact ⟨w, h1, List.mem_map.mpr ⟨s, h2, rfl⟩⟩
structure RnOk (rn : List Rn) (ws ts : List Int) (tb : List Pt) : Prop where
  ks : rn.map (fun r => (r.w, r.s)) = keysOf ws ts
  fd : ∀ r ∈ rn, r.F = fo (pin tb r.s (r.s + r.w))
def finV (ws : List Int) (i : Nat) : V := if i = 0 then .non else .int (ws.getD (i - 1) 0)
theorem kyN_inj {w s w' s' : Int} : kyN w s = kyN w' s' ↔ w = w' ∧ s = s' := by
  unfold kyN
  constructor
  · intro h
    simp at h
    exact h
  · rintro ⟨rfl, rfl⟩
    rfl
theorem val_rn_none {rn : List Rn} {w s : Int} (h : (w, s) ∉ rn.map fun r => (r.w, r.s)) : valV (rn.map entN) (kyN w s) = none := by
  cases e : valV (rn.map entN) (kyN w s) with
  | none => rfl
  | some v =>
    exfalso
    have m := valV_in e
    rw [List.map_map] at m
    obtain ⟨r, hr, er⟩ := List.mem_map.mp m
    have er : kyN r.w r.s = kyN w s := er
    obtain ⟨e1, e2⟩ := kyN_inj.mp er
    exact h (List.mem_map.mpr ⟨r, hr, by rw [e1, e2]⟩)
section
variable {P : Program} {w : World} {K : PySem.W.Frag} {mg : Str → Option Value} {base : Heap}
def sp_made_anew (P : Program) (w : World) (T : Ev K mg base) : Sp := fun vs H Q _ => ∃ (g wt cd ed tl pf : Addr) (b : Bool) (ws : List Int) (cm : List Rc) (ts : List Int) (tb l : List Pt), vs = [.ref g, .int 5, .ref tl, .ref pf] ∧ Gr T.cG T.cF H g wt cd ed b ws cm ∧
  SqL K H tl (ts.map V.int) ∧ TellAt P w K mg base H pf l ∧ AnewOk cm ws ts tb l ∧ Tabs T.T H ∧ ∀ H' rd rn, Kp T.cF T.T [] H H' → RnAt T.cF H' rd rn → RnOk rn ws ts tb → H rd = none → Q (.ref rd) H'
theorem sc_made_anew : FnScope ["self", "place", "times", "points_in", "renewed", "finer", "width", "start", "time"] ["self", "place", "times", "points_in"] (defScope s_made_anew) := ⟨rfl, rfl, rfl, by decide +kernel, rfl, by decide +kernel, by decide +kernel⟩
theorem m_made_anew (T : Ev K mg base) : C8.Met P w K mg base 6 T.cG "made_anew" (sp_made_anew P w T) [] := by
  refine metD T.clG T.e_made_anew sc_made_anew (fun _ _ _ _ _ _ us hl => match us, hl with | [_, _, _, _], _ => rfl) (fun vs H Q E h => by obtain ⟨_, _, _, _, _, _, _, _, _, _, _, _, rfl, _⟩ := h; rfl) (fun f cdv A outer s H vs Q E hr h => ?_)
  obtain ⟨g, wt, cd, ed, tl, pf, b, ws, cm, ts, tb, l, rfl, hG, htl, hTl, hA, hTb, k⟩ := h
  obtain ⟨⟨dx, hg⟩, hw, hc, wok⟩ := id hG
  have hu := hu_of hr
  refine ⟨_, (pss_cons (ps_set (i := 4) sc_made_anew.nd rfl (Or.inl rfl) pe_dnewT)
      (pss_cons (ps_set (i := 5) sc_made_anew.nd rfl (Or.inl rfl) pe_non)
      (pss_cons (ps_for PassesOwn.never rfl (pi_tup (pe_fldC T.clG (T.naG _ (by decide)) (pv 0))) (pg_name (i := 6) sc_made_anew.nd rfl (Or.inr rfl))
        (pss_cons (ps_for PassesOwn.never rfl (pi_list (pe_sortedSet rfl (by rfl) T.b_sorted (by rfl) T.b_set (pe_lc (own := [("time", 8)]) rfl sc_made_anew.nd (pi_list (pv 2)) (blkOk_by (own := [("time", 8)]) (N := ["self", "place", "times", "points_in", "renewed", "finer", "width", "start", "time"]) (sc := defScope s_made_anew) (by decide +kernel)) (fun _ _ _ _ _ => (pg_name (i := 8) sc_made_anew.nd rfl (Or.inl rfl))) (fun _ _ _ _ _ => pts_nil) (fun _ _ _ _ _ => (C8.pe_c (c_cell_of T) hr (by decide) rfl (pa_cons (pv 8) (pa_cons (pv 6) pa_nil))))))) (pg_name (i := 7) sc_made_anew.nd rfl (Or.inl rfl))
          (pss_one (ps_if (pt_cmpR op_isN (pv 5) pe_non (nomark _)) (pss_one (ps_dput hu (pv 4) (pe_tup (pa_cons (pv 6) (pa_cons (pv 7) pa_nil))) (C8.pe_c (c_fold_of T) hr (by decide) rfl (pa_cons (TgL.pe_callClo (k := 1) (i := 3) (hr.mono (by decide)) rfl (Or.inl rfl) (pa_cons (pv 7) (pa_cons (pe_op op_add (pv 7) (pv 6)) pa_nil))) pa_nil)) rfl))
            (pss_one (ps_dput hu (pv 4) (pe_tup (pa_cons (pv 6) (pa_cons (pv 7) pa_nil))) (C8.pe_mt (m_whole_of T) hr (by decide) (pv 0) (pa_cons (pv 1) (pa_cons (pv 5) (pa_cons (pv 7) (pa_cons (pe_op op_add (pv 7) (pv 6)) (pa_cons (pv 4) pa_nil)))))) rfl)))))
        (pss_one (ps_set (i := 5) sc_made_anew.nd rfl (Or.inl rfl) (pv 6)))))
      (pss_one (ps_ret (pv 4)))))), ?_⟩
  intro rd nrd
  have k1 : Kp T.cF T.T [] H (upd H rd (.dT [])) := Kp.new nrd
  refine ⟨_, rfl, g, dx, _, _, rfl, k1.any hg, lk_widths _ _ _ _, wt, rfl, ⟨_, (hw.kp k1).sq⟩, ?_⟩
  have hxl : (ws.map V.int).length = ws.length := List.length_map _
  have hwl := wok.len
  have htsl := hA.len
  refine for_it (walk_tup (K := K) (a := wt) (xs := ws.map V.int)) (fun i σ H' => ∃ (o6 o7 o8 : Option V) (rn : List Rn), σ = [some (.ref g), some (.int 5), some (.ref tl), some (.ref pf), some (.ref rd), some (finV ws i), o6, o7, o8] ∧ Kp T.cF T.T [] H H' ∧ RnAt T.cF H' rd rn ∧
      rn.map (fun r => (r.w, r.s)) = keysOf (ws.take i) ts ∧ (∀ r ∈ rn, r.F = fo (pin tb r.s (r.s + r.w))) ∧ rn.length ≤ i * 1000)
    ⟨none, none, none, [], rfl, k1, ⟨upd_same, by simp, by simp⟩, rfl, by simp, by simp⟩ (fun i σ H' _ ⟨_, _, _, _, _, k2, _⟩ => (hw.kp k2).sq) ?_ ?_
  · rintro i x σ H1 H2 hi ⟨o6, o7, o8, rn0, rfl, k2, hR, hks, hfd, hln⟩ ⟨rfl, ex⟩
    rw [hxl] at hi
    obtain ⟨wd, hwd⟩ : ∃ o, ws[i]? = some o := ⟨_, List.getElem?_eq_getElem hi⟩
    have ex : x = .int wd := mapGet ex hwd
    subst ex
    have hb := wok.bd wd (List.mem_of_getElem? hwd)
    refine ⟨_, rfl, tl, rfl, ⟨_, k2.lst htl⟩, fun D nD => ?_⟩
    have htl2 : (ts.map V.int).length = ts.length := List.length_map _
    refine lc_it (walk_list (K := K) (a := tl) (xs := ts.map V.int)) (LcP T.cF T.T H2 D fun j acc _ => acc = ((ts.take j).map fun t => cel t wd).map V.int) (lc0 nD rfl) (fun j H' _ ⟨acc, _, _, k3, _⟩ => k3.lst (k2.lst htl)) ?_ ?_
    · rintro j x H3 H4 hj ⟨acc, ha, hl, k3, rfl⟩ ⟨rfl, ex⟩
      rw [htl2] at hj
      obtain ⟨t, ht⟩ : ∃ o, ts[j]? = some o := ⟨_, List.getElem?_eq_getElem hj⟩
      have ex : x = .int t := mapGet ex ht
      subst ex
      refine ⟨rfl, yes_ ⟨_, rfl, _, rfl, t, wd, rfl, hb.1, (by omega), lcYes (Nat.lt_of_lt_of_le hj (Nat.le_trans htsl (by decide))) nD k3 ha hl (Kp.refl _) ?_⟩⟩
      rw [take_snoc ht, List.map_append, List.map_append]
      rfl
    · rintro H3 ⟨acc, ha, hl, k3, rfl⟩
      rw [htl2, List.take_length] at ha
      refine ⟨D, ts.map fun t => cel t wd, rfl, SqL.of ha, by rw [List.length_map]; exact htsl, fun ys p hys hmem np => ⟨p, rfl, ⟨_, SqL.of upd_same⟩, ?_⟩⟩
      have ey := celsOf_eq (ts := ts) (w := wd) hys hmem
      have hyl : ys.length ≤ 1000 := by
        rw [ey]
        exact Nat.le_trans (celsOf_len _ _) htsl
      have hyx : (ys.map V.int).length = ys.length := List.length_map _
      have k4 : Kp T.cF T.T [] H2 (upd H3 p (.lst (ys.map V.int))) := k3.trans (Kp.new np)
      have prd : p ≠ rd := (ne_of_none (k3.any hR.dc) np).symm
      have hsm : ∀ y ∈ ys, ∃ t ∈ ts, cel t wd = y := fun y hy => by
        rw [ey] at hy
        exact mem_celsOf.mp hy
      refine for_it (walk_list (K := K) (a := p) (xs := ys.map V.int)) (fun j σ H' => ∃ (o7 o8 : Option V) (rn : List Rn), σ = [some (.ref g), some (.int 5), some (.ref tl), some (.ref pf), some (.ref rd), some (finV ws i), some (.int wd), o7, o8] ∧ Kp T.cF T.T [] H H' ∧ SqL K H' p (ys.map V.int) ∧ RnAt T.cF H' rd rn ∧
          rn.map (fun r => (r.w, r.s)) = keysOf (ws.take i) ts ++ (ys.take j).map (fun s => (wd, s)) ∧ (∀ r ∈ rn, r.F = fo (pin tb r.s (r.s + r.w))) ∧ rn.length ≤ i * 1000 + j)
        ⟨_, _, rn0, rfl, k2.trans k4, SqL.of upd_same, hR.kp k4 (by simp), by simpa using hks, hfd, by simpa using hln⟩ (fun j σ H' _ ⟨_, _, _, _, _, h, _⟩ => h) ?_ ?_
      · rintro j x σ H5 H6 hj ⟨o7', o8', rn, rfl, k5, hp5, hR5, hks5, hfd5, hln5⟩ ⟨rfl, ex⟩
        rw [hyx] at hj
        obtain ⟨sx, hs⟩ : ∃ o, ys[j]? = some o := ⟨_, List.getElem?_eq_getElem hj⟩
        have ex : x = .int sx := mapGet ex hs
        subst ex
        have hsy := List.mem_of_getElem? hs
        obtain ⟨t0, ht0, et0⟩ := hsm sx hsy
        have hnew : (wd, sx) ∉ rn.map fun r => (r.w, r.s) := by
          rw [hks5, List.mem_append]
          rintro (h | h)
          · have h1 := (mem_keysOf.mp h).1
            obtain ⟨j', hj'⟩ := List.mem_iff_getElem?.mp h1
            have hji : j' < i := by
              have := (List.getElem?_eq_some_iff.mp hj').1
              rw [List.length_take] at this
              omega
            rw [List.getElem?_take_of_lt hji] at hj'
            obtain ⟨b1, e1⟩ := List.getElem?_eq_some_iff.mp hj'
            obtain ⟨b2, e2⟩ := List.getElem?_eq_some_iff.mp hwd
            have := (List.pairwise_iff_getElem.mp wok.pw j' i b1 b2 hji).1
            rw [e1, e2] at this
            omega
          · obtain ⟨y, hy, e⟩ := List.mem_map.mp h
            have e : y = sx := (Prod.mk.inj e).2
            subst e
            obtain ⟨j', hj'⟩ := List.mem_iff_getElem?.mp hy
            have hji : j' < j := by
              have := (List.getElem?_eq_some_iff.mp hj').1
              rw [List.length_take] at this
              omega
            rw [List.getElem?_take_of_lt hji] at hj'
            obtain ⟨b1, e1⟩ := List.getElem?_eq_some_iff.mp hj'
            obtain ⟨b2, e2⟩ := List.getElem?_eq_some_iff.mp hs
            have := List.pairwise_iff_getElem.mp hys j' j b1 b2 hji
            rw [e1, e2] at this
            omega
        have fin : ∀ (H7 : Hp) (xa : Addr), Kp T.cF T.T [] H6 H7 → FoldAt T.cF H7 xa (fo (pin tb sx (sx + wd))) → ∀ q, H7 q = none → ∃ (H8 : Hp), DPut (upd H7 q (.tup [.int wd, .int sx])) rd (.ref q) (.ref xa) H8 ∧
            ∃ (o7 o8 : Option V) (rn : List Rn), [some (.ref g), some (.int 5), some (.ref tl), some (.ref pf), some (.ref rd), some (finV ws i), some (.int wd), some (.int sx), o8'] = [some (.ref g), some (.int 5), some (.ref tl), some (.ref pf), some (.ref rd), some (finV ws i), some (.int wd), o7, o8] ∧
              Kp T.cF T.T [] H H8 ∧ SqL K H8 p (ys.map V.int) ∧ RnAt T.cF H8 rd rn ∧ rn.map (fun r => (r.w, r.s)) = keysOf (ws.take i) ts ++ (ys.take (j + 1)).map (fun s => (wd, s)) ∧ (∀ r ∈ rn, r.F = fo (pin tb r.s (r.s + r.w))) ∧ rn.length ≤ i * 1000 + (j + 1) := by
          intro H7 xa k6 hx q nq
          have k7 : Kp T.cF T.T [] H6 (upd H7 q (.tup [.int wd, .int sx])) := k6.trans (Kp.new nq)
          have hR7 := hR5.kp k7 (by simp)
          have hput : putK (rn.map entN) (kyN wd sx) (.ref xa) = (rn ++ [(⟨wd, sx, fo (pin tb sx (sx + wd)), xa⟩ : Rn)]).map entN := by
            rw [putK_new _ (val_rn_none hnew), List.map_append]
            rfl
          have kS : Kp T.cF T.T [rd] (upd H7 q (.tup [.int wd, .int sx])) (upd (upd H7 q (.tup [.int wd, .int sx])) rd (.dT (putK (rn.map entN) (kyN wd sx) (.ref xa)))) := Kp.set hR7.dc (by simp) trivial
          refine ⟨_, DPut.t (k := kyN wd sx) hR7.dc upd_same ?_, _, _, rn ++ [(⟨wd, sx, fo (pin tb sx (sx + wd)), xa⟩ : Rn)], rfl, Kp.setNew (H := H) nrd (k5.trans k7) hR7.dc trivial, kS.seqL (by simpa using prd) (k7.lst hp5), ⟨?_, ?_, ?_⟩, ?_, ?_, ?_⟩
          · rw [List.length_map]
            have : rn.length ≤ 10000 := hR5.ln
            exact Nat.lt_of_le_of_lt this (by decide)
          · rw [upd_same, hput]
          · intro r hr
            rcases List.mem_append.mp hr with h | h
            · exact (hR7.fl r h).kp kS
            · rw [List.mem_singleton.mp h]
              exact (hx.kp (T := T.T) (M := []) (Kp.new nq)).kp kS
          · rw [List.length_append, List.length_singleton]
            omega
          · rw [List.map_append, hks5, take_snoc hs, List.map_append, List.append_assoc]
            rfl
          · intro r hr
            rcases List.mem_append.mp hr with h | h
            · exact hfd5 r h
            · rw [List.mem_singleton.mp h]
          · rw [List.length_append, List.length_singleton]
            omega
        refine ⟨_, rfl, rfl, _, rfl, ?_⟩
        by_cases hi0 : i = 0
        · have ef : finV ws i = .non := if_pos hi0
          rw [ef, decide_eq_true rfl]
          rw [ef] at fin
          refine iteT ?_
          have ep : pin l sx (sx + wd) = pin tb sx (sx + wd) := by
            rw [← et0]
            exact hA.cell0 wd (by rw [← hi0]; exact hwd) t0 ht0
          refine TellAt.call (hTl.kp k5) rfl (fun R r => ⟨_, rfl, _, rfl, _, rfl, _, _, rfl, rfl, r⟩) fun H7 p7 l7 s7 hp7 hl7 => ?_
          have k7 : Kp T.cF T.T [] H6 H7 := .of s7
          refine ⟨p7, l7, rfl, hp7, ?_, ?_, (k5.trans k7).tb hTb, fun H8 x8 k8 h8 => ?_⟩
          · rw [hl7]
            exact pin_srt hA.srl _ _
          · rw [hl7]
            exact fun z hz => hA.bdl z (mem_pin.mp hz).1
          · rw [hl7, ep] at h8
            refine ⟨_, rfl, _, rfl, _, rfl, two_le, fun q nq => ?_⟩
            obtain ⟨H9, f1, f2⟩ := fin H8 x8 (k7.trans k8) h8 q nq
            exact ⟨rd, H9, rfl, f1, f2⟩
        · obtain ⟨fi, hfi⟩ : ∃ o, ws[i - 1]? = some o := ⟨_, List.getElem?_eq_getElem (by omega)⟩
          have ef : finV ws i = .int fi := by
            unfold finV
            rw [if_neg hi0, List.getD_eq_getElem?_getD, hfi]
            rfl
          rw [ef, decide_eq_false (by intro z; cases z)]
          rw [ef] at fin
          refine iteF ?_
          have hG5 := hG.kp k5 (by simp) (by simp)
          obtain ⟨⟨dx5, hg5⟩, _⟩ := id hG5
          have hbf := wok.bd fi (List.mem_of_getElem? hfi)
          obtain ⟨b1, e1⟩ := List.getElem?_eq_some_iff.mp hfi
          obtain ⟨b2, e2⟩ := List.getElem?_eq_some_iff.mp hwd
          have hpw := List.pairwise_iff_getElem.mp wok.pw (i - 1) i b1 b2 (by omega)
          rw [e1, e2] at hpw
          have hfm : fi ∈ ws.take i := by
            refine List.mem_of_getElem? (i := i - 1) ?_
            rw [List.getElem?_take_of_lt (by omega)]
            exact hfi
          have hrnf : ∀ y, y ∈ celsOf ts fi ↔ ∃ r ∈ rn, r.w = fi ∧ r.s = y := fun y => by
            constructor
            · intro h
              have m : (fi, y) ∈ rn.map fun r => (r.w, r.s) := by
                rw [hks5]
                exact List.mem_append_left _ (mem_keysOf.mpr ⟨hfm, h⟩)
              obtain ⟨r, hr, e⟩ := List.mem_map.mp m
              exact ⟨r, hr, (Prod.mk.inj e).1, (Prod.mk.inj e).2⟩
            · rintro ⟨r, hr, e1, e2⟩
              have m : (fi, y) ∈ rn.map fun r => (r.w, r.s) := List.mem_map.mpr ⟨r, hr, by rw [e1, e2]⟩
              rw [hks5, List.mem_append] at m
              rcases m with m | m
              · exact (mem_keysOf.mp m).2
              · obtain ⟨z, _, e⟩ := List.mem_map.mp m
                have : wd = fi := (Prod.mk.inj e).1
                omega
          have hFin : Fin cm rn tb fi sx (sx + wd) := by
            refine ⟨hbf.1, ?_, ?_, hA.srt, hA.bd, fun r hr e1 h1 h2 h3 => ?_, fun r hr e1 h1 h2 => ?_, fun pt hpt h1 h2 => ?_⟩
            · rw [← et0]
              exact Int.dvd_trans hpw.2 (cel_dvd _ _)
            · rw [← et0]
              exact Int.dvd_add (Int.dvd_trans hpw.2 (cel_dvd _ _)) hpw.2
            · refine hA.inC (i - 1) fi hfi r hr e1 fun t ht e => ?_
              obtain ⟨q, hq, e3, e4⟩ := (hrnf r.s).mp (mem_celsOf.mpr ⟨t, ht, e⟩)
              exact h3 q hq ⟨e3, e4⟩
            · obtain ⟨t, ht, e⟩ := mem_celsOf.mp ((hrnf r.s).mpr ⟨r, hr, e1, rfl⟩)
              refine ⟨by rw [← e]; exact cel_dvd _ _, ?_⟩
              rw [hfd5 r hr, e1]
            · rcases hA.cov (i - 1) fi wd hfi (by rw [show i - 1 + 1 = i by omega]; exact hwd) t0 ht0 pt hpt (by rw [et0]; exact h1) (by rw [et0]; exact h2) with h | ⟨t', ht', e⟩
              · exact .inl h
              · exact .inr ((hrnf _).mp (mem_celsOf.mpr ⟨t', ht', e⟩))
          refine ⟨_, rfl, g, dx5, _, rfl, hg5, lk_whole_of _ _ _ _, _, rfl, _, rfl, _, rfl, _, rfl, _, rfl, _, _, rfl, rfl, _, rfl, g, wt, cd, ed, rd, b, ws, cm, rn, tb, fi, sx, sx + wd, rfl, hG5, hR5, hFin, k5.tb hTb, fun H8 x8 k8 h8 => ?_⟩
          refine ⟨_, rfl, _, rfl, _, rfl, two_le, fun q nq => ?_⟩
          obtain ⟨H9, f1, f2⟩ := fin H8 x8 k8 h8 q nq
          exact ⟨rd, H9, rfl, f1, f2⟩
      · rintro σ H5 ⟨o7', o8', rn, rfl, k5, hp5, hR5, hks5, hfd5, hln5⟩
        rw [hyx] at hks5 hln5
        rw [List.take_length] at hks5
        refine ⟨_, rfl, some (.int wd), o7', o8', rn, ?_, k5, hR5, ?_, hfd5, ?_⟩
        · have : finV ws (i + 1) = .int wd := by
            unfold finV
            rw [if_neg (by omega), List.getD_eq_getElem?_getD, show i + 1 - 1 = i by omega, hwd]
            rfl
          rw [this]
          rfl
        · rw [hks5, take_snoc hwd, ey]
          unfold keysOf
          rw [List.flatMap_append]
          simp
        · omega
  · rintro σ H1 ⟨o6, o7, o8, rn, rfl, k2, hR, hks, hfd, hln⟩
    rw [hxl, List.take_length] at hks
    exact ⟨_, rfl, k H1 rd rn k2 hR ⟨hks, hfd⟩ nrd⟩
end
end Tg
/-! TgG6 -/
set_option Elab.async false
set_option linter.all false
set_option maxRecDepth 100000
set_option maxHeartbeats 4000000
/-! Grains.renew -/
namespace Tg
open PySem PySem.Spec PyProof.Rows L2 LamX NdefX TgM
section
variable {X : Cx}
theorem op_neF (T : Ev X.K X.mg X.base) (hr : Room 3 X.A) : OpR X (compareOp .NotEq) (rEqOwn T.cF (sp_Feq T.cF) true) := by
  obtain ⟨f, fd, F, M⟩ := T.e_Feq
  exact op_neOwn (k_Feq T F) hr M.at_ M.fn (F.bindsN (fun _ _ _ _ _ _ us hl => match us, hl with | [_, _], _ => rfl)) T.neF T.obF
theorem op_eqF (T : Ev X.K X.mg X.base) (hr : Room 2 X.A) : OpR X (compareOp .Eq) (rEqOwn T.cF (sp_Feq T.cF) false) := by
  obtain ⟨f, fd, F, M⟩ := T.e_Feq
  exact op_eqOwn (k_Feq T F) hr M.at_ M.fn (F.bindsN (fun _ _ _ _ _ _ us hl => match us, hl with | [_, _], _ => rfl))
end
theorem Kp.drop {C : Addr} {T : List (Addr × Str)} {M : List Addr} {H H1 H2 : Hp} {x : Addr} (hx : H x = none) (a : Kp C T M H H1) (b : Kp C T (x :: M) H1 H2) : Kp C T M H H2 := by
  refine ⟨fun c o e n => ?_, fun t => b.tb (a.tb t)⟩
  refine b.st c o (a.st c o e n) (n.elim (fun z => .inl ⟨fun m => ?_, z.2⟩) .inr)
  rcases List.mem_cons.mp m with m | m
  · rw [m, hx] at e
    cases e
  · exact z.1 m
/-! ### records written -/
def putR (cm : List Rc) (r : Rc) : List Rc := if (cm.any fun q => decide (q.w = r.w ∧ q.s = r.s)) = true then cm.map fun q => if q.w = r.w ∧ q.s = r.s then r else q else cm ++ [r]
theorem putR_ent (cm : List Rc) (r : Rc) : putK (cm.map ent) (kyR r.w r.s) (.ref r.t) = (putR cm r).map ent := by
  have ea : ((cm.map ent).any fun kv => decide (kv.1 = kyR r.w r.s)) = cm.any fun q => decide (q.w = r.w ∧ q.s = r.s) := by
    rw [List.any_map]
    congr 1
    funext q
    show decide (kyR q.w q.s = kyR r.w r.s) = decide _
    exact decide_eq_decide.mpr kyR_inj
  unfold putK putR
  rw [show ((cm.map ent).any fun kv => decide (kv.1 = kyR r.w r.s)) = _ from ea]
  split
  · rw [List.map_map, List.map_map]
    refine List.map_congr_left fun q _ => ?_
    show (if kyR q.w q.s = kyR r.w r.s then (kyR q.w q.s, V.ref r.t) else ent q) = ent (if q.w = r.w ∧ q.s = r.s then r else q)
    by_cases h : q.w = r.w ∧ q.s = r.s
    · rw [if_pos h, if_pos (show kyR q.w q.s = kyR r.w r.s from kyR_inj.mpr h)]
      show (kyR q.w q.s, V.ref r.t) = _
      rw [h.1, h.2]
      rfl
    · rw [if_neg h, if_neg (show ¬ kyR q.w q.s = kyR r.w r.s from fun z => h (kyR_inj.mp z))]
  · rw [List.map_append]
    rfl
theorem mem_putR {cm : List Rc} {r x : Rc} (h : x ∈ putR cm r) : x = r ∨ (x ∈ cm ∧ ¬ (x.w = r.w ∧ x.s = r.s)) := by
  unfold putR at h
  split at h
  · obtain ⟨q, hq, e⟩ := List.mem_map.mp h
    by_cases z : q.w = r.w ∧ q.s = r.s
    · rw [if_pos z] at e
      exact .inl e.symm
    · rw [if_neg z] at e
      subst e
      exact .inr ⟨hq, z⟩
  · rename_i hn
    rcases List.mem_append.mp h with h | h
    · refine .inr ⟨h, fun z => hn ?_⟩
      exact List.any_eq_true.mpr ⟨x, h, decide_eq_true z⟩
    · exact .inl (List.mem_singleton.mp h)
theorem putR_self (cm : List Rc) (r : Rc) : r ∈ putR cm r := by
  unfold putR
  split
  · rename_i h
    obtain ⟨q, hq, e⟩ := List.any_eq_true.mp h
    exact List.mem_map.mpr ⟨q, hq, if_pos (of_decide_eq_true e)⟩
  · simp
theorem putR_old {cm : List Rc} {r x : Rc} (h : x ∈ cm) (n : ¬ (x.w = r.w ∧ x.s = r.s)) : x ∈ putR cm r := by
  unfold putR
  split
  · exact List.mem_map.mpr ⟨x, h, if_neg n⟩
  · simp [h]
theorem putR_len (cm : List Rc) (r : Rc) : (putR cm r).length ≤ cm.length + 1 := by
  unfold putR
  split
  · simp
  · simp
theorem putR_nd {cm : List Rc} (r : Rc) (h : (cm.map fun r => (r.w, r.s)).Nodup) : ((putR cm r).map fun r => (r.w, r.s)).Nodup := by
  unfold putR
  split
  · rw [List.map_map]
    have : ((fun r : Rc => (r.w, r.s)) ∘ fun q => if q.w = r.w ∧ q.s = r.s then r else q) = fun r => (r.w, r.s) := by
      funext q
      show ((if q.w = r.w ∧ q.s = r.s then r else q).w, (if q.w = r.w ∧ q.s = r.s then r else q).s) = (q.w, q.s)
      by_cases z : q.w = r.w ∧ q.s = r.s
      · rw [if_pos z, z.1, z.2]
      · rw [if_neg z]
    rw [this]
    exact h
  · rename_i hn
    rw [List.map_append, List.nodup_append]
    refine ⟨h, by simp, fun a ha b hb e => hn ?_⟩
    obtain ⟨q, hq, eq⟩ := List.mem_map.mp ha
    rw [List.map_cons, List.map_nil, List.mem_singleton] at hb
    rw [e, hb] at eq
    exact List.any_eq_true.mpr ⟨q, hq, decide_eq_true ⟨(Prod.mk.inj eq).1, (Prod.mk.inj eq).2⟩⟩
theorem lookR_of {cm : List Rc} (h : (cm.map fun r => (r.w, r.s)).Nodup) {r : Rc} (hr : r ∈ cm) : lookR cm r.w r.s = some r := by
  cases e : lookR cm r.w r.s with
  | none => exact absurd ⟨rfl, rfl⟩ (lookR_none e r hr)
  | some q =>
    obtain ⟨h1, h2, h3⟩ := lookR_mem e
    congr 1
    have hp : cm.Pairwise fun a b => (a.w, a.s) ≠ (b.w, b.s) := List.pairwise_map.mp h
    obtain ⟨i, hi, ei⟩ := List.mem_iff_getElem.mp h1
    obtain ⟨j, hj, ej⟩ := List.mem_iff_getElem.mp hr
    rcases Nat.lt_trichotomy i j with z | z | z
    · have := List.pairwise_iff_getElem.mp hp i j hi hj z
      rw [ei, ej, h2, h3] at this
      exact absurd rfl this
    · subst z
      rw [← ei, ← ej]
    · have := List.pairwise_iff_getElem.mp hp j i hj hi z
      rw [ei, ej, h2, h3] at this
      exact absurd rfl this
theorem fdAt_of {cm : List Rc} (h : (cm.map fun r => (r.w, r.s)).Nodup) {r : Rc} (hr : r ∈ cm) : fdAt cm r.w r.s = r.F := by
  unfold fdAt
  rw [lookR_of h hr]
theorem fdAt_no {cm : List Rc} {w s : Int} (h : ∀ r ∈ cm, ¬ (r.w = w ∧ r.s = s)) : fdAt cm w s = F0 := by
  unfold fdAt
  cases e : lookR cm w s with
  | none => rfl
  | some q =>
    obtain ⟨h1, h2, h3⟩ := lookR_mem e
    exact absurd ⟨h2, h3⟩ (h q h1)
/-- what renewing does to the records -/
structure RnwOk (cm cm' : List Rc) (ks : List (Int × Int)) (tb : List Pt) : Prop where
  a : ∀ r' ∈ cm', ((r'.w, r'.s) ∈ ks ∧ r'.F = fo (pin tb r'.s (r'.s + r'.w))) ∨ ((r'.w, r'.s) ∉ ks ∧ ∃ r ∈ cm, r.w = r'.w ∧ r.s = r'.s ∧ r.F = r'.F)
  b : ∀ r ∈ cm, ∃ r' ∈ cm', r'.w = r.w ∧ r'.s = r.s
  c : ∀ k ∈ ks, (∃ r' ∈ cm', r'.w = k.1 ∧ r'.s = k.2) ∨ fo (pin tb k.2 (k.2 + k.1)) = F0
/-- a change told -/
abbrev Chg := Int × Int × Fd × Fd
structure ChAt (C : Addr) (H : Hp) (ch : Addr) (rows : List (Addr × Addr × Addr × Chg)) : Prop where
  ls : H ch = some (.lst (rows.map fun x => .ref x.1))
  row : ∀ x ∈ rows, H x.1 = some (.tup [.int x.2.2.2.1, .int x.2.2.2.2.1, .ref x.2.1, .ref x.2.2.1]) ∧ FoldAt C H x.2.1 x.2.2.2.2.2.1 ∧ FoldAt C H x.2.2.1 x.2.2.2.2.2.2
theorem ChAt.kp {C : Addr} {T : List (Addr × Str)} {M : List Addr} {H H' : Hp} {ch : Addr} {rows : List (Addr × Addr × Addr × Chg)} (k : Kp C T M H H') (hm : ch ∉ M) (h : ChAt C H ch rows) : ChAt C H' ch rows := ⟨k.at h.ls hm, fun x hx => let ⟨a, b, c⟩ := h.row x hx; ⟨k.tup a, b.kp k, c.kp k⟩⟩
def chg1 (cm : List Rc) (tb : List Pt) (k : Int × Int) : Option Chg := if fdAt cm k.1 k.2 = fo (pin tb k.2 (k.2 + k.1)) then none else some (k.1, k.2, fdAt cm k.1 k.2, fo (pin tb k.2 (k.2 + k.1)))
section
variable {P : Program} {w : World} {K : PySem.W.Frag} {mg : Str → Option Value} {base : Heap}
def sp_renew (P : Program) (w : World) (T : Ev K mg base) : Sp := fun vs H Q _ => ∃ (g wt cd ed tl pf : Addr) (ws : List Int) (cm : List Rc) (ts : List Int) (tb l : List Pt) (n : Int), vs = [.ref g, .int 5, .ref tl, .ref pf, .int n] ∧ Gr T.cG T.cF H g wt cd ed false ws cm ∧
  SqL K H tl (ts.map V.int) ∧ TellAt P w K mg base H pf l ∧ AnewOk cm ws ts tb l ∧ Tabs T.T H ∧ cm.length + 4 * ts.length ≤ 10000 ∧
  ∀ H' ch cm' rows, Kp T.cF T.T [g, cd] H H' → Gr T.cG T.cF H' g wt cd ed false ws cm' → RnwOk cm cm' (keysOf ws ts) tb → ChAt T.cF H' ch rows → rows.map (·.2.2.2) = (keysOf ws ts).filterMap (chg1 cm tb) → cm'.length ≤ cm.length + 4 * ts.length → Q (.ref ch) H'
theorem keysOf_len (ts : List Int) : ∀ ws : List Int, (keysOf ws ts).length ≤ ws.length * ts.length
  | [] => by simp [keysOf]
  | w :: ws => by
    have ih := keysOf_len ts ws
    have h := celsOf_len ts w
    have e : keysOf (w :: ws) ts = (celsOf ts w).map (fun s => (w, s)) ++ keysOf ws ts := by simp [keysOf]
    rw [e, List.length_append, List.length_map, List.length_cons, Nat.succ_mul]
    omega
theorem keysOf_nd {ws ts : List Int} (h : ws.Pairwise (· < ·)) : (keysOf ws ts).Nodup := by
  induction ws with
  | nil => simp [keysOf]
  | cons w ws ih =>
    rw [List.pairwise_cons] at h
    have e : keysOf (w :: ws) ts = (celsOf ts w).map (fun s => (w, s)) ++ keysOf ws ts := by simp [keysOf]
    rw [e, List.nodup_append]
    refine ⟨List.Pairwise.map _ (fun a b hab z => hab (Prod.mk.inj z).2) (celsOf_up ts w).nd, ih h.2, fun a ha b hb z => ?_⟩
    obtain ⟨s, _, e1⟩ := List.mem_map.mp ha
    subst z
    rw [← e1] at hb
    have := h.1 w (mem_keysOf.mp hb).1
    omega
theorem sc_renew : FnScope ["self", "place", "times", "points_in", "number", "renewed", "changes", "width", "start", "new", "old"] ["self", "place", "times", "points_in", "number"] (defScope s_renew) := ⟨rfl, rfl, rfl, by decide +kernel, rfl, by decide +kernel, by decide +kernel⟩
theorem k_renew (T : Ev K mg base) {f : Addr} {fd : FuncData} (F : FunD K "renew" "Grains.renew" (defArgs s_renew) (defBody s_renew) (defScope s_renew) [] [] f fd) : FnOk P w K mg base CX0 7 f fd ["self", "place", "times", "points_in", "number"] (sp_renew P w T) := by
  refine okC F sc_renew (fun vs H Q E h => by obtain ⟨_, _, _, _, _, _, _, _, _, _, _, _, rfl, _⟩ := h; rfl) (fun cdv A outer s H vs Q E hcd hr h => ?_)
  obtain ⟨g, wt, cd, ed, tl, pf, ws, cm, ts, tb, l, n, rfl, hG, htl, hTl, hA, hTb, hbig, k⟩ := h
  obtain ⟨⟨dx, hg⟩, hw, hc, wok⟩ := id hG
  have hu := hu_of hr
  refine ⟨_, (pss_cons (ps_if (pt_val (pe_fldC T.clG (T.naG _ (by decide)) (pv 0))) (pss_one ps_never)
        pss_nil)
      (pss_cons (ps_fld (pv 0) pe_bl rfl)
      (pss_cons (ps_fin0 (pss_one (ps_set (i := 5) sc_renew.nd rfl (Or.inl rfl) (C8.pe_mt (m_made_anew T) hr (by decide) (pv 0) (pa_cons (pv 1) (pa_cons (pv 2) (pa_cons (pv 3) pa_nil)))))) (pss_one (ps_fld (pv 0) pe_bl rfl)))
      (pss_cons (ps_set (i := 6) sc_renew.nd rfl (Or.inl rfl) (pe_lst pa_nil))
      (pss_cons (ps_lock (ps_for PassesOwn.never rfl (TgI.pi_itemsT (pv 5)) (pg_tup rfl (pgs_cons (pg_tup rfl (pgs_cons (pg_name (i := 7) sc_renew.nd rfl (Or.inl rfl)) (pgs_cons (pg_name (i := 8) sc_renew.nd rfl (Or.inl rfl)) pgs_nil))) (pgs_cons (pg_name (i := 9) sc_renew.nd rfl (Or.inl rfl)) pgs_nil)))
        (pss_cons (ps_set (i := 10) sc_renew.nd rfl (Or.inl rfl) (C8.pe_mt (m_fold_at T) hr (by decide) (pv 0) (pa_cons (pv 1) (pa_cons (pv 7) (pa_cons (pv 8) pa_nil)))))
        (pss_one (ps_if (pt_cmpR (op_neF T (hr.mono (by decide))) (pv 10) (pv 9) (nomark _)) (pss_cons (ps_expr (pe_bm PySem.F.plainAttrs_list PySem.F.slot_list_append PySem.F.type_list_append mt_append (pv 6) (pa_cons (pe_tup (pa_cons (pv 7) (pa_cons (pv 8) (pa_cons (pv 10) (pa_cons (pv 9) pa_nil))))) pa_nil)))
          (pss_one (ps_dput hu (pe_fldC T.clG (T.naG _ (by decide)) (pv 0)) (pe_tup (pa_cons (pv 1) (pa_cons (pv 7) (pa_cons (pv 8) pa_nil)))) (pe_tup (pa_cons (pv 9) (pa_cons (pv 4) pa_nil))) rfl)))
          pss_nil)))))
      (pss_one (ps_ret (pv 6)))))))), ?_⟩
  refine ⟨_, rfl, g, dx, _, _, rfl, hg, lk_busy _ _ _ _, false, rfl, iteF ?_⟩
  refine ⟨_, rfl, g, T.cG, dx, _, rfl, hg, T.clG, T.naG _ (by decide), (by show 4 < 1000; decide), ?_⟩
  have eb : putF ("busy" : Str) (.bl true) (gFs wt cd ed false) = gFs wt cd ed true := by kernel_rfl
  rw [eb]
  have k1 : Kp T.cF T.T [g] H (upd H g (.ins T.cG dx (gFs wt cd ed true))) := Kp.set hg (by simp) T.FG
  have gcd : g ≠ cd := fun z => by rw [z, hc.dc] at hg; cases hg
  have gtl : tl ≠ g ∨ True := .inr trivial
  have hG1 : Gr T.cG T.cF (upd H g (.ins T.cG dx (gFs wt cd ed true))) g wt cd ed true ws cm := ⟨⟨dx, upd_same⟩, hw.kp k1, hc.kp k1 (by simpa using gcd.symm), wok⟩
  have htl1 : SqL K (upd H g (.ins T.cG dx (gFs wt cd ed true))) tl (ts.map V.int) := by
    unfold SqL at htl ⊢
    rcases htl with h | h
    · refine .inl (h.elim (fun e => .inl (k1.at e ?_)) fun ⟨ob, e⟩ => .inr ⟨ob, k1.at e ?_⟩)
      · intro m
        rw [List.mem_singleton.mp m, hg] at e
        cases e
      · intro m
        rw [List.mem_singleton.mp m, hg] at e
        cases e
    · exact .inr h
  refine ⟨_, rfl, g, dx, _, rfl, upd_same, lk_made_anew _ _ _ _, _, rfl, _, rfl, _, rfl, g, wt, cd, ed, tl, pf, true, ws, cm, ts, tb, l, rfl, hG1, htl1, hTl.kpi hg k1, hA, k1.tb hTb, fun H2 rd rn k2 hR hRn nrd => ?_⟩
  have hG2 := hG1.kp k2 (by simp) (by simp)
  obtain ⟨⟨dx2, hg2⟩, hw2, hc2, _⟩ := id hG2
  refine ⟨_, rfl, g, T.cG, dx2, _, rfl, hg2, T.clG, T.naG _ (by decide), (by show 4 < 1000; decide), ?_⟩
  have eb2 : putF ("busy" : Str) (.bl false) (gFs wt cd ed true) = gFs wt cd ed false := by kernel_rfl
  rw [eb2]
  have k3 : Kp T.cF T.T [g] H2 (upd H2 g (.ins T.cG dx2 (gFs wt cd ed false))) := Kp.set hg2 (by simp) T.FG
  have rdg : rd ≠ g := fun z => by
    have := hR.dc
    rw [z, hg2] at this
    cases this
  have hR3 := hR.kp k3 (by simpa using rdg)
  have hG3 : Gr T.cG T.cF (upd H2 g (.ins T.cG dx2 (gFs wt cd ed false))) g wt cd ed false ws cm := ⟨⟨dx2, upd_same⟩, hw2.kp k3, hc2.kp k3 (by simpa using gcd.symm), wok⟩
  have kA : Kp T.cF T.T [g, cd] H (upd H2 g (.ins T.cG dx2 (gFs wt cd ed false))) := ((k1.mono (by simp)).trans (k2.mono (by simp))).trans (k3.mono (by simp))
  generalize upd H2 g (.ins T.cG dx2 (gFs wt cd ed false)) = H3 at k3 hR3 hG3 kA ⊢
  refine ⟨Nat.zero_le _, fun ch nch => ?_⟩
  have k4 : Kp T.cF T.T [] H3 (upd H3 ch (.lst [])) := Kp.new nch
  have hR4 := hR3.kp k4 (by simp)
  have hG4 := hG3.kp k4 (by simp) (by simp)
  refine ⟨rd, _, hR4.dc, trivial, fun od => ?_⟩
  refine ⟨_, rfl, rd, od, _, rfl, upd_same, ?_⟩
  have hnx : (rn.map entN).length = rn.length := List.length_map _
  have hnd : (rn.map fun r => (r.w, r.s)).Nodup := by
    rw [hRn.ks]
    exact keysOf_nd (wok.pw.imp fun h => h.1)
  have hrl : rn.length ≤ 4 * ts.length := by
    have h1 := congrArg List.length hRn.ks
    rw [List.length_map] at h1
    rw [h1]
    exact Nat.le_trans (keysOf_len ts ws) (Nat.mul_le_mul_right _ wok.len)
  have rch : rd ≠ ch := ne_of_none hR3.dc nch
  have hchL : (upd (upd H3 ch (.lst [])) rd (.frz od (.dT (rn.map entN)))) ch = some (.lst []) := by rw [upd_ne rch.symm, upd_same]
  obtain ⟨⟨dx4, hg4⟩, hw4, hc4, _⟩ := id hG4
  have kF : Kp T.cF T.T [rd] (upd H3 ch (.lst [])) (upd (upd H3 ch (.lst [])) rd (.frz od (.dT (rn.map entN)))) := Kp.set hR4.dc (by simp) trivial
  have rg4 : rd ≠ g := fun z => by
    have := hR4.dc
    rw [z, hg4] at this
    cases this
  have rdcd : cd ≠ rd := ne_of_none hG1.cs.dc nrd
  have hGL := hG4.kp kF (by simpa using rg4.symm) (by simpa using rdcd)
  have hfl : ∀ r ∈ rn, FoldAt T.cF (upd (upd H3 ch (.lst [])) rd (.frz od (.dT (rn.map entN)))) r.f r.F := fun r h => (hR4.fl r h).kp kF
  have chcd : ch ≠ cd := fun z => by rw [z, hG3.cs.dc] at nch; cases nch
  have chg : ch ≠ g := fun z => by
    obtain ⟨⟨dx3, hg3⟩, _⟩ := id hG3
    rw [z, hg3] at nch
    cases nch
  refine for_it (TgI.walk_itemsT (d := rd) (o := od) (kvs := rn.map entN)) (fun i σ H' => ∃ (o7 o8 o9 o10 : Option V) (cmi : List Rc) (rows : List (Addr × Addr × Addr × Chg)), σ = [some (.ref g), some (.int 5), some (.ref tl), some (.ref pf), some (.int n), some (.ref rd), some (.ref ch), o7, o8, o9, o10] ∧
      Kp T.cF T.T [ch, cd] (upd (upd H3 ch (.lst [])) rd (.frz od (.dT (rn.map entN)))) H' ∧ Gr T.cG T.cF H' g wt cd ed false ws cmi ∧ ChAt T.cF H' ch rows ∧ rows.map (·.2.2.2) = ((rn.take i).map fun r => (r.w, r.s)).filterMap (chg1 cm tb) ∧ RnwOk cm cmi ((rn.take i).map fun r => (r.w, r.s)) tb ∧ cmi.length ≤ cm.length + i ∧ rows.length ≤ i)
    ⟨none, none, none, none, cm, [], rfl, Kp.refl _, hGL, ⟨hchL, fun x hx => by simp at hx⟩, rfl, ⟨fun r hr => .inr ⟨by simp, r, hr, rfl, rfl, rfl⟩, fun r hr => ⟨r, hr, rfl, rfl⟩, by simp⟩, by simp, by simp⟩
    (fun i σ H' _ ⟨_, _, _, _, _, _, _, k5, _⟩ => k5.at upd_same (by simpa using ⟨rch, rdcd.symm⟩)) ?_ ?_
  · rintro i x σ H5 H6 hi ⟨o7, o8, o9, o10, cmi, rows, rfl, k5, hG5, hC5, hrows, hOk, hlen5, hrl5⟩ ⟨Tp, kk, v, q, hkv, rfl, nT, hq, rfl⟩
    rw [hnx] at hi
    obtain ⟨r, hr1⟩ : ∃ r, rn[i]? = some r := ⟨_, List.getElem?_eq_getElem hi⟩
    obtain ⟨rfl, rfl⟩ := kn_at hr1 hkv
    have hrm := List.mem_of_getElem? hr1
    have kT : Kp T.cF T.T [] H5 (upd H5 Tp (.tup [.ref q, .ref r.f])) := Kp.new nT
    have hG6 := hG5.kp kT (by simp) (by simp)
    obtain ⟨⟨dx6, hg6⟩, _⟩ := id hG6
    have hkey : (r.w, r.s) ∈ keysOf ws ts := by
      rw [← hRn.ks]
      exact List.mem_map.mpr ⟨r, hrm, rfl⟩
    obtain ⟨hwm, hsm⟩ := mem_keysOf.mp hkey
    obtain ⟨t0, ht0, et0⟩ := mem_celsOf.mp hsm
    have hbw := wok.bd _ hwm
    have hcs : cel r.s r.w = r.s := by
      rw [← et0]
      exact cel_eq hbw.1 (cel_dvd _ _) (Int.le_refl _) (by omega)
    have hrF := hRn.fd r hrm
    have hkn : (r.w, r.s) ∉ (rn.take i).map fun r => (r.w, r.s) := by
      intro m
      obtain ⟨r', hr', e⟩ := List.mem_map.mp m
      obtain ⟨j, hj⟩ := List.mem_iff_getElem?.mp hr'
      have hji : j < i := by
        have := (List.getElem?_eq_some_iff.mp hj).1
        rw [List.length_take] at this
        omega
      rw [List.getElem?_take_of_lt hji] at hj
      have h1 : (rn.map fun r => (r.w, r.s))[j]? = some (r'.w, r'.s) := by rw [List.getElem?_map, hj]; rfl
      have h2 : (rn.map fun r => (r.w, r.s))[i]? = some (r.w, r.s) := by rw [List.getElem?_map, hr1]; rfl
      obtain ⟨b1, e1⟩ := List.getElem?_eq_some_iff.mp h1
      obtain ⟨b2, e2⟩ := List.getElem?_eq_some_iff.mp h2
      have := List.pairwise_iff_getElem.mp hnd j i b1 b2 hji
      rw [e1, e2, e] at this
      exact this rfl
    have hold : fdAt cmi r.w r.s = fdAt cm r.w r.s := by
      cases e : lookR cmi r.w r.s with
      | none =>
        have h1 := lookR_none e
        rw [fdAt_no h1, fdAt_no fun r0 hr0 z => ?_]
        obtain ⟨r', hr', e1, e2⟩ := hOk.b r0 hr0
        exact h1 r' hr' ⟨e1.trans z.1, e2.trans z.2⟩
      | some r' =>
        obtain ⟨h1, h2, h3⟩ := lookR_mem e
        rcases hOk.a r' h1 with ⟨z, _⟩ | ⟨_, r0, hr0, e1, e2, e3⟩
        · rw [h2, h3] at z
          exact absurd z hkn
        · have a1 := fdAt_of hG5.cs.nd h1
          have a2 := fdAt_of hG3.cs.nd hr0
          rw [h2, h3] at a1
          rw [e1, e2, h2, h3] at a2
          rw [a1, a2, e3]
    have hts := take_snoc hr1
    have hmap : ((rn.take (i + 1)).map fun r => (r.w, r.s)) = ((rn.take i).map fun r => (r.w, r.s)) ++ [(r.w, r.s)] := by rw [hts, List.map_append]; rfl
    refine ⟨Tp, _, rfl, SqT.of upd_same, rfl, _, _, rfl, ⟨q, _, rfl, SqT.of (kT.tup hq), rfl, _, _, rfl, _, _, rfl, rfl, _, _, rfl, rfl, ?_⟩⟩
    refine ⟨_, rfl, g, dx6, _, rfl, hg6, lk_fold_at _ _ _ _, _, rfl, _, rfl, _, rfl, g, wt, cd, ed, false, ws, cmi, r.w, r.s, rfl, hG6, hwm, fun H7 fo1 k7 hf1 => ?_⟩
    rw [hcs, hold] at hf1
    have k57 : Kp T.cF T.T [] H5 H7 := kT.trans k7
    have hf2 : FoldAt T.cF H7 r.f r.F := ((hfl r hrm).kp k5).kp k57
    obtain ⟨dy1, a1, a2, hd1, _⟩ := id hf1
    obtain ⟨dy2, b1, b2, hd2, _⟩ := id hf2
    refine ⟨_, rfl, _, rfl, fo1, r.f, dy1, dy2, _, _, rfl, rfl, hd1, hd2, fo1, r.f, _, _, rfl, hf1, hf2, fun H8 s8 => ⟨_, rfl, _, rfl, ?_⟩⟩
    have k58 : Kp T.cF T.T [] H5 H8 := k57.trans (.of s8)
    have hG8 := hG5.kp k58 (by simp) (by simp)
    have hC8 := hC5.kp k58 (by simp)
    obtain ⟨⟨dx8, hg8⟩, _, hc8, _⟩ := id hG8
    by_cases heq : fdAt cm r.w r.s = r.F
    · show if (!decide (fdAt cm r.w r.s = r.F)) = true then _ else _
      rw [decide_eq_true heq]
      refine iteF ⟨_, _, _, _, cmi, rows, rfl, k5.trans (k58.mono (by simp)), hG8, hC8, ?_, ⟨fun r' hr' => ?_, hOk.b, fun kk hk => ?_⟩, by omega, by omega⟩
      · rw [hmap, List.filterMap_append, hrows]
        have : chg1 cm tb (r.w, r.s) = none := if_pos (by rw [heq, hrF])
        simp [this]
      · rw [hmap]
        rcases hOk.a r' hr' with ⟨z, z2⟩ | ⟨z, r0, hr0, e1, e2, e3⟩
        · exact .inl ⟨List.mem_append_left _ z, z2⟩
        · by_cases e : (r'.w, r'.s) = (r.w, r.s)
          · refine .inl ⟨by rw [e]; simp, ?_⟩
            have a2 := fdAt_of hG3.cs.nd hr0
            rw [← e3, ← a2, e1, e2, (Prod.mk.inj e).1, (Prod.mk.inj e).2, heq, hrF]
          · refine .inr ⟨fun m => ?_, r0, hr0, e1, e2, e3⟩
            rcases List.mem_append.mp m with m | m
            · exact z m
            · exact e (List.mem_singleton.mp m)
      · rw [hmap] at hk
        rcases List.mem_append.mp hk with m | m
        · exact hOk.c kk m
        · rw [List.mem_singleton.mp m]
          cases e : lookR cmi r.w r.s with
          | some r' =>
            obtain ⟨h1, h2, h3⟩ := lookR_mem e
            exact .inl ⟨r', h1, h2, h3⟩
          | none =>
            refine .inr ?_
            show fo (pin tb r.s (r.s + r.w)) = F0
            rw [← hrF, ← heq, ← hold]
            exact fdAt_no (lookR_none e)
    · show if (!decide (fdAt cm r.w r.s = r.F)) = true then _ else _
      rw [decide_eq_false heq]
      have hrl6 : (rows.map fun x => V.ref x.1).length < sizeLine := by
        rw [List.length_map]
        exact Nat.lt_of_le_of_lt (Nat.le_trans hrl5 (by have := hR.ln; omega : i ≤ 10000)) (by decide)
      refine iteT ⟨_, rfl, .inl ⟨rfl, _, SqL.of hC8.ls⟩, _, rfl, _, rfl, _, rfl, _, rfl, (by show 4 ≤ sizeLine; decide), fun p np => ⟨ch, _, _, rfl, rfl, (Same.new np) _ _ hC8.ls, hrl6, ?_⟩⟩
      have k9 : Kp T.cF T.T [] H8 (upd H8 p (.tup [.int r.w, .int r.s, .ref fo1, .ref r.f])) := Kp.new np
      have k10 : Kp T.cF T.T [ch] _ (upd (upd H8 p (.tup [.int r.w, .int r.s, .ref fo1, .ref r.f])) ch (.lst (rows.map (fun x => V.ref x.1) ++ [.ref p]))) := Kp.set (k9.any hC8.ls) (by simp) trivial
      refine ⟨_, rfl, _, rfl, two_le, fun t nt => ?_⟩
      have k11 : Kp T.cF T.T [] _ (upd (upd (upd H8 p (.tup [.int r.w, .int r.s, .ref fo1, .ref r.f])) ch (.lst (rows.map (fun x => V.ref x.1) ++ [.ref p]))) t (.tup [.ref r.f, .int n])) := Kp.new nt
      have hG11 := ((hG8.kp k9 (by simp) (by simp)).kp k10 (by simpa using chg.symm) (by simpa using chcd.symm)).kp k11 (by simp) (by simp)
      obtain ⟨⟨dx11, hg11⟩, _, hc11, _⟩ := id hG11
      refine ⟨_, rfl, g, dx11, _, _, rfl, hg11, lk_cells _ _ _ _, _, rfl, _, rfl, _, rfl, (by show 3 ≤ sizeLine; decide), fun kq nkq => ?_⟩
      have k12 : Kp T.cF T.T [] _ (upd (upd (upd (upd H8 p (.tup [.int r.w, .int r.s, .ref fo1, .ref r.f])) ch (.lst (rows.map (fun x => V.ref x.1) ++ [.ref p]))) t (.tup [.ref r.f, .int n])) kq (.tup [.int 5, .int r.w, .int r.s])) := Kp.new nkq
      have hG12 := hG11.kp k12 (by simp) (by simp)
      obtain ⟨⟨dx12, hg12⟩, hw12, hc12, _⟩ := id hG12
      have hci : cmi.length < sizeLine := Nat.lt_of_le_of_lt hc12.ln (by decide)
      refine ⟨cd, _, rfl, DPut.t (k := kyR r.w r.s) hc12.dc upd_same (by rw [List.length_map]; exact hci), ?_⟩
      have kC : Kp T.cF T.T [cd] _ (upd (upd (upd (upd (upd H8 p (.tup [.int r.w, .int r.s, .ref fo1, .ref r.f])) ch (.lst (rows.map (fun x => V.ref x.1) ++ [.ref p]))) t (.tup [.ref r.f, .int n])) kq (.tup [.int 5, .int r.w, .int r.s])) cd (.dT (putK (cmi.map ent) (kyR r.w r.s) (.ref t)))) := Kp.set hc12.dc (by simp) trivial
      let r2 : Rc := ⟨r.w, r.s, r.F, t, r.f, n⟩
      have hput : putK (cmi.map ent) (kyR r.w r.s) (.ref t) = (putR cmi r2).map ent := putR_ent cmi r2
      have hlr := putR_len cmi r2
      have k8e : Kp T.cF T.T [ch, cd] H8 _ := (k9.mono (by simp)).trans ((k10.mono (by simp)).trans ((k11.mono (by simp)).trans ((k12.mono (by simp)).trans (kC.mono (by simp)))))
      have hf2e := hf2.kp (T := T.T) (M := []) (.of s8)
      refine ⟨_, _, _, _, putR cmi r2, rows ++ [(p, fo1, r.f, r.w, r.s, fdAt cm r.w r.s, r.F)], rfl, (k5.trans (k58.mono (by simp))).trans k8e, ⟨⟨dx12, kC.at hg12 (by simpa using gcd)⟩, hw12.kp kC, ⟨?_, fun r' hr' => ?_, putR_nd _ hc12.nd, by omega⟩, wok⟩, ⟨?_, fun x hx => ?_⟩, ?_, ⟨fun r' hr' => ?_, fun r0 hr0 => ?_, fun kk hk => ?_⟩, by omega, ?_⟩
      · rw [upd_same, hput]
      · rcases mem_putR hr' with e | ⟨h1, _⟩
        · rw [e]
          exact ⟨kC.tup (k12.tup upd_same), hf2e.kp k8e⟩
        · exact (hc12.rc r' h1).kp kC
      · rw [List.map_append]
        exact kC.at (k12.at (k11.at upd_same (by simp)) (by simp)) (by simpa using chcd)
      · rcases List.mem_append.mp hx with hx | hx
        · obtain ⟨c1, c2, c3⟩ := hC8.row x hx
          exact ⟨k8e.tup c1, c2.kp k8e, c3.kp k8e⟩
        · rw [List.mem_singleton.mp hx]
          refine ⟨kC.tup (k12.tup (k11.tup (k10.tup upd_same))), ?_, hf2e.kp k8e⟩
          exact (hf1.kp (T := T.T) (M := []) (.of s8)).kp k8e
      · rw [hmap, List.filterMap_append, List.map_append, hrows]
        have : chg1 cm tb (r.w, r.s) = some (r.w, r.s, fdAt cm r.w r.s, r.F) := by
          unfold chg1
          rw [if_neg (by rw [← hrF]; exact heq), ← hrF]
        simp [this]
      · rw [hmap]
        rcases mem_putR hr' with e | ⟨h1, h2⟩
        · refine .inl ⟨by rw [e]; simp [r2], ?_⟩
          rw [e]
          exact hrF
        · rcases hOk.a r' h1 with ⟨z, z2⟩ | ⟨z, r0, hr0, e1, e2, e3⟩
          · exact .inl ⟨List.mem_append_left _ z, z2⟩
          · refine .inr ⟨fun m => ?_, r0, hr0, e1, e2, e3⟩
            rcases List.mem_append.mp m with m | m
            · exact z m
            · have := List.mem_singleton.mp m
              exact h2 ⟨(Prod.mk.inj this).1, (Prod.mk.inj this).2⟩
      · obtain ⟨r', hr', e1, e2⟩ := hOk.b r0 hr0
        by_cases z : r'.w = r2.w ∧ r'.s = r2.s
        · exact ⟨r2, putR_self _ _, z.1.symm.trans e1, z.2.symm.trans e2⟩
        · exact ⟨r', putR_old hr' z, e1, e2⟩
      · rw [hmap] at hk
        rcases List.mem_append.mp hk with m | m
        · rcases hOk.c kk m with ⟨r', hr', e1, e2⟩ | z
          · by_cases z : r'.w = r2.w ∧ r'.s = r2.s
            · exact .inl ⟨r2, putR_self _ _, z.1.symm.trans e1, z.2.symm.trans e2⟩
            · exact .inl ⟨r', putR_old hr' z, e1, e2⟩
          · exact .inr z
        · rw [List.mem_singleton.mp m]
          exact .inl ⟨r2, putR_self _ _, rfl, rfl⟩
      · rw [List.length_append, List.length_singleton]
        omega
  · rintro σ H5 ⟨o7, o8, o9, o10, cmi, rows, rfl, k5, hG5, hC5, hrows, hOk, hlen5, hrl5⟩
    rw [hnx] at hrows hOk hlen5
    rw [List.take_length, hRn.ks] at hrows hOk
    have hrd5 := k5.at upd_same (by simpa using ⟨rch, rdcd.symm⟩) (b := rd)
    refine ⟨hrd5, ?_⟩
    have kU : Kp T.cF T.T [rd] H5 (upd H5 rd (.dT (rn.map entN))) := Kp.set hrd5 (by simp) trivial
    have kL : Kp T.cF T.T [ch, cd] (upd H3 ch (.lst [])) (upd H5 rd (.dT (rn.map entN))) := Kp.lock hR4.dc trivial k5 hrd5
    obtain ⟨⟨dx5, hg5⟩, _, hc5, _⟩ := id hG5
    have z1 : g ≠ rd := fun z => by rw [z, hrd5] at hg5; cases hg5
    have z2 : cd ≠ rd := rdcd
    have kE : Kp T.cF T.T [cd] H3 (upd H5 rd (.dT (rn.map entN))) := Kp.drop nch (k4.mono (by simp)) kL
    refine ⟨_, rfl, k _ ch cmi rows (kA.trans (kE.mono (by simp))) (hG5.kp kU (by simpa using z1) (by simpa using z2)) hOk (hC5.kp kU (by simpa using rch.symm)) hrows (by omega)⟩
end
end Tg
/-! TgG7 -/
set_option Elab.async false
set_option linter.all false
set_option maxRecDepth 100000
set_option maxHeartbeats 4000000
/-! Grains.let_go -/
namespace Tg
open PySem PySem.Spec PyProof.Rows L2 LamX NdefX TgM
/-- the ends: a function of the width -/
structure EdAt (H : Hp) (ed : Addr) (ws : List Int) (e : Int → Option Int) : Prop where
  ex : ∃ kvs, H ed = some (.dK kvs) ∧ IntK kvs ws ∧ ∀ w ∈ ws, valV kvs (Sum.inl w : Key) = some (oI (e w))
theorem EdAt.kp {C : Addr} {T : List (Addr × Str)} {M : List Addr} {H H' : Hp} {ed : Addr} {ws : List Int} {e : Int → Option Int} (k : Kp C T M H H') (hm : ed ∉ M) (h : EdAt H ed ws e) : EdAt H' ed ws e := let ⟨kvs, a, b, c⟩ := h.ex; ⟨kvs, k.at a hm, b, c⟩
theorem dropK_ent (cm : List Rc) (w s : Int) : dropK (cm.map ent) (kyR w s) = (cm.filter fun r => decide (¬ (r.w = w ∧ r.s = s))).map ent := by
  unfold dropK
  rw [List.filter_map]
  congr 1
  refine List.filter_congr fun r _ => ?_
  show decide (kyR r.w r.s ≠ kyR w s) = _
  exact decide_eq_decide.mpr (not_congr kyR_inj)
section
variable {P : Program} {w : World} {K : PySem.W.Frag} {mg : Str → Option Value} {base : Heap}
def sp_let_go (T : Ev K mg base) : Sp := fun vs H Q _ => ∃ (g wt cd ed : Addr) (ws : List Int) (cm : List Rc) (e : Int → Option Int) (wd t : Int), vs = [.ref g, .int wd, .int t] ∧ Gr T.cG T.cF H g wt cd ed false ws cm ∧ EdAt H ed ws e ∧ wd ∈ ws ∧ (∀ x, e wd = some x → x ≤ t) ∧
  ∀ H' v cm', Kp T.cF T.T [cd, ed] H H' → Gr T.cG T.cF H' g wt cd ed false ws cm' → (∀ r, r ∈ cm' ↔ r ∈ cm ∧ ¬ (r.w = wd ∧ r.s + wd ≤ t)) → cm'.length ≤ cm.length → EdAt H' ed ws (fun y => if y = wd then some t else e y) → Q v H'
theorem sc_let_go : FnScope ["self", "width", "time", "going", "many", "key"] ["self", "width", "time"] (defScope s_let_go) := ⟨rfl, rfl, rfl, by decide +kernel, rfl, by decide +kernel, by decide +kernel⟩
theorem m_let_go (T : Ev K mg base) : C8.Met P w K mg base 2 T.cG "let_go" (sp_let_go T) [] := by
  refine metD T.clG T.e_let_go sc_let_go (fun _ _ _ _ _ _ us hl => match us, hl with | [_, _, _], _ => rfl) (fun vs H Q E h => by obtain ⟨_, _, _, _, _, _, _, _, _, rfl, _⟩ := h; rfl) (fun f cdv A outer s H vs Q E hr h => ?_)
  obtain ⟨g, wt, cd, ed, ws, cm, e, wd, t, rfl, hG, hE, hm, hle, k⟩ := h
  obtain ⟨⟨dx, hg⟩, hw, hc, wok⟩ := id hG
  obtain ⟨kvs, hed, hik, hev⟩ := id hE.ex
  have hu := hu_of hr
  have hb := wok.bd wd hm
  refine ⟨_, (pss_cons (ps_expr (C8.pe_mt (m_look T) hr (by decide) (pv 0) (pa_cons (pv 1) pa_nil)))
      (pss_cons (ps_if (pt_val (pe_fldC T.clG (T.naG _ (by decide)) (pv 0))) (pss_one ps_never)
        pss_nil)
      (pss_cons (ps_lock (ps_setLc (i := 3) (own := [("key", 5)]) rfl sc_let_go.nd rfl rfl (sw_true rfl rfl rfl (by decide +kernel)) (pi_keys (pe_fldC T.clG (T.naG _ (by decide)) (pv 0))) (blkOk_by (own := [("key", 5)]) (N := ["self", "width", "time", "going", "many", "key"]) (sc := defScope s_let_go) (by decide +kernel)) (fun _ _ _ _ _ => (pg_name (i := 5) sc_let_go.nd rfl (Or.inl rfl))) (fun _ _ _ _ _ => (pts_one (PW.pt (pw_and (pt_cmpR op_eq (pe_ix (ixTK (K := K) rfl) (pv 5) pe_int (fun _ _ => rfl)) (pv 1) (nomark _)) (pw_and1 (pt_cmpR op_le (pe_op op_add (pe_ix (ixTK (K := K) rfl) (pv 5) pe_int (fun _ _ => rfl)) (pv 1)) (pv 2) (nomark _))))))) (fun _ _ _ _ _ => (pv 5))))
      (pss_cons (ps_set (i := 4) sc_let_go.nd rfl (Or.inl rfl) (pe_callB call_len_seq (by rfl) T.b_len (by decide +kernel) (pa_cons (pe_lc (own := [("key", 5)]) rfl sc_let_go.nd (pi_list (pv 3)) (blkOk_by (own := [("key", 5)]) (N := ["self", "width", "time", "going", "many", "key"]) (sc := defScope s_let_go) (by decide +kernel)) (fun _ _ _ _ _ => (pg_name (i := 5) sc_let_go.nd rfl (Or.inl rfl))) (fun _ _ _ _ _ => (pts_one (pt_cmpR op_gt (pe_fldC T.clF (T.naF _ (by decide)) (pe_ix (ixTK (K := K) rfl) (pe_dget hu (pe_fldC T.clG (T.naG _ (by decide)) (pv 0)) (pv 5) (fun _ _ => rfl)) pe_int (fun _ _ => rfl))) pe_int (nomark _)))) (fun _ _ _ _ _ => (pv 5))) pa_nil)))
      (pss_cons (ps_for PassesOwn.never rfl (pi_list (pv 3)) (pg_name (i := 5) sc_let_go.nd rfl (Or.inl rfl))
        (pss_one (ps_expr (pe_bm PySem.F.plainAttrs_dict PySem.F.slot_dict_pop PySem.F.type_dict_pop (TgS.mt_popT1 hu) (pe_fldC T.clG (T.naG _ (by decide)) (pv 0)) (pa_cons (pv 5) pa_nil)))))
      (pss_cons (ps_if (PW.pt (pw_or (pt_cmpR op_isN (pe_dget hu (pe_fldC T.clG (T.naG _ (by decide)) (pv 0)) (pv 1) (fun _ _ => rfl)) pe_non (nomark _)) (pw_or1 (pt_cmpR op_lt (pe_dget hu (pe_fldC T.clG (T.naG _ (by decide)) (pv 0)) (pv 1) (fun _ _ => rfl)) (pv 2) (nomark _))))) (pss_one (ps_dput hu (pe_fldC T.clG (T.naG _ (by decide)) (pv 0)) (pv 1) (pv 2) rfl))
        pss_nil)
      (pss_one (ps_ret (pv 4))))))))), ?_⟩
  refine ⟨_, rfl, g, dx, _, rfl, hg, lk_look _ _ _ _, _, rfl, g, wt, cd, ed, false, ws, cm, wd, rfl, hG, hm, ?_⟩
  refine ⟨_, rfl, g, dx, _, _, rfl, hg, lk_busy _ _ _ _, false, rfl, iteF ?_⟩
  refine ⟨cd, _, hc.dc, trivial, fun od => ?_⟩
  have gcd : g ≠ cd := fun z => by rw [z, hc.dc] at hg; cases hg
  have hg1 : (upd H cd (.frz od (.dT (cm.map ent)))) g = some (.ins T.cG dx (gFs wt cd ed false)) := by rw [upd_ne gcd]; exact hg
  refine ⟨_, rfl, g, dx, _, _, rfl, hg1, lk_cells _ _ _ _, cd, od, rfl, .inr ⟨_, upd_same, fun D nD => ?_⟩⟩
  have hln := hc.ln
  have hxl : (cm.map ent).length = cm.length := List.length_map _
  have hsz : ∀ i, i < cm.length → i < sizeLine := fun i h => Nat.lt_of_lt_of_le h (Nat.le_trans hln (by decide))
  let gp : Rc → Bool := fun r => decide (r.w = wd) && decide (r.s + wd ≤ t)
  refine lc_it (walk_keysT (d := cd) (o := od) (kvs := cm.map ent)) (LcP T.cF T.T (upd H cd (.frz od (.dT (cm.map ent)))) D fun i acc H' => ∃ L : List (Addr × Rc), acc = L.map (fun x => V.ref x.1) ∧ (∀ x ∈ L, H' x.1 = some (.tup ((kyR x.2.w x.2.s).map kV))) ∧ L.map (·.2) = (cm.take i).filter gp)
    (lc0 nD ⟨[], rfl, fun x hx => by simp at hx, rfl⟩) (fun i H' _ ⟨acc, _, _, k2, _⟩ => k2.any upd_same) ?_ ?_
  · rintro i x H1 H2 hi ⟨acc, ha, hl, k2, L, rfl, hL, hLm⟩ ⟨rfl, kk, v, q, hkv, rfl, hq⟩
    rw [hxl] at hi
    obtain ⟨r, hr1⟩ : ∃ r, cm[i]? = some r := ⟨_, List.getElem?_eq_getElem hi⟩
    obtain ⟨rfl, rfl⟩ := ky_at hr1 hkv
    have hf := filter_snoc (p := gp) hr1
    have no : gp r = false → LcP T.cF T.T (upd H cd (.frz od (.dT (cm.map ent)))) D (fun i acc H' => ∃ L : List (Addr × Rc), acc = L.map (fun x => V.ref x.1) ∧ (∀ x ∈ L, H' x.1 = some (.tup ((kyR x.2.w x.2.s).map kV))) ∧ L.map (·.2) = (cm.take i).filter gp) (i + 1) H2 := fun z =>
      lcNo k2 ha hl (Kp.refl _) ⟨L, rfl, hL, by rw [hLm, hf, if_neg (by rw [z]; simp), List.append_nil]⟩
    refine ⟨rfl, _, rfl, q, _, 1, .int r.w, rfl, rfl, SqT.of hq, rfl, _, rfl, rfl, _, rfl, ?_⟩
    by_cases e1 : r.w = wd
    · rw [decide_eq_true (congrArg V.int e1)]
      refine iteT ⟨_, rfl, q, _, 2, .int r.s, rfl, rfl, SqT.of hq, rfl, _, rfl, _, _, rfl, rfl, _, rfl, _, _, rfl, rfl, _, rfl, ?_⟩
      refine ite2 (fun e2 => ?_) (fun e2 => no ?_)
      · refine ⟨_, rfl, lcYes (hsz i hi) nD k2 ha hl (Kp.refl _) ⟨L ++ [(q, r)], by simp, fun x hx => ?_, ?_⟩⟩
        · have kD : Kp T.cF T.T [D] H2 (upd H2 D (.lst (L.map (fun x => V.ref x.1) ++ [.ref q]))) := Kp.set ha (by simp) trivial
          rcases List.mem_append.mp hx with hx | hx
          · exact kD.tup (hL x hx)
          · rw [List.mem_singleton.mp hx]
            exact kD.tup hq
        · have : gp r = true := by
            show (decide (r.w = wd) && decide (r.s + wd ≤ t)) = true
            rw [e2, decide_eq_true e1]
            rfl
          rw [List.map_append, hLm, hf, if_pos this]
          rfl
      · show (decide (r.w = wd) && decide (r.s + wd ≤ t)) = false
        have e2 : decide (r.s + wd ≤ t) = false := Bool.eq_false_iff.mpr e2
        rw [e2, Bool.and_false]
    · rw [decide_eq_false fun z => e1 (V.int.inj z)]
      refine iteF (iteF (no ?_))
      show (decide (r.w = wd) && decide (r.s + wd ≤ t)) = false
      rw [decide_eq_false e1, Bool.false_and]
  · rintro H1 ⟨acc, ha, hl, k2, L, rfl, hL, hLm⟩
    rw [hxl, List.take_length] at hLm
    refine ⟨k2.any upd_same, ?_⟩
    have k3 : Kp T.cF T.T [] H (upd H1 cd (.dT (cm.map ent))) := Kp.lock hc.dc trivial k2 (k2.any upd_same)
    have cdD : cd ≠ D := ne_of_none upd_same nD
    have kL : Kp T.cF T.T [cd] H1 (upd H1 cd (.dT (cm.map ent))) := Kp.set (k2.any upd_same) (by simp) trivial
    have hD3 : (upd H1 cd (.dT (cm.map ent))) D = some (.lst (L.map fun x => V.ref x.1)) := kL.at ha (by simpa using cdD.symm)
    have hL3 : ∀ x ∈ L, (upd H1 cd (.dT (cm.map ent))) x.1 = some (.tup ((kyR x.2.w x.2.s).map kV)) := fun x hx => kL.tup (hL x hx)
    generalize upd H1 cd (.dT (cm.map ent)) = Ha at k3 hD3 hL3 ⊢
    have hG3 := hG.kp k3 (by simp) (by simp)
    obtain ⟨⟨dx3, hg3⟩, hw3, hc3, _⟩ := id hG3
    have hLl : (L.map fun x => V.ref x.1).length = L.length := List.length_map _
    have hLl2 : L.length ≤ cm.length := by
      have := congrArg List.length hLm
      rw [List.length_map] at this
      rw [this]
      exact List.length_filter_le _ _
    have hLin : ∀ x ∈ L, x.2 ∈ cm := fun x hx => by
      have : x.2 ∈ L.map (·.2) := List.mem_map.mpr ⟨x, hx, rfl⟩
      rw [hLm, List.mem_filter] at this
      exact this.1
    refine ⟨_, rfl, D, rfl, ⟨_, SqL.of hD3⟩, fun D2 nD2 => ?_⟩
    refine lc_it (walk_list (K := K) (a := D) (xs := L.map fun x => V.ref x.1)) (LcP T.cF T.T Ha D2 fun i acc H' => True) (lc0 nD2 trivial) (fun i H' _ ⟨acc, _, _, k4, _⟩ => k4.lst (SqL.of hD3)) ?_ ?_
    · rintro i x H2 H4 hi ⟨acc, ha4, hl4, k4, _⟩ ⟨rfl, ex⟩
      rw [hLl] at hi
      obtain ⟨⟨q, r⟩, hx⟩ : ∃ x, L[i]? = some x := ⟨_, List.getElem?_eq_getElem hi⟩
      have ex : x = .ref q := mapGet (f := fun x : Addr × Rc => V.ref x.1) (z := (q, r)) ex hx
      subst ex
      have hxm := List.mem_of_getElem? hx
      have hG4 := hG3.kp k4 (by simp) (by simp)
      obtain ⟨⟨dx4, hg4⟩, hw4, hc4, _⟩ := id hG4
      have hrm := hLin _ hxm
      obtain ⟨hrt, hrF⟩ := hc4.rc r hrm
      obtain ⟨dz, v1, v2, hf4, _⟩ := hrF
      have g1 : DGet H4 cd (.ref q) (some (.ref r.t)) := by
        have := DGet.t hc4.dc (k4.tup (hL3 _ hxm))
        rw [val_cm, lookR_of hc4.nd hrm] at this
        exact this
      refine ⟨rfl, _, rfl, g, dx4, _, _, rfl, hg4, lk_cells _ _ _ _, _, rfl, cd, _, rfl, g1, r.t, _, 0, .ref r.f, rfl, rfl, SqT.of hrt, rfl, r.f, dz, _, _, rfl, hf4, lk_count _ _ _, _, _, rfl, rfl, _, rfl, ?_⟩
      exact ite2 (fun _ => ⟨_, rfl, lcYes (hsz i (Nat.lt_of_lt_of_le hi hLl2)) nD2 k4 ha4 hl4 (Kp.refl _) trivial⟩) (fun _ => lcNo k4 ha4 hl4 (Kp.refl _) trivial)
    · rintro H2 ⟨acc, ha4, hl4, k4, _⟩
      have hG4 := hG3.kp k4 (by simp) (by simp)
      refine ⟨D2, _, rfl, .inl (SqL.of ha4), ?_⟩
      refine ⟨_, rfl, D, rfl, ⟨_, k4.lst (SqL.of hD3)⟩, ?_⟩
      have cdD4 : cd ≠ D := cdD
      have hLnd : (L.map fun x => (x.2.w, x.2.s)).Nodup := by
        have h1 : (((cm.filter gp)).map fun r => (r.w, r.s)).Nodup := List.Nodup.sublist (List.filter_sublist.map _) hc.nd
        rw [← hLm, List.map_map] at h1
        exact h1
      refine for_it (walk_list (K := K) (a := D) (xs := L.map fun x => V.ref x.1)) (fun i σ H' => ∃ (o5 : Option V) (cmi : List Rc), σ = [some (.ref g), some (.int wd), some (.int t), some (.ref D), some (.int (acc.length : Nat)), o5] ∧ Kp T.cF T.T [cd] H2 H' ∧ Gr T.cG T.cF H' g wt cd ed false ws cmi ∧
          (∀ r, r ∈ cmi ↔ r ∈ cm ∧ ∀ x ∈ L.take i, ¬ (r.w = x.2.w ∧ r.s = x.2.s)) ∧ cmi.length ≤ cm.length)
        ⟨_, cm, rfl, Kp.refl _, hG4, fun r => by simp, Nat.le_refl _⟩ (fun i σ H' _ ⟨_, _, _, k5, _⟩ => k5.seqL (by simpa using cdD4.symm) (k4.lst (SqL.of hD3))) ?_ ?_
      · rintro i x σ H5 H6 hi ⟨o5, cmi, rfl, k5, hG5, hcmi, hlen⟩ ⟨rfl, ex⟩
        rw [hLl] at hi
        obtain ⟨⟨q, r⟩, hx⟩ : ∃ x, L[i]? = some x := ⟨_, List.getElem?_eq_getElem hi⟩
        have ex : x = .ref q := mapGet (f := fun x : Addr × Rc => V.ref x.1) (z := (q, r)) ex hx
        subst ex
        have hxm := List.mem_of_getElem? hx
        obtain ⟨⟨dx5, hg5⟩, hw5, hc5, _⟩ := id hG5
        have hts := take_snoc hx
        have hri : r ∈ cmi := (hcmi r).mpr ⟨hLin _ hxm, fun y hy z => by
          obtain ⟨j, hj⟩ := List.mem_iff_getElem?.mp hy
          have hji : j < i := by
            have := (List.getElem?_eq_some_iff.mp hj).1
            rw [List.length_take] at this
            omega
          rw [List.getElem?_take_of_lt hji] at hj
          have h1 : (L.map fun x => (x.2.w, x.2.s))[j]? = some (y.2.w, y.2.s) := by rw [List.getElem?_map, hj]; rfl
          have h2 : (L.map fun x => (x.2.w, x.2.s))[i]? = some (r.w, r.s) := by rw [List.getElem?_map, hx]; rfl
          obtain ⟨b1, e1⟩ := List.getElem?_eq_some_iff.mp h1
          obtain ⟨b2, e2⟩ := List.getElem?_eq_some_iff.mp h2
          have := List.pairwise_iff_getElem.mp hLnd j i b1 b2 hji
          rw [e1, e2, z.1, z.2] at this
          exact this rfl⟩
        have hval : valV (cmi.map ent) (kyR r.w r.s) = some (.ref r.t) := by rw [val_cm, lookR_of hc5.nd hri]; rfl
        have kD : Kp T.cF T.T [cd] H6 (upd H6 cd (.dT (dropK (cmi.map ent) (kyR r.w r.s)))) := Kp.set hc5.dc (by simp) trivial
        refine ⟨_, rfl, g, dx5, _, _, rfl, hg5, lk_cells _ _ _ _, .inr (.inr (.inl ⟨rfl, .inr ⟨_, hc5.dc⟩⟩)), _, rfl, cd, _, kyR r.w r.s, q, _, rfl, rfl, hc5.dc, k5.tup (k4.tup (hL3 _ hxm)), hval, ?_⟩
        refine ⟨_, cmi.filter fun x => decide (¬ (x.w = r.w ∧ x.s = r.s)), rfl, k5.trans kD, ⟨⟨dx5, kD.at hg5 (by simpa using gcd)⟩, hw5.kp kD, ⟨?_, fun r' hr' => ?_, ?_, ?_⟩, wok⟩, fun r' => ?_, ?_⟩
        · rw [upd_same, dropK_ent]
        · exact (hc5.rc r' (List.mem_filter.mp hr').1).kp kD
        · exact List.Nodup.sublist (List.filter_sublist.map _) hc5.nd
        · exact Nat.le_trans (List.length_filter_le _ _) hc5.ln
        · rw [List.mem_filter, hcmi, hts]
          simp only [decide_eq_true_eq, List.mem_append, List.mem_singleton]
          constructor
          · rintro ⟨⟨h1, h2⟩, h3⟩
            exact ⟨h1, fun y hy => hy.elim (h2 y) fun e => e ▸ h3⟩
          · rintro ⟨h1, h2⟩
            exact ⟨⟨h1, fun y hy => h2 y (.inl hy)⟩, h2 _ (.inr rfl)⟩
        · exact Nat.le_trans (List.length_filter_le _ _) hlen
      · rintro σ H5 ⟨o5, cmi, rfl, k5, hG5, hcmi, hlen⟩
        rw [hLl, List.take_length] at hcmi
        obtain ⟨⟨dx5, hg5⟩, hw5, hc5, _⟩ := id hG5
        have cded : ed ≠ cd := fun z => by rw [z, hc.dc] at hed; cases hed
        have hed5 := k5.at (k4.any (k3.any hed)) (by simpa using cded)
        have hmem : ∀ r, r ∈ cmi ↔ r ∈ cm ∧ ¬ (r.w = wd ∧ r.s + wd ≤ t) := fun r => by
          rw [hcmi]
          refine and_congr_right fun h1 => ⟨fun h2 z => ?_, fun h2 x hx z => ?_⟩
          · have : r ∈ L.map (·.2) := by
              rw [hLm]
              exact List.mem_filter.mpr ⟨h1, by show (decide (r.w = wd) && decide (r.s + wd ≤ t)) = true; rw [decide_eq_true z.1, decide_eq_true z.2]; rfl⟩
            obtain ⟨x, hx, e⟩ := List.mem_map.mp this
            exact h2 x hx ⟨by rw [e], by rw [e]⟩
          · have : x.2 ∈ L.map (·.2) := List.mem_map.mpr ⟨x, hx, rfl⟩
            rw [hLm, List.mem_filter] at this
            have h3 : (decide (x.2.w = wd) && decide (x.2.s + wd ≤ t)) = true := this.2
            rw [Bool.and_eq_true] at h3
            exact h2 ⟨by rw [z.1]; exact of_decide_eq_true h3.1, by rw [z.2]; exact of_decide_eq_true h3.2⟩
        have gE : DGet H5 ed (.int wd) (some (oI (e wd))) := by
          have := DGet.k (k := Sum.inl wd) hed5
          rw [hev wd hm] at this
          exact this
        have kk : Kp T.cF T.T [cd, ed] H H5 := (k3.mono (by simp)).trans ((k4.mono (by simp)).trans (k5.mono (by simp)))
        have done : ∀ v, e wd = some t → Q v H5 := fun v he => k H5 v cmi kk hG5 hmem hlen ⟨kvs, hed5, hik, fun y hy => by
          show valV kvs (Sum.inl y : Key) = some (oI (if y = wd then some t else e y))
          by_cases z : y = wd
          · rw [if_pos z, z, hev wd hm, he]
          · rw [if_neg z]
            exact hev y hy⟩
        have put : ∀ v, ∃ H6, DPut H5 ed (.int wd) (.int t) H6 ∧ Q v H6 := fun v => by
          have kE : Kp T.cF T.T [ed] H5 (upd H5 ed (.dK (putK kvs (Sum.inl wd) (.int t)))) := Kp.set hed5 (by simp) trivial
          have ged : g ≠ ed := fun z => by rw [z, hed5] at hg5; cases hg5
          have hkl : kvs.length < sizeLine := by
            have := congrArg List.length hik
            rw [List.length_map, List.length_map] at this
            rw [this]
            exact Nat.lt_of_le_of_lt wok.len (by decide)
          refine ⟨_, DPut.k (k := Sum.inl wd) hed5 hkl, k _ v cmi (kk.trans (kE.mono (by simp))) (hG5.kp kE (by simpa using ged) (by simpa using cded.symm)) hmem hlen ⟨_, upd_same, putK_has hik hm _, fun y hy => ?_⟩⟩
          show valV (putK kvs (Sum.inl wd) (.int t)) (Sum.inl y : Key) = some (oI (if y = wd then some t else e y))
          rw [valV_put]
          by_cases z : y = wd
          · rw [if_pos z, if_pos (by rw [z])]
            rfl
          · rw [if_neg z, if_neg fun q => z (Sum.inl.inj q)]
            exact hev y hy
        refine ⟨_, rfl, g, dx5, _, _, rfl, hg5, lk_ends _ _ _ _, _, rfl, ed, _, rfl, gE, rfl, _, rfl, ?_⟩
        rw [oI_non]
        have fin : ∀ v, (∃ H6, DPut H5 ed (.int wd) (.int t) H6 ∧ Q v H6) → True := fun _ _ => trivial
        cases he : e wd with
        | none =>
          obtain ⟨H6, p1, p2⟩ := put (.int (acc.length : Nat))
          exact iteT (iteT ⟨_, rfl, _, rfl, g, dx5, _, _, rfl, hg5, lk_ends _ _ _ _, _, rfl, ed, H6, rfl, p1, _, rfl, p2⟩)
        | some x =>
          have hx := hle x he
          rw [he] at gE
          refine iteF ⟨_, rfl, g, dx5, _, _, rfl, hg5, lk_ends _ _ _ _, _, rfl, ed, _, rfl, gE, _, rfl, _, _, rfl, rfl, _, rfl, ?_⟩
          refine ite2 (fun z => ?_) (fun z => ?_)
          · obtain ⟨H6, p1, p2⟩ := put (.int (acc.length : Nat))
            exact ⟨_, rfl, _, rfl, g, dx5, _, _, rfl, hg5, lk_ends _ _ _ _, _, rfl, ed, H6, rfl, p1, _, rfl, p2⟩
          · have : x = t := by
              have : ¬ x < t := fun y => z (decide_eq_true y)
              omega
            exact ⟨_, rfl, done _ (by rw [he, this])⟩
end
end Tg
/-! TgG8 -/
set_option Elab.async false
set_option linter.all false
set_option maxRecDepth 100000
set_option maxHeartbeats 4000000
/-! Grains.right_by, right -/
namespace Tg
open PySem PySem.Spec PyProof.Rows L2 LamX NdefX TgM
theorem op_eqFK {X : Cx} {C : Addr} (T : Ev X.K X.mg X.base) (hC : T.cF = C) (hr : Room 2 X.A) : OpR X (compareOp .Eq) (rEqOwn C (sp_Feq C) false) := by
  subst hC
  exact op_eqF T hr
theorem newT {C : Addr} {T : List (Addr × Str)} {H H2 : Hp} {z : Addr} (k : Kp C T [] H H2) (n : H2 z = none) : ∀ o, H z = some o → ∃ ps, o = .tbl ps := fun o e => by
  cases o with
  | tbl ps => exact ⟨ps, rfl⟩
  | _ =>
    have := k.any e
    rw [n] at this
    cases this
theorem Kp.setNewT {C : Addr} {T : List (Addr × Str)} {H H4 : Hp} {D : Addr} {o u : HO} (hD : ∀ o, H D = some o → ∃ ps, o = .tbl ps) (k1 : Kp C T [] H H4) (h : H4 D = some u) (hw : wr C u) : Kp C T [] H (upd H4 D o) := by
  have s := Kp.set (C := C) (T := T) (M := [D]) (o := o) h (List.mem_singleton.mpr rfl) hw
  refine ⟨fun b v e n => ?_, fun t => s.tb (k1.tb t)⟩
  by_cases hb : b = D
  · subst hb
    obtain ⟨ps, rfl⟩ := hD v e
    rcases n with z | z | ⟨dx, fs, z⟩
    · exact absurd rfl (z.2 ps)
    · exact z.elim
    · cases z
  · rw [upd_ne hb]
    exact k1.st b v e n
theorem valV_at : ∀ {kvs : List (Key × V)} {ks : List Int} {i : Nat} {z : Int} {v : V}, IntK kvs ks → ks.Nodup → ks[i]? = some z → (kvs[i]?.map Prod.snd) = some v → valV kvs (Sum.inl z : Key) = some v
  | [], _, i, z, v, _, _, _, h => by simp at h
  | p :: r, [], i, z, v, h, _, hz, _ => by simp at hz
  | p :: r, y :: ks, i, z, v, h, nd, hz, hv => by
    unfold IntK at h
    rw [List.map_cons, List.map_cons] at h
    have e1 : p.1 = Sum.inl y := (List.cons.inj h).1
    have e2 : IntK r ks := (List.cons.inj h).2
    rw [List.nodup_cons] at nd
    cases i with
    | zero =>
      simp at hz hv
      subst hz
      rw [valV_pos e1, hv]
    | succ i =>
      simp at hz
      have hz' : ks[i]? = some z := hz
      have : y ≠ z := fun e => nd.1 (e ▸ List.mem_of_getElem? hz')
      rw [valV_neg fun e => this (Sum.inl.inj (e1.symm.trans e))]
      exact valV_at e2 nd.2 hz' (by simpa using hv)
theorem eqv_ints : ∀ (xs ys : List Int), PyData.eqv (.list (xs.map PyData.int)) (.list (ys.map PyData.int)) = decide (xs = ys)
  | [], [] => by simp [PyData.eqv, PyData.eqvAll]
  | [], y :: ys => by simp [PyData.eqv, PyData.eqvAll]
  | x :: xs, [] => by simp [PyData.eqv, PyData.eqvAll]
  | x :: xs, y :: ys => by
    have ih := eqv_ints xs ys
    by_cases h1 : x = y <;> by_cases h2 : xs = ys <;> simp [PyData.eqv, PyData.eqvAll, h1, h2] at ih ⊢ <;> exact ih
theorem dp_ints {K : PySem.W.Frag} {H : Hp} : ∀ l : List Int, DpAll K H (l.map V.int) (l.map PyData.int)
  | [] => .nil
  | x :: l => .cons (.int _) (dp_ints l)
theorem sd_ints (l : List Int) : Sd 1 (.list (l.map PyData.int)) := sdL fun d hd => by
  obtain ⟨x, _, rfl⟩ := List.mem_map.mp hd
  exact sdI _
/-- the cells kept of one width are those of the table -/
structure WdOk (cm : List Rc) (e : Int → Option Int) (tb : List Pt) (wd : Int) : Prop where
  srt : Srt tb
  bd : Bd tb
  len : tb.length ≤ 10000
  st : ∀ z, (∃ r ∈ cm, r.w = wd ∧ r.s = z ∧ 0 < r.F.count) ↔ ∃ p ∈ tb, cel p.1 wd = z ∧ ∀ x, e wd = some x → x < z + wd
  fd : ∀ p ∈ tb, (∀ x, e wd = some x → x < cel p.1 wd + wd) → fdAt cm wd (cel p.1 wd) = fo (pin tb (cel p.1 wd) (cel p.1 wd + wd))
/-- the points by cells, behind some turns -/
structure ByAt (K : PySem.W.Frag) (H0 H : Hp) (bc : Addr) (kvs : List (Key × V)) (ks : List Int) (A : Int → Addr) (L : Int → List (Addr × Pt)) (tk : List Pt) (wd : Int) (kp : Int → Bool) : Prop where
  dc : H bc = some (.dK kvs)
  ik : IntK kvs ks
  nd : ks.Nodup
  kz : ∀ z, z ∈ ks ↔ ∃ p ∈ tk, cel p.1 wd = z ∧ kp z = true
  val : ∀ z ∈ ks, valV kvs (Sum.inl z : Key) = some (.ref (A z))
  inj : ∀ y ∈ ks, ∀ z ∈ ks, A y = A z → y = z
  new : ∀ z ∈ ks, ∀ o, H0 (A z) = some o → ∃ ps, o = .tbl ps
  ls : ∀ z ∈ ks, H (A z) = some (.lst ((L z).map fun x => V.ref x.1))
  pt : ∀ z ∈ ks, ∀ x ∈ L z, H x.1 = some (.tup [.int x.2.1, .int x.2.2])
  lm : ∀ z ∈ ks, (L z).map (·.2) = tk.filter fun p => decide (cel p.1 wd = z)
section
variable {P : Program} {w : World} {K : PySem.W.Frag} {mg : Str → Option Value} {base : Heap}
def sp_right_by (T : Ev K mg base) : Sp := fun vs H Q _ => ∃ (g wt cd ed pl : Addr) (ws : List Int) (cm : List Rc) (e : Int → Option Int) (l : List (Addr × Pt)) (wd : Int), vs = [.ref g, .int 5, .ref pl, .int wd] ∧ Gr T.cG T.cF H g wt cd ed false ws cm ∧ EdAt H ed ws e ∧ wd ∈ ws ∧
  PtsAt K H pl l ∧ WdOk cm e (l.map (·.2)) wd ∧ Tabs T.T H ∧ ∀ H', Kp T.cF T.T [] H H' → Q (.bl true) H'
theorem sc_right_by : FnScope ["self", "place", "points", "width", "by_cells", "time", "worth", "start", "some"] ["self", "place", "points", "width"] (defScope s_right_by) := ⟨rfl, rfl, rfl, by decide +kernel, rfl, by decide +kernel, by decide +kernel⟩
theorem m_right_by (T : Ev K mg base) : C8.Met P w K mg base 6 T.cG "right_by" (sp_right_by T) [] := by
  refine metD T.clG T.e_right_by sc_right_by (fun _ _ _ _ _ _ us hl => match us, hl with | [_, _, _, _], _ => rfl) (fun vs H Q E h => by obtain ⟨_, _, _, _, _, _, _, _, _, _, rfl, _⟩ := h; rfl) (fun f cdv A outer s H vs Q E hr h => ?_)
  obtain ⟨g, wt, cd, ed, pl, ws, cm, e, l, wd, rfl, hG, hE, hm, hP, hW, hTb, k⟩ := h
  obtain ⟨⟨dx, hg⟩, hw, hc, wok⟩ := id hG
  have hu := hu_of hr
  have hb := wok.bd wd hm
  refine ⟨_, (pss_cons (ps_set (i := 4) sc_right_by.nd rfl (Or.inl rfl) pe_dnewK)
      (pss_cons (ps_for PassesOwn.never rfl (pi_list (pv 2)) (pg_tup rfl (pgs_cons (pg_name (i := 5) sc_right_by.nd rfl (Or.inl rfl)) (pgs_cons (pg_name (i := 6) sc_right_by.nd rfl (Or.inl rfl)) pgs_nil)))
        (pss_cons (ps_set (i := 7) sc_right_by.nd rfl (Or.inl rfl) (C8.pe_c (c_cell_of T) hr (by decide) rfl (pa_cons (pv 5) (pa_cons (pv 3) pa_nil))))
        (pss_one (ps_if (PW.pt (pw_or (pt_cmpR op_isN (pe_dget hu (pe_fldC T.clG (T.naG _ (by decide)) (pv 0)) (pv 3) (fun _ _ => rfl)) pe_non (nomark _)) (pw_or1 (pt_cmpR op_gt (pe_op op_add (pv 7) (pv 3)) (pe_dget hu (pe_fldC T.clG (T.naG _ (by decide)) (pv 0)) (pv 3) (fun _ _ => rfl)) (nomark _))))) (pss_one (ps_expr (pe_bm PySem.F.plainAttrs_list PySem.F.slot_list_append PySem.F.type_list_append mt_append (pe_dsetd (pv 4) (pv 7) (pe_lst pa_nil) ⟨rfl, rfl, rfl, rfl⟩) (pa_cons (pe_tup (pa_cons (pv 5) (pa_cons (pv 6) pa_nil))) pa_nil))))
          pss_nil))))
      (pss_cons (ps_if (pt_cmpR (op_neD hr.units) (pe_callB (call_sortedDA rfl) (by rfl) T.b_sorted (by decide +kernel) (pa_cons (pv 4) pa_nil)) (C8.pe_mt (m_cells_of T) hr (by decide) (pv 0) (pa_cons (pv 1) (pa_cons (pv 3) pa_nil))) (nomark _)) (pss_one (ps_ret pe_bl))
        pss_nil)
      (pss_one (ps_lock (ps_ret (pe_callB (cr_all rfl) (by rfl) T.b_all (by decide +kernel) (pa_cons (pe_lc (own := [("start", 7), ("some", 8)]) rfl sc_right_by.nd (pi_items (pv 4)) (blkOk_by (own := [("start", 7), ("some", 8)]) (N := ["self", "place", "points", "width", "by_cells", "time", "worth", "start", "some"]) (sc := defScope s_right_by) (by decide +kernel)) (fun _ _ _ _ _ => (pgT (K := K) (n := 2) rfl rfl (pgs_cons (pg_name (i := 7) sc_right_by.nd rfl (Or.inl rfl)) (pgs_cons (pg_name (i := 8) sc_right_by.nd rfl (Or.inl rfl)) pgs_nil)))) (fun _ _ _ _ _ => pts_nil) (fun _ _ _ _ _ => (pe_cmpR (op_eqFK (C := T.cF) T rfl (hr.mono (by decide))) (C8.pe_mt (m_fold_at T) hr (by decide) (pv 0) (pa_cons (pv 1) (pa_cons (pv 3) (pa_cons (pv 7) pa_nil)))) (C8.pe_c (c_fold_of T) hr (by decide) rfl (pa_cons (pv 8) pa_nil)) (nomark _)))) pa_nil)))))))), ?_⟩
  intro bc nbc
  have k1 : Kp T.cF T.T [] H (upd H bc (.dK [])) := Kp.new nbc
  refine ⟨_, rfl, pl, rfl, ⟨_, k1.lst hP.ls⟩, ?_⟩
  have hxl : (l.map fun x => V.ref x.1).length = l.length := List.length_map _
  let kp : Int → Bool := fun z => match e wd with | none => true | some x => decide (x < z + wd)
  have hkp : ∀ z, kp z = true ↔ ∀ x, e wd = some x → x < z + wd := fun z => by
    show (match e wd with | none => true | some x => decide (x < z + wd)) = true ↔ _
    cases he : e wd with
    | none => simp
    | some x => simp
  have hll : l.length ≤ 10000 := by
    have := hW.len
    rw [List.length_map] at this
    exact this
  have hsz : ∀ i, i < l.length → i < sizeLine := fun i h => Nat.lt_of_lt_of_le h (Nat.le_trans hll (by decide))
  refine for_it (walk_list (K := K) (a := pl) (xs := l.map fun x => V.ref x.1)) (fun i σ H' => ∃ (o5 o6 o7 o8 : Option V) (kvs : List (Key × V)) (ks : List Int) (A : Int → Addr) (L : Int → List (Addr × Pt)), σ = [some (.ref g), some (.int 5), some (.ref pl), some (.int wd), some (.ref bc), o5, o6, o7, o8] ∧
      Kp T.cF T.T [] H H' ∧ ByAt K H H' bc kvs ks A L ((l.map (·.2)).take i) wd kp ∧ kvs.length ≤ i)
    ⟨none, none, none, none, [], [], fun _ => 0, fun _ => [], rfl, k1, ⟨upd_same, rfl, by simp, by simp, by simp, by simp, by simp, by simp, by simp, by simp⟩, by simp⟩ (fun i σ H' _ ⟨_, _, _, _, _, _, _, _, _, k2, _⟩ => k2.lst hP.ls) ?_ ?_
  · rintro i x σ H1 H2 hi ⟨p5, p6, p7, p8, kvs, ks, A, L, rfl, k2, hB, hkl⟩ ⟨rfl, ex⟩
    rw [hxl] at hi
    obtain ⟨⟨q, t, wo⟩, hq⟩ : ∃ x, l[i]? = some x := ⟨_, List.getElem?_eq_getElem hi⟩
    have ex : x = .ref q := mapGet (f := fun x : Addr × Pt => V.ref x.1) (z := (q, t, wo)) ex hq
    subst ex
    have hqm := List.mem_of_getElem? hq
    have hqt := k2.tup (hP.pt _ hqm)
    have hE2 := hE.kp k2 (by simp)
    obtain ⟨kve, hed, hik, hev⟩ := id hE2.ex
    have hG2 := hG.kp k2 (by simp) (by simp)
    obtain ⟨⟨dx2, hg2⟩, _⟩ := id hG2
    have hts : (l.map (·.2)).take (i + 1) = (l.map (·.2)).take i ++ [(t, wo)] := take_snoc (by rw [List.getElem?_map, hq]; rfl)
    refine ⟨q, _, rfl, SqT.of hqt, rfl, _, _, rfl, _, _, rfl, rfl, ?_⟩
    refine ⟨_, rfl, _, rfl, t, wd, rfl, hb.1, (by omega), ?_⟩
    have gE : DGet H2 ed (.int wd) (some (oI (e wd))) := by
      have := DGet.k (k := Sum.inl wd) hed
      rw [hev wd hm] at this
      exact this
    have no : kp (cel t wd) = false → ∃ (o5 o6 o7 o8 : Option V) (kvs : List (Key × V)) (ks : List Int) (A : Int → Addr) (L : Int → List (Addr × Pt)), [some (V.ref g), some (.int 5), some (.ref pl), some (.int wd), some (.ref bc), some (.int t), some (.int wo), some (.int (cel t wd)), p8] = [some (.ref g), some (.int 5), some (.ref pl), some (.int wd), some (.ref bc), o5, o6, o7, o8] ∧
        Kp T.cF T.T [] H H2 ∧ ByAt K H H2 bc kvs ks A L ((l.map (·.2)).take (i + 1)) wd kp ∧ kvs.length ≤ i + 1 := fun hno => by
      refine ⟨_, _, _, _, kvs, ks, A, L, rfl, k2, ⟨hB.dc, hB.ik, hB.nd, fun z => ?_, hB.val, hB.inj, hB.new, hB.ls, hB.pt, fun z hz => ?_⟩, by omega⟩
      · rw [hB.kz, hts]
        simp only [List.mem_append, List.mem_singleton]
        constructor
        · rintro ⟨p, h1, h2⟩
          exact ⟨p, .inl h1, h2⟩
        · rintro ⟨p, h1 | h1, h2, h3⟩
          · exact ⟨p, h1, h2, h3⟩
          · rw [h1] at h2
            have h2 : cel t wd = z := h2
            rw [← h2, hno] at h3
            cases h3
      · have hzk := (hB.kz z).mp hz
        obtain ⟨_, _, _, hz3⟩ := hzk
        have : ¬ cel t wd = z := fun y => by rw [← y, hno] at hz3; cases hz3
        rw [hB.lm z hz, hts, List.filter_append]
        simp [this]
    have goodA : kp (cel t wd) = true → cel t wd ∈ ks → ∀ z p, H2 z = none → (upd H2 z (.lst [])) p = none → ∀ H5, H5 = upd (upd (upd H2 z (.lst [])) p (.tup [.int t, .int wo])) (A (cel t wd)) (.lst ((L (cel t wd)).map (fun x => V.ref x.1) ++ [.ref p])) → ∃ (o5 o6 o7 o8 : Option V) (kvs : List (Key × V)) (ks : List Int) (A : Int → Addr) (L : Int → List (Addr × Pt)), [some (V.ref g), some (.int 5), some (.ref pl), some (.int wd), some (.ref bc), some (.int t), some (.int wo), some (.int (cel t wd)), p8] = [some (V.ref g), some (.int 5), some (.ref pl), some (.int wd), some (.ref bc), o5, o6, o7, o8] ∧
        Kp T.cF T.T [] H H5 ∧ ByAt K H H5 bc kvs ks A L ((l.map (·.2)).take (i + 1)) wd kp ∧ kvs.length ≤ i + 1 := fun hk hs z p nz np H5 e5 => by
      subst e5
      have k3 : Kp T.cF T.T [] H2 (upd (upd H2 z (.lst [])) p (.tup [.int t, .int wo])) := (Kp.new nz).trans (Kp.new np)
      have h3 := k3.any (hB.ls _ hs)
      have kS : Kp T.cF T.T [A (cel t wd)] _ (upd (upd (upd H2 z (.lst [])) p (.tup [.int t, .int wo])) (A (cel t wd)) (.lst ((L (cel t wd)).map (fun x => V.ref x.1) ++ [.ref p]))) := Kp.set h3 (by simp) trivial
      have bA : bc ≠ A (cel t wd) := fun e => by
        have := hB.ls _ hs
        rw [← e, hB.dc] at this
        cases this
      refine ⟨_, _, _, _, kvs, ks, A, fun y => if y = cel t wd then L (cel t wd) ++ [(p, t, wo)] else L y, rfl, Kp.setNewT (hB.new _ hs) (k2.trans k3) h3 trivial, ⟨kS.at (k3.any hB.dc) (by simpa using bA), hB.ik, hB.nd, fun y => ?_, hB.val, hB.inj, hB.new, fun y hy => ?_, fun y hy x hx => ?_, fun y hy => ?_⟩, by omega⟩
      · rw [hB.kz, hts]
        simp only [List.mem_append, List.mem_singleton]
        constructor
        · rintro ⟨p, h1, h2⟩
          exact ⟨p, .inl h1, h2⟩
        · rintro ⟨p, h1 | h1, h2, h3⟩
          · exact ⟨p, h1, h2, h3⟩
          · rw [h1] at h2
            have h2 : cel t wd = y := h2
            rw [← h2]
            exact (hB.kz _).mp hs
      · by_cases e : y = cel t wd
        · rw [if_pos e, e, upd_same, List.map_append]
          rfl
        · rw [if_neg e]
          exact kS.at (k3.any (hB.ls y hy)) (by simpa using fun q => e (hB.inj y hy _ hs q))
      · by_cases e : y = cel t wd
        · rw [if_pos e] at hx
          rcases List.mem_append.mp hx with hx | hx
          · exact kS.tup (k3.tup (hB.pt _ hs x hx))
          · rw [List.mem_singleton.mp hx]
            exact kS.tup upd_same
        · rw [if_neg e] at hx
          exact kS.tup (k3.tup (hB.pt y hy x hx))
      · by_cases e : y = cel t wd
        · rw [if_pos e, List.map_append, hB.lm _ hs, hts, List.filter_append, e]
          simp
        · rw [if_neg e, hB.lm y hy, hts, List.filter_append]
          have : ¬ cel t wd = y := fun q => e q.symm
          simp [this]
    have goodB : kp (cel t wd) = true → cel t wd ∉ ks → ∀ z p, H2 z = none → (upd (upd H2 z (.lst [])) bc (.dK (putK kvs (Sum.inl (cel t wd)) (.ref z)))) p = none → ∀ H5, H5 = upd (upd (upd (upd H2 z (.lst [])) bc (.dK (putK kvs (Sum.inl (cel t wd)) (.ref z)))) p (.tup [.int t, .int wo])) z (.lst ([] ++ [.ref p])) → ∃ (o5 o6 o7 o8 : Option V) (kvs : List (Key × V)) (ks : List Int) (A : Int → Addr) (L : Int → List (Addr × Pt)), [some (V.ref g), some (.int 5), some (.ref pl), some (.int wd), some (.ref bc), some (.int t), some (.int wo), some (.int (cel t wd)), p8] = [some (V.ref g), some (.int 5), some (.ref pl), some (.int wd), some (.ref bc), o5, o6, o7, o8] ∧
        Kp T.cF T.T [] H H5 ∧ ByAt K H H5 bc kvs ks A L ((l.map (·.2)).take (i + 1)) wd kp ∧ kvs.length ≤ i + 1 := fun hk hs z p nz np H5 e5 => by
      subst e5
      have zb : z ≠ bc := fun e => by rw [e, hB.dc] at nz; cases nz
      have k3 : Kp T.cF T.T [] H (upd (upd H2 z (.lst [])) bc (.dK (putK kvs (Sum.inl (cel t wd)) (.ref z)))) := Kp.setNew (H := H) nbc (k2.trans (Kp.new nz)) ((Same.new nz) _ _ hB.dc) trivial
      have k3e : Kp T.cF T.T [bc] H2 (upd (upd H2 z (.lst [])) bc (.dK (putK kvs (Sum.inl (cel t wd)) (.ref z)))) := (Kp.new nz).trans (Kp.set ((Same.new nz) _ _ hB.dc) (by simp) trivial)
      have k4 : Kp T.cF T.T [] _ (upd (upd (upd H2 z (.lst [])) bc (.dK (putK kvs (Sum.inl (cel t wd)) (.ref z)))) p (.tup [.int t, .int wo])) := Kp.new np
      have h4 : (upd (upd (upd H2 z (.lst [])) bc (.dK (putK kvs (Sum.inl (cel t wd)) (.ref z)))) p (.tup [.int t, .int wo])) z = some (.lst []) := k4.any (by rw [upd_ne zb, upd_same])
      have kS : Kp T.cF T.T [z] _ (upd (upd (upd (upd H2 z (.lst [])) bc (.dK (putK kvs (Sum.inl (cel t wd)) (.ref z)))) p (.tup [.int t, .int wo])) z (.lst ([] ++ [.ref p]))) := Kp.set h4 (by simp) trivial
      have hAz : ∀ y ∈ ks, A y ≠ z := fun y hy e => by
        have := hB.ls y hy
        rw [e, nz] at this
        cases this
      have hAb : ∀ y ∈ ks, A y ≠ bc := fun y hy e => by
        have := hB.ls y hy
        rw [e, hB.dc] at this
        cases this
      have e1 : putK kvs (Sum.inl (cel t wd) : Key) (.ref z) = kvs ++ [(Sum.inl (cel t wd), .ref z)] := putK_not hB.ik hs _
      have hks : ∀ y, y ∈ ks ++ [cel t wd] ↔ y ∈ ks ∨ y = cel t wd := fun y => by simp
      refine ⟨_, _, _, _, _, ks ++ [cel t wd], fun y => if y = cel t wd then z else A y, fun y => if y = cel t wd then [(p, t, wo)] else L y, rfl, Kp.setNewT (newT k2 nz) (k3.trans k4) h4 trivial, ⟨kS.at (k4.any upd_same) (by simpa using zb.symm), ?_, ?_, fun y => ?_, fun y hy => ?_, fun y hy y' hy' e => ?_, fun y hy => ?_, fun y hy => ?_, fun y hy x hx => ?_, fun y hy => ?_⟩, ?_⟩
      · rw [e1]
        unfold IntK
        rw [List.map_append, hB.ik, List.map_append]
        rfl
      · rw [List.nodup_append]
        exact ⟨hB.nd, by simp, fun x hx y hy e => hs (by rw [List.mem_singleton.mp hy] at e; exact e ▸ hx)⟩
      · rw [hks, hB.kz, hts]
        simp only [List.mem_append, List.mem_singleton]
        constructor
        · rintro (⟨p, h1, h2⟩ | h)
          · exact ⟨p, .inl h1, h2⟩
          · exact ⟨(t, wo), .inr rfl, h.symm, by rw [h]; exact hk⟩
        · rintro ⟨p, h1 | h1, h2, h3⟩
          · exact .inl ⟨p, h1, h2, h3⟩
          · rw [h1] at h2
            exact .inr h2.symm
      · rw [valV_put]
        by_cases e : y = cel t wd
        · rw [if_pos (by rw [e]), if_pos e]
        · rw [if_neg fun q => e (Sum.inl.inj q), if_neg e]
          exact hB.val y (((hks y).mp hy).resolve_right e)
      · have r1 := (hks y).mp hy
        have r2 := (hks y').mp hy'
        by_cases c1 : y = cel t wd <;> by_cases c2 : y' = cel t wd
        · rw [c1, c2]
        · simp only [c1, c2, if_true, if_false] at e
          exact absurd e.symm (hAz y' (r2.resolve_right c2))
        · simp only [c1, c2, if_true, if_false] at e
          exact absurd e (hAz y (r1.resolve_right c1))
        · simp only [c1, c2, if_false] at e
          exact hB.inj y (r1.resolve_right c1) y' (r2.resolve_right c2) e
      · by_cases e : y = cel t wd
        · simp only [e, if_true]
          exact newT k2 nz
        · simp only [e, if_false]
          exact hB.new y (((hks y).mp hy).resolve_right e)
      · by_cases e : y = cel t wd
        · simp only [e, if_true]
          exact upd_same
        · simp only [e, if_false]
          have hy' := ((hks y).mp hy).resolve_right e
          exact kS.at (k4.any (k3e.at (hB.ls y hy') (by simpa using hAb y hy'))) (by simpa using hAz y hy')
      · by_cases e : y = cel t wd
        · simp only [e, if_true] at hx
          rw [List.mem_singleton.mp hx]
          exact kS.tup upd_same
        · simp only [e, if_false] at hx
          exact kS.tup (k4.tup (k3e.tup (hB.pt y (((hks y).mp hy).resolve_right e) x hx)))
      · by_cases e : y = cel t wd
        · simp only [e, if_true]
          rw [hts, List.filter_append]
          have hno : (((l.map (·.2)).take i).filter fun p => decide (cel p.1 wd = cel t wd)) = [] := by
            rw [List.filter_eq_nil_iff]
            intro p hp he
            exact hs ((hB.kz _).mpr ⟨p, hp, of_decide_eq_true he, hk⟩)
          rw [hno]
          simp
        · simp only [e, if_false]
          rw [hB.lm y (((hks y).mp hy).resolve_right e), hts, List.filter_append]
          have : ¬ cel t wd = y := fun q => e q.symm
          simp [this]
      · have := length_putK kvs (Sum.inl (cel t wd)) (.ref z)
        omega
    refine ⟨_, rfl, g, dx2, _, _, rfl, hg2, lk_ends _ _ _ _, _, rfl, ed, _, rfl, gE, rfl, _, rfl, ?_⟩
    rw [oI_non]
    cases he : e wd with
    | none =>
      have HK : kp (cel t wd) = true := (hkp _).mpr fun x q => by rw [he] at q; cases q
      refine iteT (iteT ?_)
      have hkv : kvs.length < sizeLine := Nat.lt_of_le_of_lt hkl (hsz i hi)
      refine ⟨_, rfl, bc, rfl, .inl ⟨kvs, .inl hB.dc⟩, _, rfl, Nat.zero_le _, fun z nz => ⟨kvs, Sum.inl (cel t wd), (Same.new nz) _ _ hB.dc, rfl, hkv, fun v hv => ?_, fun hv => ?_⟩⟩
      · have hs : cel t wd ∈ ks := by
          have m := valV_in hv
          rw [hB.ik] at m
          obtain ⟨y, hy, ey⟩ := List.mem_map.mp m
          exact Sum.inl.inj ey ▸ hy
        have hv2 := hB.val _ hs
        rw [hv] at hv2
        cases hv2
        have hlz := (Same.new (o := .lst []) nz) _ _ (hB.ls _ hs)
        refine ⟨.inl ⟨rfl, _, SqL.of hlz⟩, _, rfl, _, rfl, two_le, fun p np => ⟨_, _, _, rfl, rfl, (Same.new np) _ _ hlz, ?_, goodA HK hs z p nz np _ rfl⟩⟩
        have := congrArg List.length (hB.lm _ hs)
        rw [List.length_map] at this
        rw [List.length_map, this]
        refine Nat.lt_of_le_of_lt (List.length_filter_le _ _) ?_
        rw [List.length_take]
        exact Nat.lt_of_le_of_lt (Nat.min_le_left _ _) (hsz i hi)
      · have hs : cel t wd ∉ ks := fun m => by
          have hv2 := hB.val _ m
          rw [hv] at hv2
          cases hv2
        have zb : z ≠ bc := fun e => by rw [e, hB.dc] at nz; cases nz
        have hlz : (upd (upd H2 z (.lst [])) bc (.dK (putK kvs (Sum.inl (cel t wd)) (.ref z)))) z = some (.lst []) := by rw [upd_ne zb, upd_same]
        exact ⟨.inl ⟨rfl, _, SqL.of hlz⟩, _, rfl, _, rfl, two_le, fun p np => ⟨_, _, _, rfl, rfl, (Same.new np) _ _ hlz, (by decide), goodB HK hs z p nz np _ rfl⟩⟩
    | some x =>
      rw [he] at gE
      refine iteF ⟨_, rfl, _, rfl, _, _, rfl, rfl, _, rfl, g, dx2, _, _, rfl, hg2, lk_ends _ _ _ _, _, rfl, ed, _, rfl, gE, _, _, rfl, rfl, _, rfl, ?_⟩
      have ek : kp (cel t wd) = decide (x < cel t wd + wd) := by
        show (match e wd with | none => true | some x => decide (x < cel t wd + wd)) = _
        rw [he]
      refine ite2 (fun q => ?_) (fun q => no (by rw [ek]; exact Bool.eq_false_iff.mpr q))
      have HK : kp (cel t wd) = true := by rw [ek]; exact q
      have hkv : kvs.length < sizeLine := Nat.lt_of_le_of_lt hkl (hsz i hi)
      refine ⟨_, rfl, bc, rfl, .inl ⟨kvs, .inl hB.dc⟩, _, rfl, Nat.zero_le _, fun z nz => ⟨kvs, Sum.inl (cel t wd), (Same.new nz) _ _ hB.dc, rfl, hkv, fun v hv => ?_, fun hv => ?_⟩⟩
      · have hs : cel t wd ∈ ks := by
          have m := valV_in hv
          rw [hB.ik] at m
          obtain ⟨y, hy, ey⟩ := List.mem_map.mp m
          exact Sum.inl.inj ey ▸ hy
        have hv2 := hB.val _ hs
        rw [hv] at hv2
        cases hv2
        have hlz := (Same.new (o := .lst []) nz) _ _ (hB.ls _ hs)
        refine ⟨.inl ⟨rfl, _, SqL.of hlz⟩, _, rfl, _, rfl, two_le, fun p np => ⟨_, _, _, rfl, rfl, (Same.new np) _ _ hlz, ?_, goodA HK hs z p nz np _ rfl⟩⟩
        have := congrArg List.length (hB.lm _ hs)
        rw [List.length_map] at this
        rw [List.length_map, this]
        refine Nat.lt_of_le_of_lt (List.length_filter_le _ _) ?_
        rw [List.length_take]
        exact Nat.lt_of_le_of_lt (Nat.min_le_left _ _) (hsz i hi)
      · have hs : cel t wd ∉ ks := fun m => by
          have hv2 := hB.val _ m
          rw [hv] at hv2
          cases hv2
        have zb : z ≠ bc := fun e => by rw [e, hB.dc] at nz; cases nz
        have hlz : (upd (upd H2 z (.lst [])) bc (.dK (putK kvs (Sum.inl (cel t wd)) (.ref z)))) z = some (.lst []) := by rw [upd_ne zb, upd_same]
        exact ⟨.inl ⟨rfl, _, SqL.of hlz⟩, _, rfl, _, rfl, two_le, fun p np => ⟨_, _, _, rfl, rfl, (Same.new np) _ _ hlz, (by decide), goodB HK hs z p nz np _ rfl⟩⟩
  · rintro σ H1 ⟨o5, o6, o7, o8, kvs, ks, A, L, rfl, k2, hB, hkl⟩
    rw [hxl, List.take_of_length_le (by simp)] at hB
    rw [hxl] at hkl
    refine ⟨_, rfl, bc, kvs, ks, rfl, .inl hB.dc, hB.ik, fun ys q hp hs nq => ?_⟩
    have k3 : Kp T.cF T.T [] H1 (upd H1 q (.lst (ys.map V.int))) := Kp.new nq
    have hG3 := hG.kp (k2.trans k3) (by simp) (by simp)
    obtain ⟨⟨dx3, hg3⟩, _⟩ := id hG3
    refine ⟨_, rfl, g, dx3, _, rfl, hg3, lk_cells_of _ _ _ _, _, rfl, _, rfl, g, wt, cd, ed, false, ws, cm, wd, rfl, hG3, hm, fun H4 zp zs k4 hz4 hup hzm hzl => ?_⟩
    have hyz : ys = zs := ints_ext (up_of hs (hp.nodup_iff.mpr hB.nd)) hup fun z => by
      rw [hp.mem_iff, hB.kz, hzm, hW.st]
      exact exists_congr fun p => and_congr_right fun _ => and_congr_right fun _ => hkp z
    refine ⟨_, _, .lst (SqL.of (k4.any upd_same)) (dp_ints ys), .lst (SqL.of hz4) (dp_ints zs), (sd_ints _).sh (by decide), (sd_ints _).sh (by decide), _, rfl, ?_⟩
    rw [eqv_ints, decide_eq_true hyz]
    refine iteF ?_
    have k34 := k3.trans k4
    have hbc4 := k34.any hB.dc
    refine ⟨bc, _, hbc4, trivial, fun od => ?_⟩
    have k24 := k2.trans k34
    have kF : Kp T.cF T.T [bc] H4 (upd H4 bc (.frz od (.dK kvs))) := Kp.set hbc4 (by simp) trivial
    refine ⟨_, rfl, bc, od, kvs, rfl, upd_same, fun D nD => ?_⟩
    have gbc : g ≠ bc := fun z => by
      obtain ⟨⟨dx4, hg4⟩, _⟩ := id (hG3.kp k4 (by simp) (by simp))
      rw [z, hbc4] at hg4
      cases hg4
    have cbc : cd ≠ bc := fun z => by
      have := (hG3.kp k4 (by simp) (by simp)).cs.dc
      rw [z, hbc4] at this
      cases this
    have hG5 := (hG3.kp k4 (by simp) (by simp)).kp kF (by simpa using gbc) (by simpa using cbc)
    have hkn : kvs.length = ks.length := by
      have := congrArg List.length hB.ik
      rw [List.length_map, List.length_map] at this
      exact this
    refine lc_it (walk_items (d := bc) (o := od) (kvs := kvs)) (LcP T.cF T.T (upd H4 bc (.frz od (.dK kvs))) D fun i acc _ => acc = (List.replicate i true).map V.bl) (lc0 nD rfl) (fun i H' _ ⟨acc, _, _, k5, _⟩ => k5.any upd_same) ?_ ?_
    · rintro i x H5 H6 hi ⟨acc, ha, hl, k5, rfl⟩ ⟨p, u, v, rfl, np, rfl, e1, e2⟩
      obtain ⟨z, hz⟩ : ∃ z, ks[i]? = some z := ⟨_, List.getElem?_eq_getElem (by omega)⟩
      have hzk := List.mem_of_getElem? hz
      have ev := valV_at hB.ik hB.nd hz e2
      rw [hB.val z hzk] at ev
      have ev : v = .ref (A z) := (Option.some.inj ev).symm
      subst ev
      have eu : u = .int z := by
        have h1 : (kvs.map (·.1))[i]? = some (Sum.inl z) := by rw [hB.ik, List.getElem?_map, hz]; rfl
        rw [List.getElem?_map] at h1
        have e1 : (kvs[i]?.map fun kv => kV kv.1) = some u := e1
        cases e3 : kvs[i]? with
        | none => rw [e3] at h1; cases h1
        | some kv =>
          rw [e3] at h1 e1
          have h1 : kv.1 = Sum.inl z := Option.some.inj h1
          have e1 : kV kv.1 = u := Option.some.inj e1
          rw [← e1, h1]
          rfl
      subst eu
      have kn : Kp T.cF T.T [] H5 (upd H5 p (.tup [.int z, .ref (A z)])) := Kp.new np
      have hG6 := (hG5.kp k5 (by simp) (by simp)).kp kn (by simp) (by simp)
      obtain ⟨⟨dx6, hg6⟩, _⟩ := id hG6
      obtain ⟨pt, hpt, ept, hkz⟩ := (hB.kz z).mp hzk
      have hcz : cel z wd = z := by
        rw [← ept]
        exact cel_eq hb.1 (cel_dvd _ _) (Int.le_refl _) (by omega)
      have Ab : A z ≠ bc := fun e => by
        have := hB.ls z hzk
        rw [e, hB.dc] at this
        cases this
      refine ⟨p, _, rfl, SqT.of upd_same, rfl, _, _, rfl, _, _, rfl, rfl, rfl, yes_ ?_⟩
      refine ⟨_, rfl, g, dx6, _, rfl, hg6, lk_fold_at _ _ _ _, _, rfl, _, rfl, _, rfl, g, wt, cd, ed, false, ws, cm, wd, z, rfl, hG6, hm, fun H7 f1 k7 hf1 => ?_⟩
      have kk7 : Kp T.cF T.T [bc] H1 H7 := (k34.mono (by simp)).trans (kF.trans ((k5.trans (kn.trans k7)).mono (by simp)))
      have hpin : (l.map (·.2)).filter (fun p => decide (cel p.1 wd = z)) = pin (l.map (·.2)) z (z + wd) := by
        refine List.filter_congr fun p hp => ?_
        rw [Bool.eq_iff_iff, Bool.and_eq_true, decide_eq_true_eq, decide_eq_true_eq, decide_eq_true_eq]
        constructor
        · rintro rfl
          exact ⟨cel_le hb.1, lt_cel hb.1⟩
        · rintro ⟨h1, h2⟩
          exact cel_eq hb.1 (by rw [← ept]; exact cel_dvd _ _) h1 h2
      refine ⟨_, rfl, A z, L z, rfl, ⟨SqL.of (kk7.at (hB.ls z hzk) (by simpa using Ab)), fun x hx => kk7.tup (hB.pt z hzk x hx)⟩, ?_, ?_, kk7.tb (k2.tb hTb), fun H8 x8 k8 h8 => ?_⟩
      · rw [hB.lm z hzk]
        exact hW.srt.filter _
      · rw [hB.lm z hzk]
        exact fun p hp => hW.bd p (List.mem_filter.mp hp).1
      · rw [hB.lm z hzk, hpin] at h8
        have hf8 := hf1.kp k8
        obtain ⟨d1, _, _, hd1, _⟩ := id hf8
        obtain ⟨d2, _, _, hd2, _⟩ := id h8
        refine ⟨f1, x8, d1, d2, _, _, rfl, rfl, hd1, hd2, f1, x8, _, _, rfl, hf8, h8, fun H9 s9 => ⟨_, rfl, ?_⟩⟩
        have efd : fdAt cm wd (cel z wd) = fo (pin (l.map (·.2)) z (z + wd)) := by
          rw [hcz, ← ept]
          exact hW.fd pt hpt (by rw [ept]; exact (hkp z).mp hkz)
        refine lcYes (Nat.lt_of_lt_of_le (by omega : i < 10000) (by decide)) nD k5 ha hl (kn.trans (k7.trans (k8.trans (.of s9)))) ?_
        rw [decide_eq_true efd, List.replicate_succ', List.map_append]
        rfl
    · rintro H5 ⟨acc, ha, hl, k5, rfl⟩
      refine ⟨D, _, rfl, SqL.of ha, ?_⟩
      have hall : (List.replicate kvs.length true).all id = true := by simp
      rw [hall]
      exact ⟨k5.any upd_same, k _ (k24.trans (Kp.lock hbc4 trivial k5 (k5.any upd_same)))⟩
def sp_right (T : Ev K mg base) : Sp := fun vs H Q _ => ∃ (g wt cd ed pl : Addr) (ws : List Int) (cm : List Rc) (e : Int → Option Int) (l : List (Addr × Pt)), vs = [.ref g, .int 5, .ref pl] ∧ Gr T.cG T.cF H g wt cd ed false ws cm ∧ EdAt H ed ws e ∧
  PtsAt K H pl l ∧ (∀ wd ∈ ws, WdOk cm e (l.map (·.2)) wd) ∧ Tabs T.T H ∧ ∀ H', Kp T.cF T.T [] H H' → Q (.bl true) H'
theorem sc_right : FnScope ["self", "place", "points", "width"] ["self", "place", "points"] (defScope s_right) := ⟨rfl, rfl, rfl, by decide +kernel, rfl, by decide +kernel, by decide +kernel⟩
theorem m_right (T : Ev K mg base) : C8.Met P w K mg base 7 T.cG "right" (sp_right T) [] := by
  refine metD T.clG T.e_right sc_right (fun _ _ _ _ _ _ us hl => match us, hl with | [_, _, _], _ => rfl) (fun vs H Q E h => by obtain ⟨_, _, _, _, _, _, _, _, _, rfl, _⟩ := h; rfl) (fun f cdv A outer s H vs Q E hr h => ?_)
  obtain ⟨g, wt, cd, ed, pl, ws, cm, e, l, rfl, hG, hE, hP, hW, hTb, k⟩ := h
  obtain ⟨⟨dx, hg⟩, hw, hc, wok⟩ := id hG
  refine ⟨_, (pss_one (ps_ret (pe_callB (cr_all rfl) (by rfl) T.b_all (by decide +kernel) (pa_cons (pe_lc (own := [("width", 3)]) rfl sc_right.nd (pi_tup (pe_fldC T.clG (T.naG _ (by decide)) (pv 0))) (blkOk_by (own := [("width", 3)]) (N := ["self", "place", "points", "width"]) (sc := defScope s_right) (by decide +kernel)) (fun _ _ _ _ _ => (pg_name (i := 3) sc_right.nd rfl (Or.inl rfl))) (fun _ _ _ _ _ => pts_nil) (fun _ _ _ _ _ => (C8.pe_mt (m_right_by T) hr (by decide) (pv 0) (pa_cons (pv 1) (pa_cons (pv 2) (pa_cons (pv 3) pa_nil)))))) pa_nil)))), ?_⟩
  refine ⟨_, rfl, g, dx, _, _, rfl, hg, lk_widths _ _ _ _, wt, rfl, ⟨_, hw.sq⟩, fun D nD => ?_⟩
  have hxl : (ws.map V.int).length = ws.length := List.length_map _
  have hwl := wok.len
  refine lc_it (walk_tup (K := K) (a := wt) (xs := ws.map V.int)) (LcP T.cF T.T H D fun i acc _ => acc = (List.replicate i true).map V.bl) (lc0 nD rfl) (fun i H' _ ⟨acc, _, _, k3, _⟩ => (hw.kp k3).sq) ?_ ?_
  · rintro i x H1 H2 hi ⟨acc, ha, hl, k3, rfl⟩ ⟨rfl, ex⟩
    rw [hxl] at hi
    obtain ⟨wd, hwd⟩ : ∃ o, ws[i]? = some o := ⟨_, List.getElem?_eq_getElem hi⟩
    have ex : x = .int wd := mapGet ex hwd
    subst ex
    have hm := List.mem_of_getElem? hwd
    have hG2 := hG.kp k3 (by simp) (by simp)
    obtain ⟨⟨dx2, hg2⟩, _⟩ := id hG2
    refine ⟨rfl, yes_ ⟨_, rfl, g, dx2, _, rfl, hg2, lk_right_by _ _ _ _, _, rfl, _, rfl, _, rfl, g, wt, cd, ed, pl, ws, cm, e, l, wd, rfl, hG2, hE.kp k3 (by simp), hm, ⟨k3.lst hP.ls, fun x hx => k3.tup (hP.pt x hx)⟩, hW wd hm, k3.tb hTb, fun H3 k4 => ?_⟩⟩
    refine lcYes (Nat.lt_of_lt_of_le (by omega : i < 4) (by decide)) nD k3 ha hl k4 ?_
    rw [List.replicate_succ', List.map_append]
    rfl
  · rintro H1 ⟨acc, ha, hl, k3, rfl⟩
    refine ⟨D, _, rfl, SqL.of ha, ?_⟩
    have hall : (List.replicate (ws.map V.int).length true).all id = true := by simp
    rw [hall]
    exact k H1 k3
end
end Tg
/-! TgE1 -/
set_option Elab.async false
set_option linter.all false
set_option maxRecDepth 100000
set_option maxHeartbeats 4000000
/-! Edges -/
namespace Tg
open PySem PySem.Spec PyProof.Rows L2 LamX NdefX TgM
def ifS : Stmt → Stmt
  | .If _ (s :: _) _ _ => s
  | s => s
def lpoint : Expr := kwE (asgV (ifS ((defBody s_moved).getD 2 (.Pass ⟨0, 0, 0, 0⟩)))) 0
theorem ls_point : TgL.LScope ["point"] ["point"] [] (lamS lpoint) := TgL.lscope_by (by decide +kernel)
def spPoint : List (Option V) → Sp := fun ws vs H Q _ => ∃ (a : Addr) (t wo : Int), vs = [.ref a] ∧ H a = some (.tup [.int t, .int wo]) ∧ Q (.int t) H
def eFs (bp : Addr) : List (Str × V) := [("by_place", .ref bp)]
theorem lke_by (bp : Addr) : (eFs bp).lookup ("by_place" : Str) = some (.ref bp) := by kernel_rfl
theorem lke_edge_of (bp : Addr) : (eFs bp).lookup ("edge_of" : Str) = none := by kernel_rfl
theorem lke_moved (bp : Addr) : (eFs bp).lookup ("moved" : Str) = none := by kernel_rfl
def egK (v : V) : Option Pt → List (Key × V)
  | none => []
  | some _ => [(Sum.inl 5, v)]
structure EgAt (CE : Addr) (H : Hp) (x bp : Addr) (eo : Option Pt) : Prop where
  ins : ∃ dx, H x = some (.ins CE dx (eFs bp))
  dc : ∃ v, PtV H v eo ∧ H bp = some (.dK (egK v eo))
theorem EgAt.kp {CE C : Addr} {TL : List (Addr × Str)} {M : List Addr} {H H' : Hp} {x bp : Addr} {eo : Option Pt} (k : Kp C TL M H H') (hx : x ∉ M) (hb : bp ∉ M) (h : EgAt CE H x bp eo) : EgAt CE H' x bp eo := by
  obtain ⟨⟨dx, h1⟩, v, h2, h3⟩ := h
  exact ⟨⟨dx, k.at h1 hx⟩, v, h2.kp k, k.at h3 hb⟩
theorem val_eg (v : V) (H : Hp) (eo : Option Pt) (h : PtV H v eo) : (valV (egK v eo) (Sum.inl 5 : Key)).getD .non = v := by
  cases eo with
  | none => exact h.symm
  | some p => rfl
section
variable {P : Program} {w : World} {K : PySem.W.Frag} {mg : Str → Option Value} {base : Heap}
theorem lok_point (q : Str) (cl : List (Str × Addr)) (c' : Addr) (hcl : cl = []) : TgL.LOk P w K mg base 1 ⟨lamP lpoint, lamB lpoint, lamS lpoint, q, cl, c'⟩ ["point"] [] spPoint := by
  refine TgL.lok_of ls_point (fun y c m => by rw [hcl] at m; cases m) (fun pm ctv us hl => match us, hl with | [_], _ => rfl) (fun ws vs H Q E h => by obtain ⟨_, _, _, rfl, _⟩ := h; rfl) fun A outer s H f vs ws Q hr hw h => ?_
  obtain ⟨a, t, wo, rfl, ha, k⟩ := h
  have hw0 : ws = [] := List.length_eq_zero_iff.mp hw
  subst hw0
  refine ⟨_, pe_ix ix_tup (pv 0) pe_int (fun _ _ => rfl), ?_⟩
  exact ⟨_, rfl, a, _, 0, .int t, rfl, rfl, SqT.of ha, rfl, k⟩
theorem hmM (T : Ev K mg base) : (T.tM.2, (("Edges.moved" : Str) ++ (".<locals>." : Str)) ++ ("<lambda>" : Str)) ∈ T.T := by
  have e : (("Edges.moved" : Str) ++ (".<locals>." : Str)) ++ ("<lambda>" : Str) = "Edges.moved.<locals>.<lambda>" := by decide +kernel
  rw [e]
  exact List.mem_cons_of_mem _ List.mem_cons_self
theorem huM (T : Ev K mg base) : ∀ p ∈ T.T, p.1 = T.tM.2 → p.2 = (("Edges.moved" : Str) ++ (".<locals>." : Str)) ++ ("<lambda>" : Str) := by
  have e : (("Edges.moved" : Str) ++ (".<locals>." : Str)) ++ ("<lambda>" : Str) = "Edges.moved.<locals>.<lambda>" := by decide +kernel
  rw [e]
  intro p hp h
  rcases List.mem_cons.mp hp with rfl | hp
  · exact absurd h T.nSM
  · rcases List.mem_cons.mp hp with rfl | hp
    · rfl
    · rw [List.mem_singleton.mp hp] at h
      exact absurd h.symm T.nMR
def sp_Einit (T : Ev K mg base) : Sp := fun vs H Q _ => ∃ (x dx : Addr), vs = [.ref x] ∧ H x = some (.ins T.cE dx []) ∧ ∀ H' bp, Kp T.cF T.T [x] H H' → EgAt T.cE H' x bp none → (∀ kvs, H bp ≠ some (.dK kvs)) → Q .non H'
theorem sc_Einit : FnScope ["self"] ["self"] (defScope s_Einit) := ⟨rfl, rfl, rfl, by decide +kernel, rfl, by decide +kernel, by decide +kernel⟩
theorem k_Einit (T : Ev K mg base) {f : Addr} {fd : FuncData} (F : FunD K "__init__" "Edges.__init__" (defArgs s_Einit) (defBody s_Einit) (defScope s_Einit) [] [] f fd) : FnOk P w K mg base CX0 1 f fd ["self"] (sp_Einit T) := by
  refine okC F sc_Einit (fun vs H Q E h => by obtain ⟨_, _, rfl, _⟩ := h; rfl) (fun cdv A outer s H vs Q E hcd hr h => ?_)
  obtain ⟨x, dx, rfl, hx, k⟩ := h
  refine ⟨_, (pss_one (ps_fld (pv 0) pe_dnewK rfl)), ?_⟩
  intro bp nbp
  have k1 : Kp T.cF T.T [] H (upd H bp (.dK [])) := Kp.new nbp
  have xb : x ≠ bp := ne_of_none hx nbp
  refine ⟨_, rfl, x, T.cE, dx, _, rfl, k1.any hx, T.clE, T.naE, (by decide), ?_⟩
  have k2 : Kp T.cF T.T [x] _ (upd (upd H bp (.dK [])) x (.ins T.cE dx (putF "by_place" (.ref bp) []))) := Kp.set (k1.any hx) (by simp) T.FE
  refine k _ bp ((k1.mono (by simp)).trans k2) ⟨⟨dx, ?_⟩, .non, rfl, k2.at upd_same (by simpa using xb.symm)⟩ fun kvs e => by rw [nbp] at e; cases e
  rw [upd_same]
  exact congrArg (fun l => some (HO.ins T.cE dx l)) (by kernel_rfl)
def sp_edge_of (T : Ev K mg base) : Sp := fun vs H Q _ => ∃ (x bp : Addr) (eo : Option Pt), vs = [.ref x, .int 5] ∧ EgAt T.cE H x bp eo ∧ ∀ v, PtV H v eo → Q v H
theorem sc_edge_of : FnScope ["self", "place"] ["self", "place"] (defScope s_edge_of) := ⟨rfl, rfl, rfl, by decide +kernel, rfl, by decide +kernel, by decide +kernel⟩
theorem m_edge_of (T : Ev K mg base) : C8.Met P w K mg base 1 T.cE "edge_of" (sp_edge_of T) [] := by
  refine metD T.clE T.e_edge_of sc_edge_of (fun _ _ _ _ _ _ us hl => match us, hl with | [_, _], _ => rfl) (fun vs H Q E h => by obtain ⟨_, _, _, rfl, _⟩ := h; rfl) (fun f cdv A outer s H vs Q E hr h => ?_)
  obtain ⟨x, bp, eo, rfl, ⟨⟨dx, hx⟩, v, hv, hb⟩, k⟩ := h
  have hu := hu_of hr
  refine ⟨_, (pss_one (ps_ret (pe_dget1 hu (pe_fldC T.clE T.naE (pv 0)) (pv 1) ⟨rfl, rfl, rfl, rfl⟩))), ?_⟩
  refine ⟨_, rfl, x, dx, _, _, rfl, hx, lke_by _, bp, rfl, .inl ⟨_, .inl hb⟩, _, rfl, _, DGet.k (k := Sum.inl 5) hb, ?_⟩
  rw [val_eg v H eo hv]
  exact k v hv
def sp_moved (T : Ev K mg base) : Sp := fun vs H Q _ => ∃ (x bp pl : Addr) (eo : Option Pt) (l : List (Addr × Pt)) (h : Int), vs = [.ref x, .int 5, .ref pl, .int h] ∧ EgAt T.cE H x bp eo ∧ PtsAt K H pl l ∧ Srt (l.map (·.2)) ∧ l.length ≤ 10000 ∧
  (∀ p0, eo = some p0 → ∀ q ∈ l.map (·.2), p0.1 < q.1) ∧ Tabs T.T H ∧
  ∀ H' v, Kp T.cF T.T [bp] H H' → EgAt T.cE H' x bp ((((l.map (·.2)).filter fun p => decide (p.1 < h)).getLast?).or eo) → PtV H' v ((((l.map (·.2)).filter fun p => decide (p.1 < h)).getLast?).or eo) → Q v H'
theorem sc_moved : FnScope ["self", "place", "points", "horizon", "below", "kept", "time", "worth", "one"] ["self", "place", "points", "horizon"] (defScope s_moved) := ⟨rfl, rfl, rfl, by decide +kernel, rfl, by decide +kernel, by decide +kernel⟩
theorem m_moved (T : Ev K mg base) : C8.Met P w K mg base 3 T.cE "moved" (sp_moved T) [] := by
  obtain ⟨ff, fd, F, hM, hc⟩ := T.e_moved
  refine ⟨ff, fd, ["self", "place", "points", "horizon"], [], T.clE, hM, okC F sc_moved (fun vs H Q E h => by obtain ⟨_, _, _, _, _, _, rfl, _⟩ := h; rfl) (fun cdv A outer s H vs Q E hcd hr h => ?_), F.bindsN (fun _ _ _ _ _ _ us hl => match us, hl with | [_, _, _, _], _ => rfl), .nil⟩
  obtain ⟨x, bp, pl, eo, l, h, rfl, hE, hP, hS, hln, hlt, hTb, k⟩ := h
  have hcode : cdv = .ref T.tM.1 := hcd.symm.trans hc
  obtain ⟨⟨dx, hx⟩, ev, hev, hbp⟩ := id hE
  have hu := hu_of hr
  refine ⟨_, (pss_cons (ps_setLc (i := 4) (own := [("time", 6), ("worth", 7)]) rfl sc_moved.nd rfl rfl (sw_true rfl rfl rfl (by decide +kernel)) (pi_list (pv 2)) (blkOk_by (own := [("time", 6), ("worth", 7)]) (N := ["self", "place", "points", "horizon", "below", "kept", "time", "worth", "one"]) (sc := defScope s_moved) (by decide +kernel)) (fun _ _ _ _ _ => (pgT (K := K) (n := 2) rfl rfl (pgs_cons (pg_name (i := 6) sc_moved.nd rfl (Or.inl rfl)) (pgs_cons (pg_name (i := 7) sc_moved.nd rfl (Or.inl rfl)) pgs_nil)))) (fun _ _ _ _ _ => (pts_one (pt_cmpR op_lt (pv 6) (pv 3) (nomark _)))) (fun _ _ _ _ _ => (pe_tup (pa_cons (pv 6) (pa_cons (pv 7) pa_nil)))))
      (pss_cons (ps_setLc (i := 5) (own := [("one", 8)]) rfl sc_moved.nd rfl rfl (sw_true rfl rfl rfl (by decide +kernel)) (pi_tup (pe_tup (pa_cons (pv 1) pa_nil))) (blkOk_by (own := [("one", 8)]) (N := ["self", "place", "points", "horizon", "below", "kept", "time", "worth", "one"]) (sc := defScope s_moved) (by decide +kernel)) (fun _ _ _ _ _ => (pg_name (i := 8) sc_moved.nd rfl (Or.inl rfl))) (fun _ _ _ _ _ => (pts_one (pt_cmp (pc_din hu (pv 8) (pe_fldC T.clE T.naE (pv 0)))))) (fun _ _ _ _ _ => (pe_dget hu (pe_fldC T.clE T.naE (pv 0)) (pv 1) (fun _ _ => rfl))))
      (pss_cons (ps_if (pt_cmpR (op_neD hr.units) (pe_op op_cat (pv 4) (pv 5)) (pe_lst pa_nil) (nomark _)) (pss_one (ps_dput hu (pe_fldC T.clE T.naE (pv 0)) (pv 1) (pe_callBK (TgL.cr_maxKey (k := 1) rfl (hr.mono (by decide))) (by rfl) T.b_max (by decide +kernel) (pa_cons (pe_op op_cat (pv 4) (pv 5)) pa_nil) (pk_cons (TgL.pe_lam T.bM hcode (hmM T) (huM T) (noFree (by decide +kernel))) pk_nil)) rfl))
        pss_nil)
      (pss_one (ps_ret (C8.pe_mt (m_edge_of T) hr (by decide) (pv 0) (pa_cons (pv 1) pa_nil))))))), ?_⟩
  refine ⟨_, rfl, pl, rfl, ⟨_, hP.ls⟩, fun D nD => ?_⟩
  have hxl : (l.map fun x => V.ref x.1).length = l.length := List.length_map _
  have hsz : ∀ i, i < l.length → i < sizeLine := fun i h => Nat.lt_of_lt_of_le h (Nat.le_trans hln (by decide))
  let gp : Pt → Bool := fun p => decide (p.1 < h)
  refine lc_it (walk_list (K := K) (a := pl) (xs := l.map fun x => V.ref x.1)) (LcP T.cF T.T H D fun i acc H' => ∃ L : List (Addr × Pt), acc = L.map (fun x => V.ref x.1) ∧ (∀ x ∈ L, H' x.1 = some (.tup [.int x.2.1, .int x.2.2])) ∧ L.map (·.2) = ((l.map (·.2)).take i).filter gp)
    (lc0 nD ⟨[], rfl, fun x hx => by simp at hx, rfl⟩) (fun i H' _ ⟨acc, _, _, k2, _⟩ => k2.lst hP.ls) ?_ ?_
  · rintro i v H1 H2 hi ⟨acc, ha, hl, k2, L, rfl, hL, hLm⟩ ⟨rfl, ex⟩
    rw [hxl] at hi
    obtain ⟨⟨q, t, wo⟩, hq⟩ : ∃ x, l[i]? = some x := ⟨_, List.getElem?_eq_getElem hi⟩
    have ex : v = .ref q := mapGet (f := fun x : Addr × Pt => V.ref x.1) (z := (q, t, wo)) ex hq
    subst ex
    have hqt := k2.tup (hP.pt _ (List.mem_of_getElem? hq))
    have hf := filter_snoc (p := gp) (l := l.map (·.2)) (i := i) (x := (t, wo)) (by rw [List.getElem?_map, hq]; rfl)
    refine ⟨q, _, rfl, SqT.of hqt, rfl, _, _, rfl, _, _, rfl, rfl, rfl, ?_⟩
    refine ⟨_, rfl, _, rfl, _, _, rfl, rfl, _, rfl, ?_⟩
    refine ite2 (fun e => ?_) (fun e => ?_)
    · refine ⟨_, rfl, _, rfl, two_le, fun p np => lcYes (hsz i hi) nD k2 ha hl (Kp.new np) ⟨L ++ [(p, t, wo)], by simp, fun y hy => ?_, ?_⟩⟩
      · have kD : Kp T.cF T.T [D] (upd H2 p (.tup [.int t, .int wo])) (upd (upd H2 p (.tup [.int t, .int wo])) D (.lst (L.map (fun x => V.ref x.1) ++ [.ref p]))) := Kp.set ((Kp.new (C := T.cF) (T := T.T) (M := []) np).any ha) (by simp) trivial
        rcases List.mem_append.mp hy with hy | hy
        · exact kD.tup ((Kp.new (C := T.cF) (T := T.T) (M := []) np).tup (hL y hy))
        · rw [List.mem_singleton.mp hy]
          exact kD.tup upd_same
      · rw [List.map_append, hLm, hf, if_pos e]
        rfl
    · refine lcNo k2 ha hl (Kp.refl _) ⟨L, rfl, hL, ?_⟩
      rw [hLm, hf, if_neg e, List.append_nil]
  · rintro H1 ⟨acc, ha, hl, k2, L, rfl, hL, hLm⟩
    rw [hxl, List.take_of_length_le (by simp)] at hLm
    have hLl : L.length ≤ 10000 := by
      have := congrArg List.length hLm
      rw [List.length_map] at this
      rw [this]
      exact Nat.le_trans (List.length_filter_le _ _) (by rw [List.length_map]; exact hln)
    refine ⟨_, rfl, (by show 1 ≤ sizeLine; decide), fun p np => ⟨p, rfl, ⟨_, SqT.of upd_same⟩, fun D2 nD2 => ?_⟩⟩
    have k3 : Kp T.cF T.T [] H (upd H1 p (.tup [.int 5])) := k2.trans (Kp.new np)
    have hE3 := hE.kp k3 (by simp) (by simp)
    have kl : ∃ kl : List (Addr × Pt), kl.map (·.2) = eo.toList ∧ (∀ y ∈ kl, H y.1 = some (.tup [.int y.2.1, .int y.2.2])) ∧ (kl.map fun x => V.ref x.1) = (egK ev eo).map (·.2) := by
      cases eo with
      | none => exact ⟨[], rfl, by simp, rfl⟩
      | some p0 =>
        obtain ⟨a, rfl, ha⟩ := hev
        exact ⟨[(a, p0)], rfl, fun y hy => by rw [List.mem_singleton.mp hy]; exact ha, rfl⟩
    obtain ⟨kl, kl1, kl2, kl3⟩ := kl
    refine lc_it (walk_tup (K := K) (a := p) (xs := [.int 5])) (LcP T.cF T.T (upd H1 p (.tup [.int 5])) D2 fun i acc H' => acc = if i = 0 then [] else kl.map fun x => V.ref x.1) (lc0 nD2 rfl) (fun i H' _ ⟨acc, _, _, k4, _⟩ => SqT.of (k4.tup upd_same)) ?_ ?_
    · rintro i v H2 H3 hi ⟨acc, ha4, hl4, k4, rfl⟩ ⟨rfl, ex⟩
      have hi0 : i = 0 := by simp at hi; exact hi
      subst hi0
      have ex : v = .int 5 := (Option.some.inj ex).symm
      subst ex
      have hx4 := k4.any (k3.any hx)
      have hb4 := k4.any (k3.any hbp)
      refine ⟨rfl, _, rfl, _, rfl, x, dx, _, _, rfl, hx4, lke_by _, bp, _, rfl, DGet.k (k := Sum.inl 5) hb4, _, rfl, ?_⟩
      cases eo with
      | none =>
        refine iteF (lcNo k4 ha4 hl4 (Kp.refl _) ?_)
        show [] = kl.map fun x => V.ref x.1
        exact kl3.symm
      | some p0 =>
        refine iteT ⟨_, rfl, x, dx, _, _, rfl, hx4, lke_by _, _, rfl, bp, ev, rfl, DGet.k (k := Sum.inl 5) hb4, lcYes (by decide) nD2 k4 ha4 hl4 (Kp.refl _) ?_⟩
        show [ev] = kl.map fun x => V.ref x.1
        exact kl3.symm
    · rintro H2 ⟨acc, ha4, hl4, k4, ea⟩
      have ea : acc = kl.map fun x => V.ref x.1 := ea
      subst ea
      have k5 := k3.trans k4
      have hD5 := k4.any ((Kp.new (C := T.cF) (T := T.T) (M := []) (o := .tup [.int 5]) np).any ha)
      have hkl1 : kl.length ≤ 1 := by
        have := congrArg List.length kl1
        rw [List.length_map] at this
        rw [this]
        cases eo <;> simp
      let cl : List (Addr × Pt) := L ++ kl
      have hcl : L.map (fun x => V.ref x.1) ++ kl.map (fun x => V.ref x.1) = cl.map fun x => V.ref x.1 := by rw [List.map_append]
      have hsum : (L.map fun x => V.ref x.1).length + (kl.map fun x => V.ref x.1).length ≤ sizeLine := by
        rw [List.length_map, List.length_map]
        exact Nat.le_trans (by omega : _ ≤ 10001) (by decide)
      have htup : ∀ y ∈ cl, H2 y.1 = some (.tup [.int y.2.1, .int y.2.2]) := fun y hy => by
        rcases List.mem_append.mp hy with hy | hy
        · exact k4.tup ((Kp.new (C := T.cF) (T := T.T) (M := []) (o := .tup [.int 5]) np).tup (hL y hy))
        · exact k5.tup (kl2 y hy)
      refine ⟨_, rfl, _, rfl, D, D2, _, _, rfl, rfl, hD5, ha4, hsum, fun p1 n1 => ⟨Nat.zero_le _, fun p2 n2 => ?_⟩⟩
      rw [hcl] at n2 ⊢
      have k6 : Kp T.cF T.T [] H2 (upd (upd H2 p1 (.lst (cl.map fun x => V.ref x.1))) p2 (.lst [])) := (Kp.new n1).trans (Kp.new n2)
      refine ⟨.list (cl.map fun x => dPt x.2), .list [], .lst ((Kp.new (C := T.cF) (T := T.T) n2).lst (SqL.of upd_same)) (dp_pts fun y hy => k6.tup (htup y hy)), .lst (SqL.of upd_same) .nil, (sd_pts cl).sh (by decide), rfl, _, rfl, ?_⟩
      have k7 := k5.trans k6
      have hpts : cl.map (·.2) = ((l.map (·.2)).filter gp) ++ eo.toList := by rw [List.map_append, hLm, kl1]
      by_cases hne : cl = []
      · have e1 : PyData.eqv (.list (cl.map fun x => dPt x.2)) (.list []) = true := by rw [hne]; rfl
        rw [e1]
        have hE7 := hE.kp k7 (by simp) (by simp)
        obtain ⟨⟨dx7, hx7⟩, _⟩ := id hE7
        rw [hne] at hpts
        have hb := List.append_eq_nil_iff.mp hpts.symm
        have e2 : eo = none := by
          cases eo with
          | none => rfl
          | some _ => simp at hb
        have e3 : (((l.map (·.2)).filter fun p => decide (p.1 < h)).getLast?).or eo = eo := by
          have : ((l.map (·.2)).filter fun p => decide (p.1 < h)) = [] := hb.1
          rw [this]
          rfl
        rw [e3] at k
        refine iteF ⟨_, rfl, x, dx7, _, rfl, hx7, lke_edge_of _, _, rfl, x, bp, eo, rfl, hE7, fun v hv => k _ v (k7.mono (by simp)) hE7 hv⟩
      · have e1 : PyData.eqv (.list (cl.map fun x => dPt x.2)) (.list []) = false := by
          cases hc2 : cl with
          | nil => exact absurd hc2 hne
          | cons a r => simp [PyData.eqv, PyData.eqvAll]
        rw [e1]
        refine iteT ?_
        have hD7 := k6.any hD5
        have ha7 := k6.any ha4
        refine ⟨_, rfl, _, rfl, D, D2, _, _, rfl, rfl, hD7, ha7, hsum, fun p3 n3 => ?_⟩
        rw [hcl]
        have k8 : Kp T.cF T.T [] H (upd (upd (upd H2 p1 (.lst (cl.map fun x => V.ref x.1))) p2 (.lst [])) p3 (.lst (cl.map fun x => V.ref x.1))) := k7.trans (Kp.new n3)
        refine ⟨k8.tb hTb, fun lf lc H9 x9 _ t9 _ m9 n9 => ?_⟩
        have k89 : Kp T.cF T.T [] _ H9 := Kp.lam x9 t9
        have k9 := k8.trans k89
        have hcl9 : H9 p3 = some (.lst (cl.map fun x => V.ref x.1)) := k89.any upd_same
        have htup9 : ∀ y ∈ cl, H9 y.1 = some (.tup [.int y.2.1, .int y.2.2]) := fun y hy => k89.tup ((Kp.new (C := T.cF) (T := T.T) (M := []) n3).tup (k6.tup (htup y hy)))
        have hcll : (cl.map fun x => V.ref x.1).length = cl.length := List.length_map _
        refine ⟨p3, lf, cl.map fun x => V.ref x.1, _, ["point"], spPoint, fun i => ((cl.map fun x => x.2.1).getD i 0), rfl, rfl, SqL.of hcl9, by rw [hcll]; exact List.length_pos_iff.mpr hne, m9, n9, lok_point _ _ lc rfl, rfl, fun i v hv => ?_, fun i v hv hmax => ?_⟩
        · rw [List.getElem?_map] at hv
          cases hy : cl[i]? with
          | none => rw [hy] at hv; cases hv
          | some y =>
            rw [hy] at hv
            have hv : v = .ref y.1 := (Option.some.inj hv).symm
            subst hv
            refine ⟨y.1, y.2.1, y.2.2, rfl, htup9 y (List.mem_of_getElem? hy), ?_, rfl⟩
            show V.int y.2.1 = V.int ((cl.map fun x => x.2.1).getD i 0)
            rw [List.getD_eq_getElem?_getD, List.getElem?_map, hy]
            rfl
        · rw [List.getElem?_map] at hv
          cases hy : cl[i]? with
          | none => rw [hy] at hv; cases hv
          | some y =>
            rw [hy] at hv
            have hv : v = .ref y.1 := (Option.some.inj hv).symm
            subst hv
            have hyt := htup9 y (List.mem_of_getElem? hy)
            have hE9 := hE.kp k9 (by simp) (by simp)
            obtain ⟨⟨dx9, hx9⟩, ev9, hev9, hbp9⟩ := id hE9
            have hyp : (cl.map (·.2))[i]? = some y.2 := by rw [List.getElem?_map, hy]; rfl
            have hkf : ∀ j z, (cl.map (·.2))[j]? = some z → z.1 ≤ y.2.1 ∧ (j < i → z.1 < y.2.1) := fun j z hz => by
              have hj : j < cl.length := by
                have := (List.getElem?_eq_some_iff.mp hz).1
                rw [List.length_map] at this
                exact this
              have h1 := hmax j (by rw [hcll]; exact hj)
              have e1 : (cl.map fun x => x.2.1).getD j 0 = z.1 := by
                rw [List.getElem?_map] at hz
                rw [List.getD_eq_getElem?_getD, List.getElem?_map]
                cases hc : cl[j]? with
                | none => rw [hc] at hz; cases hz
                | some c =>
                  rw [hc] at hz
                  have : c.2 = z := Option.some.inj hz
                  rw [← this]
                  rfl
              have e2 : (cl.map fun x => x.2.1).getD i 0 = y.2.1 := by
                rw [List.getD_eq_getElem?_getD, List.getElem?_map, hy]
                rfl
              simp only [e1, e2] at h1
              exact h1
            have hres : ((((l.map (·.2)).filter fun p => decide (p.1 < h)).getLast?).or eo) = some y.2 := by
              have hbs : Srt ((l.map (·.2)).filter gp) := hS.filter _
              show (((l.map (·.2)).filter gp).getLast?).or eo = some y.2
              rw [hpts] at hyp hkf
              cases hlast : ((l.map (·.2)).filter gp).getLast? with
              | none =>
                have hnil := List.getLast?_eq_none_iff.mp hlast
                rw [hnil] at hyp
                cases eo with
                | none => simp at hyp
                | some p0 =>
                  have : [p0][i]? = some y.2 := hyp
                  cases i with
                  | zero => simpa using this
                  | succ i => simp at this
              | some pl2 =>
                have hm2 := List.mem_of_getLast? hlast
                show some pl2 = some y.2
                obtain ⟨bl, hbl⟩ : ∃ bl, (l.map (·.2)).filter gp = bl ++ [pl2] := by
                  obtain ⟨ys, hys⟩ := List.getLast?_eq_some_iff.mp hlast
                  exact ⟨ys, hys⟩
                rw [hbl] at hyp hkf hbs
                have hlt0 : ∀ p0, eo = some p0 → p0.1 < pl2.1 := fun p0 e0 => hlt p0 e0 pl2 (List.mem_filter.mp hm2).1
                have hpw := (List.pairwise_append.mp hbs).2.2
                have h1 := hkf bl.length pl2 (by rw [List.append_assoc, List.getElem?_append_right (Nat.le_refl _)]; simp)
                have hmem := List.mem_of_getElem? hyp
                rcases List.mem_append.mp hmem with hmem | hmem
                · rcases List.mem_append.mp hmem with hmem | hmem
                  · have := hpw y.2 hmem pl2 (by simp)
                    omega
                  · rw [List.mem_singleton.mp hmem]
                · cases eo with
                  | none => simp at hmem
                  | some p0 =>
                    have e0 : y.2 = p0 := by simpa using hmem
                    have := hlt0 p0 rfl
                    rw [e0] at h1
                    omega
            rw [hres] at k
            refine ⟨_, rfl, x, dx9, _, _, rfl, hx9, lke_by _, _, rfl, bp, _, rfl, DPut.k (k := Sum.inl 5) hbp9 (by cases eo <;> first | (show 0 < sizeLine; decide) | (show 1 < sizeLine; decide)), ?_⟩
            have kB : Kp T.cF T.T [bp] H9 (upd H9 bp (.dK (putK (egK ev9 eo) (Sum.inl 5) (.ref y.1)))) := Kp.set hbp9 (by simp) trivial
            have xbp : x ≠ bp := fun z => by rw [z, hbp9] at hx9; cases hx9
            have ep : putK (egK ev9 eo) (Sum.inl 5 : Key) (.ref y.1) = egK (.ref y.1) (some y.2) := by
              cases eo <;> rfl
            have hE10 : EgAt T.cE (upd H9 bp (.dK (putK (egK ev9 eo) (Sum.inl 5) (.ref y.1)))) x bp (some y.2) := ⟨⟨dx9, kB.at hx9 (by simpa using xbp)⟩, .ref y.1, ⟨y.1, rfl, kB.tup hyt⟩, by rw [upd_same, ep]⟩
            obtain ⟨⟨dx10, hx10⟩, _⟩ := id hE10
            refine ⟨_, rfl, x, dx10, _, rfl, hx10, lke_edge_of _, _, rfl, x, bp, some y.2, rfl, hE10, fun v hv => k _ v ((k9.mono (by simp)).trans kB) hE10 hv⟩
end
end Tg
/-! TgK1 -/
set_option Elab.async false
set_option linter.all false
set_option maxRecDepth 100000
set_option maxHeartbeats 4000000
/-! Keeping -/
namespace Tg
open PySem PySem.Spec PyProof.Rows L2 LamX NdefX TgM
def kFs (wt kt ht : Addr) : List (Str × V) := [("widths", .ref wt), ("keeps", .ref kt), ("horizons", .ref ht)]
section
variable (wt kt ht : Addr)
theorem lkk_widths : (kFs wt kt ht).lookup ("widths" : Str) = some (.ref wt) := by kernel_rfl
theorem lkk_keeps : (kFs wt kt ht).lookup ("keeps" : Str) = some (.ref kt) := by kernel_rfl
theorem lkk_horizons : (kFs wt kt ht).lookup ("horizons" : Str) = some (.ref ht) := by kernel_rfl
theorem lkk_moved_to : (kFs wt kt ht).lookup ("moved_to" : Str) = none := by kernel_rfl
theorem lkk_expire : (kFs wt kt ht).lookup ("expire" : Str) = none := by kernel_rfl
theorem lkk_finest : (kFs wt kt ht).lookup ("finest" : Str) = none := by kernel_rfl
end
structure Ke (CK : Addr) (H : Hp) (x wt kt ht : Addr) (ws : List Int) (ks hs : List (Option Int)) : Prop where
  ins : ∃ dx, H x = some (.ins CK dx (kFs wt kt ht))
  wt : WT H wt (ws.map V.int)
  kt : H kt = some (.tup (ks.map oI))
  ht : H ht = some (.tup (hs.map oI))
  wok : WsOk ws
  ksok : KsOk ws.length ks
  hl : hs.length = ks.length
theorem Ke.kp {CK C : Addr} {TL : List (Addr × Str)} {M : List Addr} {H H' : Hp} {x wt kt ht : Addr} {ws : List Int} {ks hs : List (Option Int)} (k : Kp C TL M H H') (hx : x ∉ M) (h : Ke CK H x wt kt ht ws ks hs) : Ke CK H' x wt kt ht ws ks hs := by
  obtain ⟨⟨dx, h1⟩, h2, h3, h4, h5, h6, h7⟩ := h
  exact ⟨⟨dx, k.at h1 hx⟩, h2.kp k, k.tup h3, k.tup h4, h5, h6, h7⟩
section
variable {P : Program} {w : World} {K : PySem.W.Frag} {mg : Str → Option Value} {base : Heap}
def sp_check_keeps (T : Ev K mg base) : Sp := fun vs H Q _ => ∃ (wt kt : Addr) (ws : List Int) (ks : List (Option Int)), vs = [.ref wt, .ref kt] ∧ WT H wt (ws.map V.int) ∧ H kt = some (.tup (ks.map oI)) ∧ KsOk ws.length ks ∧ ∀ H', Kp T.cF T.T [] H H' → Q .non H'
theorem sc_check_keeps : FnScope ["widths", "keeps", "at", "keep"] ["widths", "keeps"] (defScope s_check_keeps) := ⟨rfl, rfl, rfl, by decide +kernel, rfl, by decide +kernel, by decide +kernel⟩
theorem c_check_keeps (T : Ev K mg base) : C8.Cal P w K mg base 1 "check_keeps" (sp_check_keeps T) [] := by
  refine calD T.d_check_keeps sc_check_keeps (fun _ _ _ _ _ _ us hl => match us, hl with | [_, _], _ => rfl) (fun vs H Q E h => by obtain ⟨_, _, _, _, rfl, _⟩ := h; rfl) (fun f cdv A outer s H vs Q E hr h => ?_)
  obtain ⟨wt, kt, ws, ks, rfl, hw, hk, ok, k⟩ := h
  refine ⟨_, (pss_cons (ps_for PassesOwn.never rfl (TgI.pi_enumT (by rfl) T.b_enumerate (pa_cons (pv 1) pa_nil)) (pg_tup rfl (pgs_cons (pg_name (i := 2) sc_check_keeps.nd rfl (Or.inl rfl)) (pgs_cons (pg_name (i := 3) sc_check_keeps.nd rfl (Or.inl rfl)) pgs_nil)))
        (pss_cons (ps_if (PW.pt (pw_or (pt_cmpR op_gt (pv 2) (pe_callB call_len_seq (by rfl) T.b_len (by decide +kernel) (pa_cons (pv 0) pa_nil)) (nomark _)) (pw_or1 (PW.pt (pw_and (pt_cmpR op_notN (pv 3) pe_non (nomark _)) (pw_and1 (pt_cmpR op_lt (pv 3) pe_int (nomark _)))))))) (pss_one ps_never)
          pss_nil)
        (pss_one (ps_if (PW.pt (pw_and (pt_cmpR op_gt (pv 2) pe_int (nomark _)) (pw_and (pt_cmpR op_notN (pv 3) pe_non (nomark _)) (pw_and1 (PW.pt (pw_or (pt_cmpR op_isN (pe_ix ix_tup (pv 1) (pe_op op_sub (pv 2) pe_int) (fun _ _ => rfl)) pe_non (nomark _)) (pw_or1 (pt_cmpR op_lt (pv 3) (pe_ix ix_tup (pv 1) (pe_op op_sub (pv 2) pe_int) (fun _ _ => rfl)) (nomark _))))))))) (pss_one ps_never)
          pss_nil))))
      (pss_one (ps_if (pt_cmpR op_le (pe_callB call_len_seq (by rfl) T.b_len (by decide +kernel) (pa_cons (pv 1) pa_nil)) (pe_callB call_len_seq (by rfl) T.b_len (by decide +kernel) (pa_cons (pv 0) pa_nil)) (nomark _)) (pss_one ps_never)
        pss_nil))), ?_⟩
  refine ⟨_, rfl, kt, _, rfl, SqT.of hk, ?_⟩
  have hxl : (ks.map oI).length = ks.length := List.length_map _
  have hwl : (ws.map V.int).length = ws.length := List.length_map _
  have hkl := ok.len
  refine for_it (TgI.walk_enumT (K := K) (a := kt) (xs := ks.map oI)) (fun i σ H' => ∃ (o2 o3 : Option V), σ = [some (.ref wt), some (.ref kt), o2, o3] ∧ Kp T.cF T.T [] H H')
    ⟨none, none, rfl, Kp.refl _⟩ (fun i σ H' _ ⟨_, _, _, k2⟩ => SqT.of (k2.tup hk)) ?_ ?_
  · rintro i x σ H1 H2 hi ⟨o2, o3, rfl, k1⟩ ⟨p, u, v, rfl, np, rfl, e1, e2⟩
    rw [hxl] at hi
    obtain ⟨kp, hkp⟩ : ∃ o, ks[i]? = some o := ⟨_, List.getElem?_eq_getElem hi⟩
    have e1 : u = .int (i : Nat) := (Option.some.inj e1).symm
    have e2 : v = oI kp := mapGet e2 hkp
    subst e1 e2
    have k2 := k1.trans (Kp.new (C := T.cF) (T := T.T) (M := []) (o := .tup [.int (i : Nat), oI kp]) np)
    have fin : ∃ (o2 o3 : Option V), [some (.ref wt), some (.ref kt), some (.int (i : Nat)), some (oI kp)] = [some (.ref wt), some (.ref kt), o2, o3] ∧ Kp T.cF T.T [] H (upd H1 p (.tup [.int (i : Nat), oI kp])) := ⟨_, _, rfl, k2⟩
    refine ⟨p, _, rfl, SqT.of upd_same, rfl, _, _, rfl, _, _, rfl, rfl, _, rfl, _, rfl, wt, _, rfl, .inr (hw.kp k2).sq, _, _, rfl, rfl, _, rfl, ?_⟩
    rw [hwl, decide_eq_false (by omega)]
    refine iteF ⟨_, rfl, rfl, _, rfl, ?_⟩
    cases kp with
    | none =>
      refine iteF (iteF ⟨_, rfl, _, _, rfl, rfl, _, rfl, ?_⟩)
      exact ite2 (fun e => ⟨_, rfl, rfl, _, rfl, iteF (iteF fin)⟩) (fun e => iteF fin)
    | some kv =>
      have h0 := ok.nn hkp
      refine iteT ⟨_, rfl, _, _, rfl, rfl, _, rfl, ?_⟩
      rw [decide_eq_false (by omega)]
      refine iteF ⟨_, rfl, _, _, rfl, rfl, _, rfl, ?_⟩
      refine ite2 (fun e => ?_) (fun e => iteF fin)
      have hi0 : 0 < i := by have := of_decide_eq_true e; omega
      refine ⟨_, rfl, rfl, _, rfl, iteT ?_⟩
      obtain ⟨k0, hk0⟩ : ∃ o, ks[i - 1]? = some o := ⟨_, List.getElem?_eq_getElem (by omega)⟩
      have hat : atI (ks.map oI) ((i : Int) - 1) = some (oI k0) := by
        have : ((i : Int) - 1) = ((i - 1 : Nat) : Int) := by omega
        rw [this]
        exact atI_nat (by rw [List.getElem?_map, hk0]; rfl)
      cases k0 with
      | none =>
        have := ok.none_suf (g := i - 1) (g' := i) (by omega) hk0 hi
        rw [hkp] at this
        cases this
      | some k0 =>
        have hle := ok.mono (g := i - 1) (g' := i) (by omega) hk0 hkp
        refine ⟨_, rfl, _, rfl, _, _, rfl, rfl, kt, _, _, _, rfl, rfl, SqT.of (k2.tup hk), hat, rfl, _, rfl, iteF ?_⟩
        refine ⟨_, rfl, _, rfl, _, rfl, _, _, rfl, rfl, kt, _, _, _, rfl, rfl, SqT.of (k2.tup hk), hat, _, _, rfl, rfl, _, rfl, ?_⟩
        rw [decide_eq_false (by omega)]
        exact iteF fin
  · rintro σ H1 ⟨o2, o3, rfl, k1⟩
    refine ⟨_, rfl, kt, _, rfl, .inr (SqT.of (k1.tup hk)), _, rfl, wt, _, rfl, .inr (hw.kp k1).sq, _, _, rfl, rfl, _, rfl, ?_⟩
    rw [hwl, hxl, decide_eq_false (by omega)]
    exact iteF (k H1 k1)
def sp_Kinit (T : Ev K mg base) : Sp := fun vs H Q _ => ∃ (x dx wt kt : Addr) (ws : List Int) (ks : List (Option Int)), vs = [.ref x, .ref wt, .ref kt, .non] ∧ H x = some (.ins T.cK dx []) ∧ WT H wt (ws.map V.int) ∧ H kt = some (.tup (ks.map oI)) ∧ WsOk ws ∧ KsOk ws.length ks ∧
  ∀ H' ht, Kp T.cF T.T [x] H H' → Ke T.cK H' x wt kt ht ws ks (ks.map fun _ => none) → Q .non H'
theorem sc_Kinit : FnScope ["self", "widths", "keeps", "horizons", "keep"] ["self", "widths", "keeps", "horizons"] (defScope s_Kinit) := ⟨rfl, rfl, rfl, by decide +kernel, rfl, by decide +kernel, by decide +kernel⟩
theorem k_Kinit (T : Ev K mg base) {f : Addr} {fd : FuncData} (F : FunD K "__init__" "Keeping.__init__" (defArgs s_Kinit) (defBody s_Kinit) (defScope s_Kinit) [] [("horizons", .non)] f fd) : FnOk P w K mg base CX0 2 f fd ["self", "widths", "keeps", "horizons"] (sp_Kinit T) := by
  refine F.ok sc_Kinit (fun vs H Q E h => by obtain ⟨_, _, _, _, _, _, rfl, _⟩ := h; rfl) (fun cdv A outer s H vs Q E hr h => ?_)
  obtain ⟨x, dx, wt, kt, ws, ks, rfl, hx, hw, hkt, wok, ok, k⟩ := h
  refine ⟨_, (pss_cons (ps_fld (pv 0) (C8.pe_c (c_right_widths T) hr (by decide) rfl (pa_cons (pv 1) pa_nil)) rfl)
      (pss_cons (ps_expr (C8.pe_c (c_check_keeps T) hr (by decide) rfl (pa_cons (pe_fldC T.clK (T.naK _ (by decide)) (pv 0)) (pa_cons (pv 2) pa_nil))))
      (pss_cons (ps_fld (pv 0) (pe_callTy call_tuple_of (by rfl) T.b_tuple (by decide +kernel) (pa_cons (pv 2) pa_nil)) rfl)
      (pss_one (ps_fld (pv 0) (pe_callTy call_tuple_of (by rfl) T.b_tuple (by decide +kernel) (pa_cons (pe_orT (pv 3) (pe_one (pe_lc (own := [("keep", 4)]) rfl sc_Kinit.nd (pi_tup (pe_fldC T.clK (T.naK _ (by decide)) (pv 0))) (blkOk_by (own := [("keep", 4)]) (N := ["self", "widths", "keeps", "horizons", "keep"]) (sc := defScope s_Kinit) (by decide +kernel)) (fun _ _ _ _ _ => (pg_name (i := 4) sc_Kinit.nd rfl (Or.inl rfl))) (fun _ _ _ _ _ => pts_nil) (fun _ _ _ _ _ => pe_non)))) pa_nil)) rfl))))), ?_⟩
  refine ⟨_, rfl, wt, ws, rfl, hw, wok, fun H1 k1 => ⟨_, rfl, x, T.cK, dx, _, rfl, k1.any hx, T.clK, T.naK _ (by decide), (by decide), ?_⟩⟩
  have kx : Kp T.cF T.T [x] H (upd H1 x (.ins T.cK dx (putF "widths" (.ref wt) []))) := (k1.mono (by simp)).trans (Kp.set (k1.any hx) (by simp) T.FK)
  refine ⟨_, rfl, x, dx, _, _, rfl, upd_same, (by kernel_rfl : _ = some (V.ref wt)), _, rfl, wt, kt, ws, ks, rfl, hw.kp kx, kx.tup hkt, ok, fun H2 k2 => ?_⟩
  have kx2 := kx.trans (k2.mono (by simp) (M' := [x]))
  refine ⟨_, rfl, kt, _, rfl, .inr ⟨SqT.of (kx2.tup hkt), ⟨_, rfl, x, T.cK, dx, _, rfl, k2.any upd_same, T.clK, T.naK _ (by decide), (by show 1 < 1000; decide), ?_⟩⟩⟩
  have kx3 : Kp T.cF T.T [x] H (upd H2 x (.ins T.cK dx (putF "keeps" (.ref kt) (putF "widths" (.ref wt) [])))) := kx2.trans (Kp.set (k2.any upd_same) (by simp) T.FK)
  refine ⟨_, rfl, false, rfl, iteF ?_⟩
  refine ⟨_, rfl, x, dx, _, _, rfl, upd_same, (by kernel_rfl : _ = some (V.ref kt)), kt, rfl, ⟨_, SqT.of (kx3.tup hkt)⟩, fun D nD => ?_⟩
  have hxl : (ks.map oI).length = ks.length := List.length_map _
  have hkl := ok.len
  have hw4 := wok.len
  have xD : x ≠ D := ne_of_none upd_same nD
  refine lc_it (walk_tup (K := K) (a := kt) (xs := ks.map oI)) (LcP T.cF T.T _ D fun i acc _ => acc = ((ks.take i).map fun _ => (none : Option Int)).map oI) (lc0 nD rfl) (fun i H' _ ⟨acc, _, _, k3, _⟩ => SqT.of (k3.tup (kx3.tup hkt))) ?_ ?_
  · rintro i y H3 H4 hi ⟨acc, ha, hl, k3, rfl⟩ ⟨rfl, ey⟩
    rw [hxl] at hi
    obtain ⟨kp, hkp⟩ : ∃ o, ks[i]? = some o := ⟨_, List.getElem?_eq_getElem hi⟩
    refine ⟨rfl, yes_ (lcYes (Nat.lt_of_lt_of_le (by omega : i < 5) (by decide)) nD k3 ha hl (Kp.refl _) ?_)⟩
    rw [take_snoc hkp, List.map_append, List.map_append]
    rfl
  · rintro H3 ⟨acc, ha, hl, k3, rfl⟩
    rw [hxl, List.take_length] at ha
    refine ⟨D, _, rfl, .inl ⟨SqL.of ha, fun t nt => ?_⟩⟩
    have k4 : Kp T.cF T.T [] _ (upd H3 t (.tup ((ks.map fun _ => (none : Option Int)).map oI))) := k3.trans (Kp.new nt)
    refine ⟨_, rfl, x, T.cK, dx, _, rfl, k4.any upd_same, T.clK, T.naK _ (by decide), (by show 2 < 1000; decide), ?_⟩
    have xt : x ≠ t := ne_of_none (k3.any upd_same) nt
    have k5 : Kp T.cF T.T [x] _ (upd (upd H3 t (.tup ((ks.map fun _ => (none : Option Int)).map oI))) x (.ins T.cK dx (putF "horizons" (.ref t) (putF "keeps" (.ref kt) (putF "widths" (.ref wt) []))))) := Kp.set (k4.any upd_same) (by simp) T.FK
    have k6 := kx3.trans ((k4.mono (by simp)).trans k5)
    refine k _ t k6 ⟨⟨dx, ?_⟩, hw.kp k6, k6.tup hkt, k5.tup upd_same, wok, ok, by simp⟩
    rw [upd_same]
    exact congrArg (fun l => some (HO.ins T.cK dx l)) (by kernel_rfl)
def sp_moved_to (T : Ev K mg base) : Sp := fun vs H Q _ => ∃ (x wt kt ht : Addr) (ws : List Int) (ks hs : List (Option Int)) (g : Nat) (now : Int), vs = [.ref x, .int (g : Nat), .int now] ∧ Ke T.cK H x wt kt ht ws ks hs ∧ g < ks.length ∧
  Q (oI (newH1 ws g (ks.getD g none) (hs.getD g none) now)) H
theorem sc_moved_to : FnScope ["self", "grade", "now", "keep", "old", "unit", "new"] ["self", "grade", "now"] (defScope s_moved_to) := ⟨rfl, rfl, rfl, by decide +kernel, rfl, by decide +kernel, by decide +kernel⟩
theorem m_moved_to (T : Ev K mg base) : C8.Met P w K mg base 1 T.cK "moved_to" (sp_moved_to T) [] := by
  refine metD T.clK T.e_moved_to sc_moved_to (fun _ _ _ _ _ _ us hl => match us, hl with | [_, _, _], _ => rfl) (fun vs H Q E h => by obtain ⟨_, _, _, _, _, _, _, _, _, rfl, _⟩ := h; rfl) (fun f cdv A outer s H vs Q E hr h => ?_)
  obtain ⟨x, wt, kt, ht, ws, ks, hs, g, now, rfl, ⟨⟨dx, hx⟩, hw, hk, hh, wok, ok, hl⟩, hg, k⟩ := h
  refine ⟨_, (pss_cons (ps_par (by rfl) sc_moved_to.nd rfl rfl (i := 3) (j := 4) (by decide) rfl rfl (pa_cons (pe_ix ix_tup (pe_fldC T.clK (T.naK _ (by decide)) (pv 0)) (pv 1) (fun _ _ => rfl)) (pa_cons (pe_ix ix_tup (pe_fldC T.clK (T.naK _ (by decide)) (pv 0)) (pv 1) (fun _ _ => rfl)) pa_nil)) (by rfl))
      (pss_cons (ps_if (pt_cmpR op_isN (pv 3) pe_non (nomark _)) (pss_one (ps_ret (pv 4)))
        pss_nil)
      (pss_cons (ps_set (i := 5) sc_moved_to.nd rfl (Or.inl rfl) (pe_ix ix_tup (pe_fldC T.clK (T.naK _ (by decide)) (pv 0)) (pe_callB (call_min2 rfl) (by rfl) T.b_min (by decide +kernel) (pa_cons (pv 1) (pa_cons (pe_op op_sub (pe_callB call_len_seq (by rfl) T.b_len (by decide +kernel) (pa_cons (pe_fldC T.clK (T.naK _ (by decide)) (pv 0)) pa_nil)) pe_int) pa_nil))) (fun _ _ => rfl)))
      (pss_cons (ps_set (i := 6) sc_moved_to.nd rfl (Or.inl rfl) (pe_op op_mul (pe_op op_fdivW (pe_op op_sub (pv 2) (pv 3)) (pv 5)) (pv 5)))
      (pss_cons (ps_if (pt_cmpR op_isN (pv 4) pe_non (nomark _)) (pss_one (ps_ret (pv 6)))
        pss_nil)
      (pss_one (ps_ret (pe_callB (call_max2 rfl) (by rfl) T.b_max (by decide +kernel) (pa_cons (pv 4) (pa_cons (pv 6) pa_nil)))))))))), ?_⟩
  obtain ⟨kp, hkp⟩ : ∃ o, ks[g]? = some o := ⟨_, List.getElem?_eq_getElem hg⟩
  obtain ⟨ho, hho⟩ : ∃ o, hs[g]? = some o := ⟨_, List.getElem?_eq_getElem (by omega)⟩
  have ek : ks.getD g none = kp := by rw [List.getD_eq_getElem?_getD, hkp]; rfl
  have eh : hs.getD g none = ho := by rw [List.getD_eq_getElem?_getD, hho]; rfl
  rw [ek, eh] at k
  have hatk : atI (ks.map oI) ((g : Nat) : Int) = some (oI kp) := atI_nat (by rw [List.getElem?_map, hkp]; rfl)
  have hath : atI (hs.map oI) ((g : Nat) : Int) = some (oI ho) := atI_nat (by rw [List.getElem?_map, hho]; rfl)
  refine ⟨_, rfl, x, dx, _, _, rfl, hx, lkk_keeps _ _ _, _, rfl, kt, _, _, _, rfl, rfl, SqT.of hk, hatk, _, rfl, x, dx, _, _, rfl, hx, lkk_horizons _ _ _, _, rfl, ht, _, _, _, rfl, rfl, SqT.of hh, hath, _, _, rfl, ?_⟩
  refine ⟨_, rfl, rfl, _, rfl, ?_⟩
  rw [oI_non]
  cases kp with
  | none => exact iteT ⟨_, rfl, k⟩
  | some kv =>
    obtain ⟨un, hu1, hu2, hu3, hu4⟩ := unit_at wok g
    have hlw : 0 < ws.length := List.length_pos_iff.mpr wok.ne
    have hatw : ∀ z : Int, z = ((min g (ws.length - 1) : Nat) : Int) → atI (ws.map V.int) z = some (.int un) := fun z e => by
      rw [e]
      exact atI_nat (by rw [List.getElem?_map, hu1]; rfl)
    refine iteF ⟨_, rfl, x, dx, _, _, rfl, hx, lkk_widths _ _ _, _, rfl, _, rfl, x, dx, _, _, rfl, hx, lkk_widths _ _ _, wt, _, rfl, .inr hw.sq, _, _, rfl, rfl, _, _, rfl, wt, _, _, _, rfl, rfl, hw.sq, hatw _ ?_, ?_⟩
    · rw [List.length_map]
      split <;> omega
    refine ⟨_, rfl, _, rfl, _, _, rfl, rfl, _, rfl, _, _, rfl, rfl, dv hu3 (by omega), _, rfl, _, _, rfl, rfl, mlr (j := un) (by omega) (by omega), ?_⟩
    refine ⟨_, rfl, rfl, _, rfl, ?_⟩
    rw [oI_non]
    unfold newH1 at k
    rw [hu2] at k
    cases ho with
    | none => exact iteT ⟨_, rfl, k⟩
    | some h0 => exact iteF ⟨_, rfl, _, rfl, _, _, rfl, k⟩
def sp_expire (T : Ev K mg base) : Sp := fun vs H Q _ => ∃ (x wt kt ht : Addr) (ws : List Int) (ks hs : List (Option Int)) (now : Int), vs = [.ref x, .int now] ∧ Ke T.cK H x wt kt ht ws ks hs ∧
  ∀ H' ht', Kp T.cF T.T [x] H H' → Ke T.cK H' x wt kt ht' ws ks (newHs ws ks hs now) → Q (.ref ht') H'
theorem sc_expire : FnScope ["self", "now", "grade", "keep"] ["self", "now"] (defScope s_expire) := ⟨rfl, rfl, rfl, by decide +kernel, rfl, by decide +kernel, by decide +kernel⟩
theorem m_expire (T : Ev K mg base) : C8.Met P w K mg base 2 T.cK "expire" (sp_expire T) [] := by
  refine metD T.clK T.e_expire sc_expire (fun _ _ _ _ _ _ us hl => match us, hl with | [_, _], _ => rfl) (fun vs H Q E h => by obtain ⟨_, _, _, _, _, _, _, _, rfl, _⟩ := h; rfl) (fun f cdv A outer s H vs Q E hr h => ?_)
  obtain ⟨x, wt, kt, ht, ws, ks, hs, now, rfl, hK, k⟩ := h
  obtain ⟨⟨dx, hx⟩, hw, hk, hh, wok, ok, hl⟩ := id hK
  refine ⟨_, (pss_cons (ps_fld (pv 0) (pe_callTy call_tuple_of (by rfl) T.b_tuple (by decide +kernel) (pa_cons (pe_lc (own := [("grade", 2), ("keep", 3)]) rfl sc_expire.nd (TgI.pi_enumT (by rfl) T.b_enumerate (pa_cons (pe_fldC T.clK (T.naK _ (by decide)) (pv 0)) pa_nil)) (blkOk_by (own := [("grade", 2), ("keep", 3)]) (N := ["self", "now", "grade", "keep"]) (sc := defScope s_expire) (by decide +kernel)) (fun _ _ _ _ _ => (pgT (K := K) (n := 2) rfl rfl (pgs_cons (pg_name (i := 2) sc_expire.nd rfl (Or.inl rfl)) (pgs_cons (pg_name (i := 3) sc_expire.nd rfl (Or.inl rfl)) pgs_nil)))) (fun _ _ _ _ _ => pts_nil) (fun _ _ _ _ _ => (C8.pe_mt (m_moved_to T) hr (by decide) (pv 0) (pa_cons (pv 2) (pa_cons (pv 1) pa_nil))))) pa_nil)) rfl)
      (pss_one (ps_ret (pe_fldC T.clK (T.naK _ (by decide)) (pv 0))))), ?_⟩
  refine ⟨_, rfl, x, dx, _, _, rfl, hx, lkk_keeps _ _ _, kt, _, rfl, SqT.of hk, fun D nD => ?_⟩
  have hxl : (ks.map oI).length = ks.length := List.length_map _
  have hkl := ok.len
  have hw4 := wok.len
  let f1 := fun g => newH1 ws g (ks.getD g none) (hs.getD g none) now
  refine lc_it (TgI.walk_enumT (K := K) (a := kt) (xs := ks.map oI)) (LcP T.cF T.T H D fun i acc _ => acc = ((List.range i).map f1).map oI) (lc0 nD rfl) (fun i H' _ ⟨acc, _, _, k3, _⟩ => SqT.of (k3.tup hk)) ?_ ?_
  · rintro i y H3 H4 hi ⟨acc, ha, hl3, k3, rfl⟩ ⟨p, u, v, rfl, np, rfl, e1, e2⟩
    rw [hxl] at hi
    obtain ⟨kp, hkp⟩ : ∃ o, ks[i]? = some o := ⟨_, List.getElem?_eq_getElem hi⟩
    have e1 : u = .int (i : Nat) := (Option.some.inj e1).symm
    have e2 : v = oI kp := mapGet e2 hkp
    subst e1 e2
    have kn : Kp T.cF T.T [] H3 (upd H3 p (.tup [.int (i : Nat), oI kp])) := Kp.new np
    have hK4 := hK.kp (k3.trans kn) (by simp)
    obtain ⟨⟨dx4, hx4⟩, _⟩ := id hK4
    refine ⟨p, _, rfl, SqT.of upd_same, rfl, _, _, rfl, _, _, rfl, rfl, rfl, yes_ ⟨_, rfl, x, dx4, _, rfl, hx4, lkk_moved_to _ _ _, _, rfl, _, rfl, x, wt, kt, ht, ws, ks, hs, i, now, rfl, hK4, hi, ?_⟩⟩
    refine lcYes (Nat.lt_of_lt_of_le (by omega : i < 5) (by decide)) nD k3 ha hl3 kn ?_
    rw [List.range_succ, List.map_append, List.map_append]
    rfl
  · rintro H3 ⟨acc, ha, hl3, k3, rfl⟩
    rw [hxl] at ha
    refine ⟨D, _, rfl, .inl ⟨SqL.of ha, fun t nt => ?_⟩⟩
    have k4 : Kp T.cF T.T [] H (upd H3 t (.tup ((newHs ws ks hs now).map oI))) := k3.trans (Kp.new nt)
    refine ⟨_, rfl, x, T.cK, dx, _, rfl, k4.any hx, T.clK, T.naK _ (by decide), (by show 3 < 1000; decide), ?_⟩
    have k5 : Kp T.cF T.T [x] _ (upd (upd H3 t (.tup ((newHs ws ks hs now).map oI))) x (.ins T.cK dx (putF "horizons" (.ref t) (kFs wt kt ht)))) := Kp.set (k4.any hx) (by simp) T.FK
    have ef : putF ("horizons" : Str) (.ref t) (kFs wt kt ht) = kFs wt kt t := by kernel_rfl
    refine ⟨_, rfl, x, dx, _, _, rfl, upd_same, (by rw [ef]; exact lkk_horizons _ _ _), ?_⟩
    have k6 := (k4.mono (by simp)).trans k5
    refine k _ t k6 ⟨⟨dx, ?_⟩, hw.kp k6, k6.tup hk, k5.tup upd_same, wok, ok, by simp [newHs]⟩
    rw [upd_same, ef]
def sp_finest (T : Ev K mg base) : Sp := fun vs H Q _ => ∃ (x wt kt ht : Addr) (ws : List Int) (ks hs : List (Option Int)) (t : Int), vs = [.ref x, .int t] ∧ Ke T.cK H x wt kt ht ws ks hs ∧
  (∀ H', Kp T.cF T.T [] H H' → (∀ (g : Nat) h, hs[g]? = some h → ∃ y, h = some y ∧ t < y) → Q .non H') ∧
  (∀ H' (g : Nat) h v, Kp T.cF T.T [] H H' → (∀ (j : Nat) h, j < g → hs[j]? = some h → ∃ y, h = some y ∧ t < y) → hs[g]? = some h → (∀ y, h = some y → y ≤ t) → (0 :: ws)[g]? = some v → Q (.int v) H')
theorem sc_finest : FnScope ["self", "time", "horizon", "grade"] ["self", "time"] (defScope s_finest) := ⟨rfl, rfl, rfl, by decide +kernel, rfl, by decide +kernel, by decide +kernel⟩
theorem m_finest (T : Ev K mg base) : C8.Met P w K mg base 1 T.cK "finest" (sp_finest T) [] := by
  refine metD T.clK T.e_finest sc_finest (fun _ _ _ _ _ _ us hl => match us, hl with | [_, _], _ => rfl) (fun vs H Q E h => by obtain ⟨_, _, _, _, _, _, _, _, rfl, _⟩ := h; rfl) (fun f cdv A outer s H vs Q E hr h => ?_)
  obtain ⟨x, wt, kt, ht, ws, ks, hs, t, rfl, hK, q1, q2⟩ := h
  obtain ⟨⟨dx, hx⟩, hw, hk, hh, wok, ok, hl⟩ := id hK
  refine ⟨_, (pss_cons (ps_for PassesOwn.never rfl (TgZ.pi_zipS (by rfl) T.b_zip (pa_cons (pe_fldC T.clK (T.naK _ (by decide)) (pv 0)) (pa_cons (pe_op op_catA (pe_tup (pa_cons pe_int pa_nil)) (pe_fldC T.clK (T.naK _ (by decide)) (pv 0))) pa_nil))) (pg_tup rfl (pgs_cons (pg_name (i := 2) sc_finest.nd rfl (Or.inl rfl)) (pgs_cons (pg_name (i := 3) sc_finest.nd rfl (Or.inl rfl)) pgs_nil)))
        (pss_one (ps_if (PW.pt (pw_or (pt_cmpR op_isN (pv 2) pe_non (nomark _)) (pw_or1 (pt_cmpR op_ge (pv 1) (pv 2) (nomark _))))) (pss_one (ps_ret (pv 3)))
          pss_nil)))
      (pss_one (ps_ret pe_non))), ?_⟩
  have hkl := ok.len
  have hw4 := wok.len
  refine ⟨_, rfl, x, dx, _, _, rfl, hx, lkk_horizons _ _ _, ?_⟩
  refine ⟨(by show 1 ≤ sizeLine; decide), fun p np => ?_⟩
  have s1 : Kp T.cF T.T [] H (upd H p (.tup [.int 0])) := Kp.new np
  refine ⟨_, rfl, x, dx, _, _, rfl, s1.any hx, lkk_widths _ _ _, p, wt, _, _, rfl, rfl, SqT.of upd_same, (hw.kp s1).sq, ?_, (fun z => by cases z), (fun _ z => absurd (List.map_eq_nil_iff.mp z) wok.ne), fun _ _ q nq => ?_⟩
  · rw [List.length_map]
    exact Nat.le_trans (by simp; omega : _ ≤ 5) (by decide)
  have eq : ([V.int 0] ++ ws.map V.int) = (0 :: ws).map V.int := rfl
  rw [eq]
  have s2 : Kp T.cF T.T [] H (upd (upd H p (.tup [.int 0])) q (.tup ((0 :: ws).map V.int))) := s1.trans (Kp.new nq)
  refine ⟨ht, q, _, _, rfl, SqT.of (s2.tup hh), SqT.of upd_same, ?_⟩
  have hxl : (hs.map oI).length = hs.length := List.length_map _
  have hll : (hs.map oI).length = ((0 :: ws).map V.int).length := by
    rw [List.length_map, List.length_map, List.length_cons]
    omega
  refine for_it (TgZ.walk_zipS (K := K) (a := ht) (b := q) (xs := hs.map oI) (ys := (0 :: ws).map V.int) hll) (fun i σ H' => ∃ (o2 o3 : Option V), σ = [some (.ref x), some (.int t), o2, o3] ∧ Kp T.cF T.T [] (upd (upd H p (.tup [.int 0])) q (.tup ((0 :: ws).map V.int))) H' ∧ ∀ (j : Nat) h, j < i → hs[j]? = some h → ∃ y, h = some y ∧ t < y)
    ⟨none, none, rfl, Kp.refl _, fun j h hj => by omega⟩ (fun i σ H' _ ⟨_, _, _, k3, _⟩ => ⟨SqT.of (k3.tup (s2.tup hh)), SqT.of (k3.tup upd_same)⟩) ?_ ?_
  · rintro i v σ H1 H2 hi ⟨o2, o3, rfl, k3, hbef⟩ ⟨r, u, u2, rfl, nr, rfl, e1, e2⟩
    rw [hxl] at hi
    obtain ⟨ho, hho⟩ : ∃ o, hs[i]? = some o := ⟨_, List.getElem?_eq_getElem hi⟩
    obtain ⟨gv, hgv⟩ : ∃ o, (0 :: ws)[i]? = some o := ⟨_, List.getElem?_eq_getElem (by rw [List.length_cons]; omega)⟩
    have e1 : u = oI ho := mapGet e1 hho
    have e2 : u2 = .int gv := mapGet e2 hgv
    subst e1 e2
    have k4 := k3.trans (Kp.new (C := T.cF) (T := T.T) (M := []) (o := .tup [oI ho, .int gv]) nr)
    refine ⟨r, _, rfl, SqT.of upd_same, rfl, _, _, rfl, _, _, rfl, rfl, _, rfl, rfl, _, rfl, ?_⟩
    rw [oI_non]
    cases ho with
    | none => exact iteT (iteT ⟨_, rfl, q2 _ i none gv (s2.trans k4) hbef hho (fun y e => by cases e) hgv⟩)
    | some h0 =>
      refine iteF ⟨_, rfl, _, rfl, _, _, rfl, rfl, _, rfl, ?_⟩
      refine ite2 (fun e => ⟨_, rfl, q2 _ i (some h0) gv (s2.trans k4) hbef hho (fun y e' => by cases e'; exact of_decide_eq_true e) hgv⟩) (fun e => ⟨_, _, rfl, k4, fun j h hj hjh => ?_⟩)
      have e : ¬ h0 ≤ t := fun z => e (decide_eq_true z)
      by_cases hji : j = i
      · subst hji
        rw [hho] at hjh
        cases hjh
        exact ⟨h0, rfl, by omega⟩
      · exact hbef j h (by omega) hjh
  · rintro σ H1 ⟨o2, o3, rfl, k3, hbef⟩
    rw [hxl] at hbef
    refine q1 H1 (s2.trans k3) fun g h hg => hbef g h (List.getElem?_eq_some_iff.mp hg).1 hg
end
end Tg
/-! TgD12 -/
set_option Elab.async false
set_option linter.all false
set_option maxRecDepth 100000
set_option maxHeartbeats 4000000
/-! the law: told, due -/
namespace Tg
open PySem PySem.Spec PyProof.Rows L2 LamX NdefX TgM
mutual
def noL : PyData → Bool
  | .list _ => false
  | .tuple ds => noLs ds
  | _ => true
def noLs : List PyData → Bool
  | [] => true
  | d :: ds => noL d && noLs ds
end
theorem Kp.sqt {K : PySem.W.Frag} {C : Addr} {T : List (Addr × Str)} {M : List Addr} {H H' : Hp} (k : Kp C T M H H') {a : Addr} {xs : List V} (h : SqT K H a xs) : SqT K H' a xs := by
  rcases h with h | h
  · exact .inl (h.elim (fun q => .inl (k.tup q)) fun ⟨o, q⟩ => .inr ⟨o, k.st a _ q (.inr (.inl trivial))⟩)
  · exact .inr h
mutual
theorem dpTu {K : PySem.W.Frag} {C : Addr} {T : List (Addr × Str)} {M : List Addr} {H H' : Hp} (k : Kp C T M H H') : ∀ (d : PyData) (v : V), noL d = true → Dp K H v d → Dp K H' v d
  | .none, _, _, h => by cases h; exact .non
  | .bool b, _, _, h => by cases h; exact .bl b
  | .int i, _, _, h => by cases h; exact .int i
  | .str x, _, _, h => by cases h; exact .str x
  | .list ds, _, n, h => by cases n
  | .tuple ds, _, n, h => by
    cases h with
    | tup hs ha => exact .tup (k.sqt hs) (dpTus k ds _ n ha)
  | .dict _, _, _, h => by cases h
theorem dpTus {K : PySem.W.Frag} {C : Addr} {T : List (Addr × Str)} {M : List Addr} {H H' : Hp} (k : Kp C T M H H') : ∀ (ds : List PyData) (vs : List V), noLs ds = true → DpAll K H vs ds → DpAll K H' vs ds
  | [], _, _, h => by cases h; exact .nil
  | d :: ds, _, n, h => by
    have n' : (noL d && noLs ds) = true := n
    rw [Bool.and_eq_true] at n'
    cases h with
    | cons h1 h2 => exact .cons (dpTu k d _ n'.1 h1) (dpTus k ds _ n'.2 h2)
end
/-- a change, as data -/
def dC (c : Chg) : PyData := .tuple [.int c.1, .int c.2.1, dFd c.2.2.1, dFd c.2.2.2]
theorem noL_dFd (F : Fd) : noL (dFd F) = true := by
  obtain ⟨a, b, c, d, e, f, g, h, i⟩ := F
  cases d <;> cases e <;> cases f <;> cases g <;> rfl
theorem noL_dC (c : Chg) : noL (dC c) = true := by
  show (true && (true && (noL (dFd c.2.2.1) && (noL (dFd c.2.2.2) && true)))) = true
  rw [noL_dFd, noL_dFd]
  rfl
theorem noLs_map (l : List Chg) : noLs (l.map dC) = true := by
  induction l with
  | nil => rfl
  | cons a r ih =>
    show (noL (dC a) && noLs (r.map dC)) = true
    rw [noL_dC, ih]
    rfl
theorem sd_dC (c : Chg) : Sd 3 (dC c) := sdT fun d hd => by
  simp only [List.mem_cons, List.not_mem_nil, or_false] at hd
  rcases hd with rfl | rfl | rfl | rfl
  · exact (sdI _).le (by decide)
  · exact (sdI _).le (by decide)
  · exact sd_dFd _
  · exact sd_dFd _
theorem sd_chs (l : List Chg) : Sd 4 (.list (l.map dC)) := sdL fun d hd => by
  obtain ⟨c, _, rfl⟩ := List.mem_map.mp hd
  exact sd_dC c
theorem dpAll_snoc {K : PySem.W.Frag} {H : Hp} : ∀ {vs : List V} {ds : List PyData} {v : V} {d : PyData}, DpAll K H vs ds → Dp K H v d → DpAll K H (vs ++ [v]) (ds ++ [d])
  | _, _, _, _, .nil, h => .cons h .nil
  | _, _, _, _, .cons h1 h2, h => .cons h1 (dpAll_snoc h2 h)
def chg2 (o n : List Pt) (k : Int × Int) : Option Chg := if fo (pin o k.2 (k.2 + k.1)) = fo (pin n k.2 (k.2 + k.1)) then none else some (k.1, k.2, fo (pin o k.2 (k.2 + k.1)), fo (pin n k.2 (k.2 + k.1)))
section
variable {P : Program} {w : World} {K : PySem.W.Frag} {mg : Str → Option Value} {base : Heap}
def sp_told (T : Ev K mg base) : Sp := fun vs H Q _ => ∃ (ch : Addr) (rows : List (Addr × Addr × Addr × Chg)), vs = [.ref ch] ∧ ChAt T.cF H ch rows ∧ rows.length ≤ 10000 ∧ ∀ H' v, Kp T.cF T.T [] H H' → Dp K H' v (.list ((rows.map (·.2.2.2)).map dC)) → Q v H'
theorem sc_law_told : FnScope ["_law_rows", "_law_row"] ["_law_rows"] (defScope s_law_told) := ⟨rfl, rfl, rfl, by decide +kernel, rfl, by decide +kernel, by decide +kernel⟩
theorem c_law_told (T : Ev K mg base) : C8.Cal P w K mg base 2 "_law_told" (sp_told T) [] := by
  refine calD T.d_law_told sc_law_told (fun _ _ _ _ _ _ us hl => match us, hl with | [_], _ => rfl) (fun vs H Q E h => by obtain ⟨_, _, rfl, _⟩ := h; rfl) (fun f cdv A outer s H vs Q E hr h => ?_)
  obtain ⟨ch, rows, rfl, hC, hln, k⟩ := h
  refine ⟨_, (pss_one (ps_ret (pe_lc (own := [("_law_row", 1)]) rfl sc_law_told.nd (pi_list (pv 0)) (blkOk_by (own := [("_law_row", 1)]) (N := ["_law_rows", "_law_row"]) (sc := defScope s_law_told) (by decide +kernel)) (fun _ _ _ _ _ => (pg_name (i := 1) sc_law_told.nd rfl (Or.inl rfl))) (fun _ _ _ _ _ => pts_nil) (fun _ _ _ _ _ => (pe_tup (pa_cons (pe_ix (ixTK (K := K) rfl) (pv 1) pe_int (fun _ _ => rfl)) (pa_cons (pe_ix (ixTK (K := K) rfl) (pv 1) pe_int (fun _ _ => rfl)) (pa_cons (C8.pe_c (c_law_read T) hr (by decide) rfl (pa_cons (pe_ix (ixTK (K := K) rfl) (pv 1) pe_int (fun _ _ => rfl)) pa_nil)) (pa_cons (C8.pe_c (c_law_read T) hr (by decide) rfl (pa_cons (pe_ix (ixTK (K := K) rfl) (pv 1) pe_int (fun _ _ => rfl)) pa_nil)) pa_nil))))))))), ?_⟩
  refine ⟨_, rfl, ch, rfl, ⟨_, SqL.of hC.ls⟩, fun D nD => ?_⟩
  have hxl : (rows.map fun x => V.ref x.1).length = rows.length := List.length_map _
  refine lc_it (walk_list (K := K) (a := ch) (xs := rows.map fun x => V.ref x.1)) (LcP T.cF T.T H D fun i acc H' => DpAll K H' acc (((rows.take i).map (·.2.2.2)).map dC)) (lc0 nD .nil) (fun i H' _ ⟨acc, _, _, k2, _⟩ => k2.lst (SqL.of hC.ls)) ?_ ?_
  · rintro i x H1 H2 hi ⟨acc, ha, hl, k2, hd⟩ ⟨rfl, ex⟩
    rw [hxl] at hi
    obtain ⟨y, hy⟩ : ∃ x, rows[i]? = some x := ⟨_, List.getElem?_eq_getElem hi⟩
    have ex : x = .ref y.1 := mapGet (f := fun x : Addr × Addr × Addr × Chg => V.ref x.1) (z := y) ex hy
    subst ex
    obtain ⟨h1, h2, h3⟩ := hC.row y (List.mem_of_getElem? hy)
    refine ⟨rfl, yes_ ?_⟩
    have t2 := k2.tup h1
    refine ⟨_, rfl, y.1, _, 0, .int y.2.2.2.1, rfl, rfl, SqT.of t2, rfl, _, rfl, y.1, _, 1, .int y.2.2.2.2.1, rfl, rfl, SqT.of t2, rfl, _, rfl, y.1, _, 2, .ref y.2.1, rfl, rfl, SqT.of t2, rfl, y.2.1, _, rfl, h2.kp k2, fun H3 v3 k3 d3 => ?_⟩
    have t3 := k3.tup t2
    refine ⟨_, rfl, y.1, _, 3, .ref y.2.2.1, rfl, rfl, SqT.of t3, rfl, y.2.2.1, _, rfl, (h3.kp k2).kp k3, fun H4 v4 k4 d4 => ⟨(by show 4 ≤ sizeLine; decide), fun p np => ?_⟩⟩
    have k5 : Kp T.cF T.T [] H4 (upd H4 p (.tup [.int y.2.2.2.1, .int y.2.2.2.2.1, v3, v4])) := Kp.new np
    have kD : Kp T.cF T.T [D] _ (upd (upd H4 p (.tup [.int y.2.2.2.1, .int y.2.2.2.2.1, v3, v4])) D (.lst (acc ++ [.ref p]))) := Kp.set (((k3.trans k4).trans k5).any ha) (by simp) trivial
    refine lcYes (Nat.lt_of_lt_of_le hi (Nat.le_trans hln (by decide))) nD k2 ha hl ((k3.trans k4).trans k5) ?_
    rw [take_snoc hy, List.map_append, List.map_append]
    refine dpAll_snoc (dpTus (((k3.trans k4).trans k5).one.trans kD) _ _ (noLs_map _) hd) ?_
    refine .tup (kD.sqt (SqT.of upd_same)) (.cons (.int _) (.cons (.int _) (.cons ?_ (.cons ?_ .nil))))
    · exact dpTu (((k4.trans k5).one).trans kD) _ _ (noL_dFd _) d3
    · exact dpTu ((k5.one).trans kD) _ _ (noL_dFd _) d4
  · rintro H1 ⟨acc, ha, hl, k2, hd⟩
    rw [hxl, List.take_length] at hd
    exact k H1 _ k2 (.lst (SqL.of ha) hd)
def sp_due (T : Ev K mg base) : Sp := fun vs H Q _ => ∃ (wt ot nt tl : Addr) (ws ts : List Int) (o n : List Pt), vs = [.ref wt, .ref ot, .ref nt, .ref tl] ∧ WT H wt (ws.map V.int) ∧ WsOk ws ∧ TabAt H ot o ∧ TabAt H nt n ∧ Bd o ∧ Bd n ∧ SqL K H tl (ts.map V.int) ∧ ts.length ≤ 1000 ∧
  ∀ H' v, Kp T.cF T.T [] H H' → Dp K H' v (.list (((keysOf ws ts).filterMap (chg2 o n)).map dC)) → Q v H'
theorem sc_law_due : FnScope ["_law_widths_here", "_law_old", "_law_new", "_law_times", "_law_found", "_law_width", "_law_start", "_law_one", "_law_other", "_law_time_here"] ["_law_widths_here", "_law_old", "_law_new", "_law_times"] (defScope s_law_due) := ⟨rfl, rfl, rfl, by decide +kernel, rfl, by decide +kernel, by decide +kernel⟩
theorem c_law_due (T : Ev K mg base) : C8.Cal P w K mg base 3 "_law_due" (sp_due T) [] := by
  refine calD T.d_law_due sc_law_due (fun _ _ _ _ _ _ us hl => match us, hl with | [_, _, _, _], _ => rfl) (fun vs H Q E h => by obtain ⟨_, _, _, _, _, _, _, _, rfl, _⟩ := h; rfl) (fun f cdv A outer s H vs Q E hr h => ?_)
  obtain ⟨wt, ot, nt, tl, ws, ts, o, n, rfl, hw, wok, hO, hN, bO, bN, htl, htsl, k⟩ := h
  refine ⟨_, (pss_cons (ps_set (i := 4) sc_law_due.nd rfl (Or.inl rfl) (pe_lst pa_nil))
      (pss_cons (ps_for PassesOwn.never rfl (pi_tup (pv 0)) (pg_name (i := 5) sc_law_due.nd rfl (Or.inr rfl))
        (pss_one (ps_for PassesOwn.never rfl (pi_list (pe_sortedSet rfl (by rfl) T.b_sorted (by rfl) T.b_set (pe_lc (own := [("_law_time_here", 9)]) rfl sc_law_due.nd (pi_list (pv 3)) (blkOk_by (own := [("_law_time_here", 9)]) (N := ["_law_widths_here", "_law_old", "_law_new", "_law_times", "_law_found", "_law_width", "_law_start", "_law_one", "_law_other", "_law_time_here"]) (sc := defScope s_law_due) (by decide +kernel)) (fun _ _ _ _ _ => (pg_name (i := 9) sc_law_due.nd rfl (Or.inl rfl))) (fun _ _ _ _ _ => pts_nil) (fun _ _ _ _ _ => (pe_op op_mul (pe_op op_fdivW (pv 9) (pv 5)) (pv 5)))))) (pg_name (i := 6) sc_law_due.nd rfl (Or.inl rfl))
          (pss_cons (ps_set (i := 7) sc_law_due.nd rfl (Or.inl rfl) (C8.pe_c (c_law_cell T) hr (by decide) rfl (pa_cons (pv 1) (pa_cons (pv 5) (pa_cons (pv 6) pa_nil)))))
          (pss_cons (ps_set (i := 8) sc_law_due.nd rfl (Or.inl rfl) (C8.pe_c (c_law_cell T) hr (by decide) rfl (pa_cons (pv 2) (pa_cons (pv 5) (pa_cons (pv 6) pa_nil)))))
          (pss_one (ps_if (pt_cmpR (op_neD hr.units) (pv 7) (pv 8) (nomark _)) (pss_one (ps_expr (pe_bm PySem.F.plainAttrs_list PySem.F.slot_list_append PySem.F.type_list_append mt_append (pv 4) (pa_cons (pe_tup (pa_cons (pv 5) (pa_cons (pv 6) (pa_cons (pv 7) (pa_cons (pv 8) pa_nil))))) pa_nil))))
            pss_nil)))))))
      (pss_one (ps_ret (pv 4))))), ?_⟩
  refine ⟨Nat.zero_le _, fun fa nfa => ?_⟩
  have k1 : Kp T.cF T.T [] H (upd H fa (.lst [])) := Kp.new nfa
  refine ⟨_, rfl, wt, rfl, ⟨_, (hw.kp k1).sq⟩, ?_⟩
  have hxl : (ws.map V.int).length = ws.length := List.length_map _
  have hwl := wok.len
  refine for_it (walk_tup (K := K) (a := wt) (xs := ws.map V.int)) (fun i σ H' => ∃ (o5 o6 o7 o8 o9 : Option V) (acc : List V), σ = [some (.ref wt), some (.ref ot), some (.ref nt), some (.ref tl), some (.ref fa), o5, o6, o7, o8, o9] ∧ Kp T.cF T.T [] H H' ∧ H' fa = some (.lst acc) ∧
      DpAll K H' acc (((keysOf (ws.take i) ts).filterMap (chg2 o n)).map dC) ∧ acc.length ≤ i * 1000)
    ⟨none, none, none, none, none, [], rfl, k1, upd_same, .nil, by simp⟩ (fun i σ H' _ ⟨_, _, _, _, _, _, _, k2, _⟩ => (hw.kp k2).sq) ?_ ?_
  · rintro i x σ H1 H2 hi ⟨p5, p6, p7, p8, p9, acc0, rfl, k2, hfa, hda, hal⟩ ⟨rfl, ex⟩
    rw [hxl] at hi
    obtain ⟨wd, hwd⟩ : ∃ o, ws[i]? = some o := ⟨_, List.getElem?_eq_getElem hi⟩
    have ex : x = .int wd := mapGet ex hwd
    subst ex
    have hb := wok.bd wd (List.mem_of_getElem? hwd)
    refine ⟨_, rfl, tl, rfl, ⟨_, k2.lst htl⟩, fun D nD => ?_⟩
    have htl2 : (ts.map V.int).length = ts.length := List.length_map _
    refine lc_it (walk_list (K := K) (a := tl) (xs := ts.map V.int)) (LcP T.cF T.T H2 D fun j acc _ => acc = ((ts.take j).map fun t => cel t wd).map V.int) (lc0 nD rfl) (fun j H' _ ⟨acc, _, _, k3, _⟩ => k3.lst (k2.lst htl)) ?_ ?_
    · rintro j x H3 H4 hj ⟨acc, ha, hl, k3, rfl⟩ ⟨rfl, ex⟩
      rw [htl2] at hj
      obtain ⟨t, ht⟩ : ∃ o, ts[j]? = some o := ⟨_, List.getElem?_eq_getElem hj⟩
      have ex : x = .int t := mapGet ex ht
      subst ex
      refine ⟨rfl, yes_ ⟨_, rfl, _, rfl, _, _, rfl, rfl, dv hb.1 (by omega), _, rfl, _, _, rfl, rfl, mlr (j := wd) (by omega) (by omega), lcYes (Nat.lt_of_lt_of_le hj (Nat.le_trans htsl (by decide))) nD k3 ha hl (Kp.refl _) ?_⟩⟩
      rw [take_snoc ht, List.map_append, List.map_append]
      rfl
    · rintro H3 ⟨acc, ha, hl, k3, rfl⟩
      rw [htl2, List.take_length] at ha
      refine ⟨D, ts.map fun t => cel t wd, rfl, SqL.of ha, by rw [List.length_map]; exact htsl, fun ys p hys hmem np => ⟨p, rfl, ⟨_, SqL.of upd_same⟩, ?_⟩⟩
      have ey := celsOf_eq (ts := ts) (w := wd) hys hmem
      have hyl : ys.length ≤ 1000 := by
        rw [ey]
        exact Nat.le_trans (celsOf_len _ _) htsl
      have hyx : (ys.map V.int).length = ys.length := List.length_map _
      have k4 : Kp T.cF T.T [] H2 (upd H3 p (.lst (ys.map V.int))) := k3.trans (Kp.new np)
      have pfa : p ≠ fa := (ne_of_none (k3.any hfa) np).symm
      refine for_it (walk_list (K := K) (a := p) (xs := ys.map V.int)) (fun j σ H' => ∃ (o6 o7 o8 o9 : Option V) (acc : List V), σ = [some (.ref wt), some (.ref ot), some (.ref nt), some (.ref tl), some (.ref fa), some (.int wd), o6, o7, o8, o9] ∧ Kp T.cF T.T [] H H' ∧ SqL K H' p (ys.map V.int) ∧ H' fa = some (.lst acc) ∧
          DpAll K H' acc (((keysOf (ws.take i) ts ++ (ys.take j).map (fun s => (wd, s))).filterMap (chg2 o n)).map dC) ∧ acc.length ≤ i * 1000 + j)
        ⟨_, _, _, _, acc0, rfl, k2.trans k4, SqL.of upd_same, k4.any hfa, by simpa using dpTus k4 _ _ (noLs_map _) hda, by simpa using hal⟩ (fun j σ H' _ ⟨_, _, _, _, _, _, _, h, _⟩ => h) ?_ ?_
      · rintro j x σ H5 H6 hj ⟨q6, q7, q8, q9, acc, rfl, k5, hp5, hfa5, hda5, hal5⟩ ⟨rfl, ex⟩
        rw [hyx] at hj
        obtain ⟨sx, hs⟩ : ∃ o, ys[j]? = some o := ⟨_, List.getElem?_eq_getElem hj⟩
        have ex : x = .int sx := mapGet ex hs
        subst ex
        refine ⟨_, rfl, _, rfl, _, rfl, ot, o, wd, sx, rfl, hO.kp k5 (by simp), bO, fun H7 v7 k7 d7 => ?_⟩
        refine ⟨_, rfl, _, rfl, _, rfl, nt, n, wd, sx, rfl, hN.kp (k5.trans k7) (by simp), bN, fun H8 v8 k8 d8 => ?_⟩
        have d78 := k8.dpv d7
        have k68 := k7.trans k8
        refine ⟨_, rfl, _, rfl, _, _, d78, d8, (sd_dFd _).sh (by decide), (sd_dFd _).sh (by decide), _, rfl, ?_⟩
        rw [eqv_dFd]
        have hk : keysOf (ws.take i) ts ++ (ys.take (j + 1)).map (fun s => (wd, s)) = (keysOf (ws.take i) ts ++ (ys.take j).map (fun s => (wd, s))) ++ [(wd, sx)] := by
          rw [take_snoc hs, List.map_append, List.append_assoc]
          rfl
        have hd8 := dpTus k68 _ _ (noLs_map _) hda5
        by_cases e : fo (pin o sx (sx + wd)) = fo (pin n sx (sx + wd))
        · rw [decide_eq_true e]
          refine iteF ⟨_, _, _, _, acc, rfl, k5.trans k68, k68.lst hp5, k68.any hfa5, ?_, by omega⟩
          rw [hk, List.filterMap_append]
          have : chg2 o n (wd, sx) = none := if_pos e
          simpa [this] using hd8
        · rw [decide_eq_false e]
          have hfa8 := k68.any hfa5
          refine iteT ⟨_, rfl, .inl ⟨rfl, _, SqL.of hfa8⟩, _, rfl, _, rfl, _, rfl, _, rfl, (by show 4 ≤ sizeLine; decide), fun r nr => ⟨fa, _, _, rfl, rfl, (Same.new nr) _ _ hfa8, Nat.lt_of_le_of_lt (by omega : acc.length ≤ 10000) (by decide), ?_⟩⟩
          have k9 : Kp T.cF T.T [] H8 (upd H8 r (.tup [.int wd, .int sx, v7, v8])) := Kp.new nr
          have kD : Kp T.cF T.T [fa] _ (upd (upd H8 r (.tup [.int wd, .int sx, v7, v8])) fa (.lst (acc ++ [.ref r]))) := Kp.set (k9.any hfa8) (by simp) trivial
          refine ⟨_, _, _, _, acc ++ [.ref r], rfl, Kp.setNew (H := H) nfa ((k5.trans k68).trans k9) (k9.any hfa8) trivial, kD.seqL (by simpa using pfa) ((k68.trans k9).lst hp5), upd_same, ?_, by rw [List.length_append, List.length_singleton]; omega⟩
          rw [hk, List.filterMap_append, List.map_append]
          have : chg2 o n (wd, sx) = some (wd, sx, fo (pin o sx (sx + wd)), fo (pin n sx (sx + wd))) := if_neg e
          have e2 : ([(wd, sx)].filterMap (chg2 o n)).map dC = [dC (wd, sx, fo (pin o sx (sx + wd)), fo (pin n sx (sx + wd)))] := by simp [this]
          rw [e2]
          have kk := (k9.one (M := [fa])).trans kD
          refine dpAll_snoc (dpTus kk _ _ (noLs_map _) hd8) (.tup (kD.sqt (SqT.of upd_same)) (.cons (.int _) (.cons (.int _) (.cons (dpTu kk _ _ (noL_dFd _) d78) (.cons (dpTu kk _ _ (noL_dFd _) d8) .nil)))))
      · rintro σ H5 ⟨q6, q7, q8, q9, acc, rfl, k5, hp5, hfa5, hda5, hal5⟩
        rw [hyx] at hda5 hal5
        rw [List.take_length] at hda5
        refine ⟨_, _, _, _, _, acc, rfl, k5, hfa5, ?_, by omega⟩
        have : keysOf (ws.take (i + 1)) ts = keysOf (ws.take i) ts ++ ys.map (fun s => (wd, s)) := by
          rw [take_snoc hwd, ey]
          unfold keysOf
          rw [List.flatMap_append]
          simp
        rw [this]
        exact hda5
  · rintro σ H1 ⟨p5, p6, p7, p8, p9, acc, rfl, k2, hfa, hda, hal⟩
    rw [hxl, List.take_length] at hda
    exact ⟨_, rfl, k H1 _ k2 (.lst (SqL.of hfa) hda)⟩
end
end Tg
/-! TgD13 -/
set_option Elab.async false
set_option linter.all false
set_option maxRecDepth 100000
set_option maxHeartbeats 4000000
/-! the law: keeps -/
namespace Tg
open PySem PySem.Spec PyProof.Rows L2 LamX NdefX TgM
theorem cut_take (xs : List V) {e : Nat} (h : e ≤ xs.length) : cutV xs none (some (e : Int)) = xs.take e := by
  unfold cutV
  rw [HT.sIx_nat, HT.sIx_none, Nat.min_eq_left h]
  simp
theorem Kp.setNewM {C : Addr} {T : List (Addr × Str)} {M : List Addr} {H H4 : Hp} {D : Addr} {o u : HO} (hD : H D = none) (k1 : Kp C T M H H4) (h : H4 D = some u) (hw : wr C u) : Kp C T M H (upd H4 D o) := Kp.drop hD k1 (Kp.set h (by simp) hw)
section
variable {P : Program} {w : World} {K : PySem.W.Frag} {mg : Str → Option Value} {base : Heap}
def sp_keeps (T : Ev K mg base) : Sp := fun vs H Q _ => ∃ (a wt : Addr) (m : Int) (ws : List Int), vs = [.ref a, .ref wt] ∧ PurseAt H a m ∧ m ≤ 549755813000 ∧ WT H wt (ws.map V.int) ∧ WsOk ws ∧
  ∀ H' kt ks, Kp T.cF T.T [a] H H' → PurseAt H' a (m + 100) → KsOk ws.length ks → H' kt = some (.tup (ks.map oI)) → Q (.ref kt) H'
theorem sc_law_keeps : FnScope ["_law_purse_here", "_law_widths_here", "_law_many", "_law_keep", "_law_found", "_law_k", "_law_ends"] ["_law_purse_here", "_law_widths_here"] (defScope s_law_keeps) := ⟨rfl, rfl, rfl, by decide +kernel, rfl, by decide +kernel, by decide +kernel⟩
theorem c_law_keeps (T : Ev K mg base) : C8.Cal P w K mg base 3 "_law_keeps" (sp_keeps T) [] := by
  refine calD T.d_law_keeps sc_law_keeps (fun _ _ _ _ _ _ us hl => match us, hl with | [_, _], _ => rfl) (fun vs H Q E h => by obtain ⟨_, _, _, _, rfl, _⟩ := h; rfl) (fun f cdv A outer s H vs Q E hr h => ?_)
  obtain ⟨a, wt, m, ws, rfl, hp, hm, ht, hw, k⟩ := h
  refine ⟨_, (pss_cons (ps_set (i := 2) sc_law_keeps.nd rfl (Or.inl rfl) (pe_op op_add (pe_callB call_len_seq (by rfl) T.b_len (by decide +kernel) (pa_cons (pv 1) pa_nil)) pe_int))
      (pss_cons (ps_set (i := 3) sc_law_keeps.nd rfl (Or.inl rfl) (pe_ix ix_list (pe_lst (pa_cons pe_int (pa_cons (pe_op op_mul pe_int (pe_ix ix_tup (pv 1) pe_int (fun _ _ => rfl))) (pa_cons (pe_ix ix_tup (pv 1) (pe_un un_neg pe_int) (fun _ _ => rfl)) (pa_cons (C8.pe_c (c_law_draw T) hr (by decide) rfl (pa_cons (pv 0) (pa_cons (pe_op op_mul pe_int (pe_ix ix_tup (pv 1) (pe_un un_neg pe_int) (fun _ _ => rfl))) pa_nil))) pa_nil))))) (C8.pe_c (c_law_draw T) hr (by decide) rfl (pa_cons (pv 0) (pa_cons pe_int pa_nil))) (fun _ _ => rfl)))
      (pss_cons (ps_set (i := 4) sc_law_keeps.nd rfl (Or.inl rfl) (pe_lst pa_nil))
      (pss_cons (ps_for PassesOwn.never rfl (pi_range1 (by rfl) T.b_range (pa_cons (pv 2) pa_nil)) (pg_name (i := 5) sc_law_keeps.nd rfl (Or.inl rfl))
        (pss_cons (ps_expr (pe_bm PySem.F.plainAttrs_list PySem.F.slot_list_append PySem.F.type_list_append mt_append (pv 4) (pa_cons (pv 3) pa_nil)))
        (pss_one (ps_set (i := 3) sc_law_keeps.nd rfl (Or.inl rfl) (pe_op op_add (pv 3) (pe_ix ix_list (pe_lst (pa_cons pe_int (pa_cons (pe_ix ix_tup (pv 1) pe_int (fun _ _ => rfl)) (pa_cons (C8.pe_c (c_law_draw T) hr (by decide) rfl (pa_cons (pv 0) (pa_cons pe_int pa_nil))) (pa_cons (pe_ix ix_tup (pv 1) (pe_un un_neg pe_int) (fun _ _ => rfl)) pa_nil))))) (C8.pe_c (c_law_draw T) hr (by decide) rfl (pa_cons (pv 0) (pa_cons pe_int pa_nil))) (fun _ _ => rfl)))))))
      (pss_cons (ps_set (i := 6) sc_law_keeps.nd rfl (Or.inl rfl) (pe_ix ix_list (pe_lst (pa_cons (pv 2) (pa_cons (pv 2) (pa_cons (pe_op op_sub (pv 2) pe_int) (pa_cons (C8.pe_c (c_law_draw T) hr (by decide) rfl (pa_cons (pv 0) (pa_cons (pe_op op_add (pv 2) pe_int) pa_nil))) pa_nil))))) (C8.pe_c (c_law_draw T) hr (by decide) rfl (pa_cons (pv 0) (pa_cons pe_int pa_nil))) (fun _ _ => rfl)))
      (pss_one (ps_ret (pe_callTy call_tuple_of (by rfl) T.b_tuple (by decide +kernel) (pa_cons (pe_op op_cat (pe_slice sl_list (pv 4) po_none (po_some (pv 6))) (pe_lc (own := [("_law_k", 5)]) rfl sc_law_keeps.nd (pi_range1 (by rfl) T.b_range (pa_cons (pe_op op_sub (pv 2) (pv 6)) pa_nil)) (blkOk_by (own := [("_law_k", 5)]) (N := ["_law_purse_here", "_law_widths_here", "_law_many", "_law_keep", "_law_found", "_law_k", "_law_ends"]) (sc := defScope s_law_keeps) (by decide +kernel)) (fun _ _ _ _ _ => (pg_name (i := 5) sc_law_keeps.nd rfl (Or.inl rfl))) (fun _ _ _ _ _ => pts_nil) (fun _ _ _ _ _ => pe_non))) pa_nil))))))))), ?_⟩
  obtain ⟨w0, wr0, hws⟩ : ∃ x r, ws = x :: r := by
    cases ws with
    | nil => exact absurd rfl hw.ne
    | cons x r => exact ⟨x, r, rfl⟩
  obtain ⟨wn, hwn⟩ : ∃ x, ws.getLast? = some x := ⟨_, List.getLast?_eq_some_getLast hw.ne⟩
  have hw0 : 0 < w0 ∧ w0 ≤ 1000000000000 := hw.bd w0 (by rw [hws]; simp)
  have hwl : 0 < wn ∧ wn ≤ 1000000000000 := hw.bd wn (List.mem_of_getLast? hwn)
  have at0 : atI (ws.map V.int) 0 = some (.int w0) := atI_nat (j := 0) (by rw [hws]; rfl)
  have atn : atI (ws.map V.int) (-1) = some (.int wn) := atLast (by rw [List.getLast?_map, hwn]; rfl)
  have hl4 := hw.len
  have hxl : (ws.map V.int).length = ws.length := List.length_map _
  refine ⟨_, rfl, wt, _, rfl, .inr ht.sq, _, _, rfl, rfl, ?_⟩
  rw [hxl]
  refine ⟨_, rfl, wt, _, 0, .int w0, rfl, rfl, ht.sq, at0, _, _, rfl, rfl, mll (by decide) (by decide), _, rfl, _, rfl, wt, _, -1, .int wn, rfl, rfl, ht.sq, atn, _, rfl, _, rfl, _, rfl, wt, _, -1, .int wn, rfl, rfl, ht.sq, atn, _, _, rfl, rfl, mll (by decide) (by decide), a, _, m, rfl, hp, by omega, by omega, by omega, fun d1 H1 c0 c1 b1 hp1 => ?_⟩
  have k1 := hp.kp (C := T.cF) (T := T.T) b1
  refine ⟨(by show 4 ≤ sizeLine; decide), fun q nq => ?_⟩
  have kq : Kp T.cF T.T [] H1 (upd H1 q (.lst [.int 0, .int (3 * w0), .int wn, .int d1])) := Kp.new nq
  have hpq := hp1.st kq (by simp)
  refine ⟨_, rfl, a, 4, m + 3, rfl, hpq, by omega, by decide, by decide, fun d2 H2 e0 e1 b2 hp2 => ?_⟩
  have k2 := hpq.kp (C := T.cF) (T := T.T) b2
  have hq2 : H2 q = some (.lst [.int 0, .int (3 * w0), .int wn, .int d1]) := by
    rw [b2 q (hp1.ne nq)]
    exact upd_same
  obtain ⟨v, ev, mv⟩ := pick (xs := [V.int 0, .int (3 * w0), .int wn, .int d1]) e0 (by simpa using e1)
  obtain ⟨kv0, rfl, h1, h2⟩ : ∃ wi, v = .int wi ∧ 0 ≤ wi ∧ wi < 5000000000000 := by
    simp only [List.mem_cons, List.not_mem_nil, or_false] at mv
    rcases mv with rfl | rfl | rfl | rfl <;> exact ⟨_, rfl, by omega, by omega⟩
  refine ⟨q, _, d2, _, rfl, rfl, SqL.of hq2, ev, ?_⟩
  have kA : Kp T.cF T.T [a] H H2 := k1.trans ((kq.one).trans k2)
  refine ⟨Nat.zero_le _, fun fa nfa => ?_⟩
  have kf : Kp T.cF T.T [] H2 (upd H2 fa (.lst [])) := Kp.new nfa
  have afa : fa ≠ a := hp2.ne nfa
  have htA := ht.kp kA
  refine ⟨_, rfl, _, rfl, by omega, by omega, ?_⟩
  have hmany : ((ws.length : Int) + 1).toNat = ws.length + 1 := by omega
  refine for_range (lo := 0) (n := ((ws.length : Int) + 1).toNat) (fun i σ H' => ∃ (kv : Int) (o5 : Option V) (fl : List Int), σ = [some (.ref a), some (.ref wt), some (.int ((ws.length : Int) + 1)), some (.int kv), some (.ref fa), o5, none] ∧ Kp T.cF T.T [a] H2 H' ∧ PurseAt H' a (m + 6 + 6 * i) ∧ H' fa = some (.lst (fl.map V.int)) ∧
      fl.length = i ∧ fl.Pairwise (· ≤ ·) ∧ (∀ x ∈ fl, 0 ≤ x ∧ x ≤ kv) ∧ 0 ≤ kv)
    ⟨kv0, none, [], rfl, kf.one, (hp2.st kf (by simp)).mono (by omega), upd_same, rfl, .nil, by simp, h1⟩ ?_ ?_
  · rintro i σ H3 hi ⟨kv, o5, fl, rfl, k3, hp3, hfa3, hfl, hpw, hbd, hk0⟩
    have hi5 : i < 5 := by omega
    refine ⟨_, rfl, .inl ⟨rfl, _, SqL.of hfa3⟩, _, rfl, fa, _, _, rfl, rfl, hfa3, by rw [List.length_map, hfl]; exact Nat.lt_of_lt_of_le hi5 (by decide), ?_⟩
    have kS : Kp T.cF T.T [a] H2 (upd H3 fa (.lst (fl.map V.int ++ [.int kv]))) := Kp.setNewM nfa k3 hfa3 trivial
    have kSe : Kp T.cF T.T [fa] H3 (upd H3 fa (.lst (fl.map V.int ++ [.int kv]))) := Kp.set hfa3 (by simp) trivial
    have hp4 := hp3.st kSe (by simpa using afa.symm)
    have ht4 := htA.kp kS
    refine ⟨_, rfl, _, rfl, wt, _, 0, .int w0, rfl, rfl, ht4.sq, at0, _, rfl, a, 100, _, rfl, hp4, by omega, by decide, by decide, fun d5 H5 f0 f1 b5 hp5 => ?_⟩
    have k5 := hp4.kp (C := T.cF) (T := T.T) b5
    have ht5 := ht4.kp k5
    refine ⟨_, rfl, _, rfl, wt, _, -1, .int wn, rfl, rfl, ht5.sq, atn, (by show 4 ≤ sizeLine; decide), fun q2 nq2 => ?_⟩
    have kq2 : Kp T.cF T.T [] H5 (upd H5 q2 (.lst [.int 0, .int w0, .int d5, .int wn])) := Kp.new nq2
    have hpq2 := hp5.st kq2 (by simp)
    refine ⟨_, rfl, a, 4, _, rfl, hpq2, by omega, by decide, by decide, fun d6 H6 g0 g1 b6 hp6 => ?_⟩
    have k6 := hpq2.kp (C := T.cF) (T := T.T) b6
    have hq6 : H6 q2 = some (.lst [.int 0, .int w0, .int d5, .int wn]) := by
      rw [b6 q2 (hp5.ne nq2)]
      exact upd_same
    obtain ⟨v, ev, mv⟩ := pick (xs := [V.int 0, .int w0, .int d5, .int wn]) g0 (by simpa using g1)
    obtain ⟨inc, rfl, h3⟩ : ∃ wi, v = .int wi ∧ 0 ≤ wi := by
      simp only [List.mem_cons, List.not_mem_nil, or_false] at mv
      rcases mv with rfl | rfl | rfl | rfl <;> exact ⟨_, rfl, by omega⟩
    refine ⟨q2, _, d6, _, rfl, rfl, SqL.of hq6, ev, _, _, rfl, rfl, ?_⟩
    have hfa6 : H6 fa = some (.lst ((fl ++ [kv]).map V.int)) := by
      rw [b6 fa afa, upd_ne (ne_of_none (by rw [b5 fa afa]; exact upd_same) nq2), b5 fa afa, upd_same, List.map_append]
      rfl
    refine ⟨kv + inc, _, fl ++ [kv], rfl, kS.trans (k5.trans ((kq2.one).trans k6)), hp6.mono (by omega), hfa6, by rw [List.length_append, hfl]; rfl, ?_, ?_, by omega⟩
    · rw [List.pairwise_append]
      refine ⟨hpw, by simp, fun x hx y hy => ?_⟩
      rw [List.mem_singleton.mp hy]
      exact (hbd x hx).2
    · intro x hx
      rcases List.mem_append.mp hx with hx | hx
      · have := hbd x hx
        omega
      · rw [List.mem_singleton.mp hx]
        omega
  · rintro σ H3 ⟨kv, o5, fl, rfl, k3, hp3, hfa3, hfl, hpw, hbd, hk0⟩
    rw [hmany] at hfl hp3
    refine ⟨_, rfl, _, rfl, _, rfl, _, _, rfl, rfl, _, rfl, _, rfl, _, _, rfl, rfl, a, _, _, rfl, hp3, by omega, by omega, by omega, fun d5 H5 f0 f1 b5 hp5 => ?_⟩
    have k5 := hp3.kp (C := T.cF) (T := T.T) b5
    refine ⟨(by show 4 ≤ sizeLine; decide), fun q2 nq2 => ?_⟩
    have kq2 : Kp T.cF T.T [] H5 (upd H5 q2 (.lst [.int ((ws.length : Int) + 1), .int ((ws.length : Int) + 1), .int ((ws.length : Int) + 1 - 1), .int d5])) := Kp.new nq2
    have hpq2 := hp5.st kq2 (by simp)
    refine ⟨_, rfl, a, 4, _, rfl, hpq2, by omega, by decide, by decide, fun d6 H6 g0 g1 b6 hp6 => ?_⟩
    have k6 := hpq2.kp (C := T.cF) (T := T.T) b6
    have hq6 : H6 q2 = some (.lst [.int ((ws.length : Int) + 1), .int ((ws.length : Int) + 1), .int ((ws.length : Int) + 1 - 1), .int d5]) := by
      rw [b6 q2 (hp5.ne nq2)]
      exact upd_same
    obtain ⟨v, ev, mv⟩ := pick (xs := [V.int ((ws.length : Int) + 1), .int ((ws.length : Int) + 1), .int ((ws.length : Int) + 1 - 1), .int d5]) g0 (by simpa using g1)
    obtain ⟨en, rfl, h3, h4⟩ : ∃ wi, v = .int wi ∧ 0 ≤ wi ∧ wi ≤ (ws.length : Int) + 1 := by
      simp only [List.mem_cons, List.not_mem_nil, or_false] at mv
      rcases mv with rfl | rfl | rfl | rfl <;> exact ⟨_, rfl, by omega, by omega⟩
    refine ⟨q2, _, d6, _, rfl, rfl, SqL.of hq6, ev, ?_⟩
    have hfa6 : H6 fa = some (.lst (fl.map V.int)) := by
      rw [b6 fa afa, upd_ne (ne_of_none (by rw [b5 fa afa]; exact hfa3) nq2), b5 fa afa]
      exact hfa3
    have kB : Kp T.cF T.T [a] H H6 := kA.trans (k3.trans (k5.trans ((kq2.one).trans k6)))
    obtain ⟨en, rfl⟩ : ∃ j : Nat, en = (j : Int) := ⟨en.toNat, by omega⟩
    have hen : en ≤ fl.length := by omega
    refine ⟨_, rfl, _, rfl, _, rfl, fa, _, rfl, SqL.of hfa6, fun b nb => ?_⟩
    rw [cut_take (fl.map V.int) (e := en) (by rw [List.length_map]; exact hen)]
    refine ⟨_, rfl, _, rfl, _, _, rfl, rfl, _, rfl, by omega, by omega, fun D nD => ?_⟩
    have kb : Kp T.cF T.T [] H6 (upd H6 b (.lst ((fl.map V.int).take en))) := Kp.new nb
    refine lc_it (walk_range (lo := 0) (n := ((ws.length : Int) + 1 - (en : Int)).toNat)) (LcP T.cF T.T _ D fun i acc _ => acc = List.replicate i V.non) (lc0 nD rfl) (fun _ _ _ _ => trivial) ?_ ?_
    · rintro i x H7 H8 hi ⟨acc, ha, hl, k7, rfl⟩ ⟨rfl, ex⟩
      refine ⟨rfl, yes_ (lcYes (Nat.lt_of_lt_of_le (by omega : i < 5) (by decide)) nD k7 ha hl (Kp.refl _) ?_)⟩
      rw [List.replicate_succ']
    · rintro H7 ⟨acc, ha, hl, k7, rfl⟩
      have hb7 : H7 b = some (.lst ((fl.map V.int).take en)) := k7.any upd_same
      refine ⟨b, D, _, _, rfl, rfl, hb7, ha, ?_, fun p np => ⟨p, _, rfl, .inl ⟨SqL.of upd_same, fun t nt => ?_⟩⟩⟩
      · rw [List.length_take, List.length_map, List.length_replicate]
        exact Nat.le_trans (by omega : _ ≤ 10) (by decide)
      have k8 : Kp T.cF T.T [] H7 _ := (Kp.new np).trans (Kp.new (o := .tup ((fl.map V.int).take en ++ List.replicate (((ws.length : Int) + 1 - (en : Int)).toNat) V.non)) nt)
      have kZ : Kp T.cF T.T [] H6 _ := kb.trans (k7.trans k8)
      refine k _ t ((fl.take en).map some ++ List.replicate (((ws.length : Int) + 1 - (en : Int)).toNat) none) (kB.trans kZ.one) ((hp6.st kZ (by simp)).mono (by omega)) ⟨⟨fl.take en, _, rfl, List.Pairwise.sublist (List.take_sublist _ _) hpw, fun x hx => (hbd x (List.mem_of_mem_take hx)).1⟩, ?_⟩ ?_
      · rw [List.length_append, List.length_map, List.length_take, List.length_replicate]
        omega
      · rw [upd_same, List.map_append, List.map_map, List.map_replicate, ← List.map_take]
        rfl
end
end Tg
/-! TgD14 -/
set_option Elab.async false
set_option linter.all false
set_option maxRecDepth 100000
set_option maxHeartbeats 4000000
/-! the law: news -/
namespace L2
open PySem PySem.Spec PyProof.Rows
/-- d == {} -/
def rEqE : R2 := fun x y H Q => ∃ a b ks, x = .ref a ∧ y = .ref b ∧ H a = some (.dK ks) ∧ H b = some (.dK []) ∧ Q (.bl ks.isEmpty) H
theorem op_eqE {X : Cx} (hu : X.A.units + 1 < cLine) : OpR X (compareOp .Eq) rEqE := by
  intro pins s σ H x y v u Q I rx ry h
  obtain ⟨a, b, ks, rfl, rfl, ea, eb, q⟩ := h
  obtain rfl : v = Value.ref a := rx
  obtain rfl : u = Value.ref b := ry
  obtain ⟨_, ya, va, ra, da⟩ := (show ObjOk X.prog X.w H s.heap a (.dK ks) from I.hok a _ ea)
  obtain ⟨_, yb, vb, rb, db⟩ := (show ObjOk X.prog X.w H s.heap b (.dK []) from I.hok b _ eb)
  have hl1 : va.length = ks.length := ra.length.symm
  have hl2 : vb.length = 0 := by rw [← rb.length]; rfl
  refine PySem.W.keq_eq (knd := mixKind X.prog X.w) (r := true) ya yb da db (by omega) (fun hl => ?_) (fin_bl I q ?_)
  · have : va = [] := List.length_eq_zero_iff.mp (by omega)
    subst this
    exact .nil
  · rw [hl1, hl2]
    cases ks <;> simp
end L2
namespace Tg
open PySem PySem.Spec PyProof.Rows L2 LamX NdefX TgM
theorem nw_put {nw : List (Int × Option Int)} (nd : (nw.map (·.1)).Nodup) (x : Int) (o : Option Int) : ∃ nw', putK (nwK nw) (Sum.inl x : Key) (oI o) = nwK nw' ∧ (nw'.map (·.1)).Nodup ∧ nw'.length ≤ nw.length + 1 ∧ ∀ p ∈ nw', p = (x, o) ∨ p ∈ nw := by
  by_cases h : x ∈ nw.map (·.1)
  · refine ⟨nw.map fun p => if p.1 = x then (x, o) else p, ?_, ?_, by simp, fun p hp => ?_⟩
    · obtain ⟨u, hu⟩ := valV_some (show IntK (nwK nw) (nw.map (·.1)) from nwK_keys nw) h
      have q := valV_any (Sum.inl x : Key) (nwK nw)
      rw [hu] at q
      unfold putK
      rw [if_pos (show _ = true from q)]
      unfold nwK
      rw [List.map_map, List.map_map]
      refine List.map_congr_left fun p _ => ?_
      show (if (Sum.inl p.1 : Key) = Sum.inl x then ((Sum.inl p.1 : Key), oI o) else (Sum.inl p.1, oI p.2)) = _
      by_cases e : p.1 = x
      · rw [if_pos (by rw [e])]
        show _ = ((Sum.inl (if p.1 = x then (x, o) else p).1 : Key), oI (if p.1 = x then (x, o) else p).2)
        rw [if_pos e, e]
      · rw [if_neg fun z => e (Sum.inl.inj z)]
        show _ = ((Sum.inl (if p.1 = x then (x, o) else p).1 : Key), oI (if p.1 = x then (x, o) else p).2)
        rw [if_neg e]
    · rw [List.map_map]
      have : ((·.1) ∘ fun p : Int × Option Int => if p.1 = x then (x, o) else p) = (·.1) := by
        funext p
        show (if p.1 = x then (x, o) else p).1 = p.1
        by_cases e : p.1 = x
        · rw [if_pos e, e]
        · rw [if_neg e]
      rw [this]
      exact nd
    · obtain ⟨q, hq, e⟩ := List.mem_map.mp hp
      by_cases z : q.1 = x
      · rw [if_pos z] at e
        exact .inl e.symm
      · rw [if_neg z] at e
        exact .inr (e ▸ hq)
  · refine ⟨nw ++ [(x, o)], ?_, ?_, by simp, fun p hp => ?_⟩
    · rw [putK_not (show IntK (nwK nw) (nw.map (·.1)) from nwK_keys nw) h]
      unfold nwK
      rw [List.map_append]
      rfl
    · rw [List.map_append, List.nodup_append]
      exact ⟨nd, by simp, fun y hy z hz e => h (by
        have : z = x := by simpa using hz
        rw [this] at e
        exact e ▸ hy)⟩
    · rcases List.mem_append.mp hp with hp | hp
      · exact .inr hp
      · exact .inl (List.mem_singleton.mp hp)
theorem NewsAt.put {H : Hp} {n : Addr} {nw : List (Int × Option Int)} (h : NewsAt H n nw) (x : Int) (o : Option Int) (ho : ∀ v, o = some v → -1125899906842624 < v ∧ v < 1125899906842624) (hl : nw.length < 100) : ∃ nw', NewsAt (upd H n (.dK (putK (nwK nw) (Sum.inl x) (oI o)))) n nw' ∧ nw'.length ≤ nw.length + 1 := by
  obtain ⟨nw', e, nd, hl', hm⟩ := nw_put h.nd x o
  refine ⟨nw', ⟨by rw [upd_same, e], nd, by omega, fun t v hv => ?_⟩, hl'⟩
  rcases hm _ hv with z | z
  · exact ho v (Prod.mk.inj z).2.symm
  · exact h.bd t v z
section
variable {P : Program} {w : World} {K : PySem.W.Frag} {mg : Str → Option Value} {base : Heap}
def sp_news (T : Ev K mg base) : Sp := fun vs H Q _ => ∃ (a t wt : Addr) (b m : Int) (ws : List Int) (tb : List Pt), vs = [.ref a, .ref t, .int b, .ref wt] ∧ PurseAt H a m ∧ m ≤ 549755813000 ∧ TabAt H t tb ∧ -1000000000000000 < b ∧ b < 1000000000000000 ∧ WT H wt (ws.map V.int) ∧ WsOk ws ∧
  ∀ H' n nw, Kp T.cF T.T [a] H H' → PurseAt H' a (m + 150) → NewsAt H' n nw → nw.length ≤ 8 → Q (.ref n) H'
theorem sc_law_news : FnScope ["_law_purse_here", "_law_table", "_law_base_here", "_law_widths_here", "_law_way", "_law_found", "_law_k", "_law_times", "_law_first", "_law_time_here"] ["_law_purse_here", "_law_table", "_law_base_here", "_law_widths_here"] (defScope s_law_news) := ⟨rfl, rfl, rfl, by decide +kernel, rfl, by decide +kernel, by decide +kernel⟩
theorem c_law_news (T : Ev K mg base) : C8.Cal P w K mg base 4 "_law_news" (sp_news T) [] := by
  refine calD T.d_law_news sc_law_news (fun _ _ _ _ _ _ us hl => match us, hl with | [_, _, _, _], _ => rfl) (fun vs H Q E h => by obtain ⟨_, _, _, _, _, _, _, rfl, _⟩ := h; rfl) (fun f cdv A outer s H vs Q E hr h => ?_)
  obtain ⟨a, t, wt, b, m, ws, tb, rfl, hp, hm, hT, b0, b1, ht, hw, k⟩ := h
  have hu := hu_of hr
  refine ⟨_, (pss_cons (ps_set (i := 4) sc_law_news.nd rfl (Or.inl rfl) (C8.pe_c (c_law_draw T) hr (by decide) rfl (pa_cons (pv 0) (pa_cons pe_int pa_nil))))
      (pss_cons (ps_if (PW.pt (pw_or (pt_cmpR op_lt (pv 4) pe_int (nomark _)) (pw_or1 (pt_cmpR (op_eqE (hu_of hr)) (pv 1) pe_dnewK (nomark _))))) (pss_one (ps_ret (pe_disp (pps_cons (C8.pe_c (c_law_time T) hr (by decide) rfl (pa_cons (pv 0) (pa_cons (pv 2) (pa_cons (pv 3) pa_nil)))) (C8.pe_c (c_law_worth T) hr (by decide) rfl (pa_cons (pv 0) pa_nil)) pps_nil) (by rfl) (by rfl) (fun z => by cases z) (by decide))))
        pss_nil)
      (pss_cons (ps_if (pt_cmpR op_eq (pv 4) pe_int (nomark _)) (pss_cons (ps_set (i := 5) sc_law_news.nd rfl (Or.inl rfl) pe_dnewK)
        (pss_cons (ps_for PassesOwn.never rfl (pi_range1 (by rfl) T.b_range (pa_cons (C8.pe_c (c_law_draw T) hr (by decide) rfl (pa_cons (pv 0) (pa_cons pe_int pa_nil))) pa_nil)) (pg_name (i := 6) sc_law_news.nd rfl (Or.inl rfl))
          (pss_one (ps_dput hu (pv 5) (C8.pe_c (c_law_time T) hr (by decide) rfl (pa_cons (pv 0) (pa_cons (pv 2) (pa_cons (pv 3) pa_nil)))) (C8.pe_c (c_law_worth T) hr (by decide) rfl (pa_cons (pv 0) pa_nil)) rfl)))
        (pss_one (ps_ret (pv 5)))))
        pss_nil)
      (pss_cons (ps_set (i := 7) sc_law_news.nd rfl (Or.inl rfl) (pe_callB (call_sortedDA rfl) (by rfl) T.b_sorted (by decide +kernel) (pa_cons (pv 1) pa_nil)))
      (pss_cons (ps_if (pt_cmpR op_eq (pv 4) pe_int (nomark _)) (pss_one (ps_ret (pe_disp (pps_cons (pe_ix ix_list (pv 7) (C8.pe_c (c_law_draw T) hr (by decide) rfl (pa_cons (pv 0) (pa_cons (pe_callB call_len_seq (by rfl) T.b_len (by decide +kernel) (pa_cons (pv 7) pa_nil)) pa_nil))) (fun _ _ => rfl)) (pe_ix ix_list (pe_lst (pa_cons (C8.pe_c (c_law_worth T) hr (by decide) rfl (pa_cons (pv 0) pa_nil)) (pa_cons pe_non pa_nil))) (C8.pe_c (c_law_draw T) hr (by decide) rfl (pa_cons (pv 0) (pa_cons pe_int pa_nil))) (fun _ _ => rfl)) pps_nil) (by rfl) (by rfl) (fun z => by cases z) (by decide))))
        pss_nil)
      (pss_cons (ps_set (i := 8) sc_law_news.nd rfl (Or.inl rfl) (C8.pe_c (c_law_draw T) hr (by decide) rfl (pa_cons (pv 0) (pa_cons (pe_callB call_len_seq (by rfl) T.b_len (by decide +kernel) (pa_cons (pv 7) pa_nil)) pa_nil))))
      (pss_cons (ps_set (i := 5) sc_law_news.nd rfl (Or.inl rfl) pe_dnewK)
      (pss_cons (ps_for PassesOwn.never rfl (pi_list (pe_slice sl_list (pv 7) (po_some (pv 8)) (po_some (pe_op op_add (pe_op op_add (pv 8) pe_int) (C8.pe_c (c_law_draw T) hr (by decide) rfl (pa_cons (pv 0) (pa_cons pe_int pa_nil))))))) (pg_name (i := 9) sc_law_news.nd rfl (Or.inl rfl))
        (pss_one (ps_dput hu (pv 5) (pv 9) pe_non rfl)))
      (pss_one (ps_ret (pv 5))))))))))), ?_⟩
  refine ⟨_, rfl, a, 8, m, rfl, hp, by omega, by decide, by decide, fun way H1 c0 c1 d1 hp1 => ?_⟩
  have k1 := hp.kp (C := T.cF) (T := T.T) d1
  have hT1 : TabAt H1 t tb := hT.kp k1 (by
    intro z
    obtain ⟨l, e⟩ := hp.lst
    rw [← List.mem_singleton.mp z, hT.dc] at e
    cases e)
  have ta : t ≠ a := fun z => by
    obtain ⟨l, e⟩ := hp.lst
    rw [← z, hT.dc] at e
    cases e
  refine ⟨_, rfl, _, _, rfl, rfl, _, rfl, ?_⟩
  refine ite2 (fun _ => iteT ?_) (fun _ => ?_)
  · intro p np
    have hpX := hp1
    have kX : Kp T.cF T.T [a] H (H1) := k1
    refine ⟨_, rfl, _, rfl, _, rfl, a, wt, b, _, ws, rfl, hpX.st (Kp.new (C := T.cF) (T := T.T) (M := []) np) (by simp), by omega, b0, b1, (ht.kp kX).kp (Kp.new (C := T.cF) (T := T.T) (M := []) np), hw, fun H3 x k3 hp3 x0 x1 => ?_⟩
    refine ⟨_, rfl, a, _, rfl, hp3, by omega, fun H4 wo k4 hp4 w0 w1 => ?_⟩
    have pa : p ≠ a := hpX.ne np
    have h4 := k4.at (k3.at (upd_same (a := p) (o := .dK [])) (by simpa using pa)) (by simpa using pa)
    refine ⟨h4, [(Sum.inl x, .int wo)], rfl, (by show 1 ≤ 15; decide), ?_⟩
    have kS : Kp T.cF T.T [p] H4 (upd H4 p (.dK (mergeK [] [(Sum.inl x, .int wo)]))) := Kp.set h4 (by simp) trivial
    have kN : Kp T.cF T.T [a] (H1) (upd H4 p (.dK (mergeK [] [(Sum.inl x, .int wo)]))) := Kp.drop np (Kp.new np).one ((k3.mono (by simp)).trans ((k4.mono (by simp)).trans (kS.mono (by simp))))
    refine k _ p [(x, some wo)] (kX.trans kN) ((hp4.st kS (by simpa using pa.symm)).mono (by omega)) ⟨upd_same, by simp, by simp, fun t' v' hv => ?_⟩ (by simp)
    have hv := List.mem_singleton.mp hv
    have e : v' = wo := Option.some.inj (Prod.mk.inj hv).2
    rw [e]
    exact ⟨w0, w1⟩
  · refine ⟨_, rfl, fun e ne => ?_⟩
    have ke : Kp T.cF T.T [] H1 (upd H1 e (.dK [])) := Kp.new ne
    have hT2 := hT1.kp ke (by simp)
    refine ⟨t, e, _, rfl, rfl, hT2.dc, upd_same, _, rfl, ?_⟩
    have hpe := hp1.st ke (by simp)
    have ke1 : Kp T.cF T.T [a] H (upd H1 e (.dK [])) := k1.trans ke.one
    by_cases hte : tb = []
    · have : (tbK tb).isEmpty = true := by rw [hte]; rfl
      rw [this]
      refine iteT ?_
      intro p np
      have hpX := hpe
      have kX : Kp T.cF T.T [a] H (upd H1 e (.dK [])) := ke1
      refine ⟨_, rfl, _, rfl, _, rfl, a, wt, b, _, ws, rfl, hpX.st (Kp.new (C := T.cF) (T := T.T) (M := []) np) (by simp), by omega, b0, b1, (ht.kp kX).kp (Kp.new (C := T.cF) (T := T.T) (M := []) np), hw, fun H3 x k3 hp3 x0 x1 => ?_⟩
      refine ⟨_, rfl, a, _, rfl, hp3, by omega, fun H4 wo k4 hp4 w0 w1 => ?_⟩
      have pa : p ≠ a := hpX.ne np
      have h4 := k4.at (k3.at (upd_same (a := p) (o := .dK [])) (by simpa using pa)) (by simpa using pa)
      refine ⟨h4, [(Sum.inl x, .int wo)], rfl, (by show 1 ≤ 15; decide), ?_⟩
      have kS : Kp T.cF T.T [p] H4 (upd H4 p (.dK (mergeK [] [(Sum.inl x, .int wo)]))) := Kp.set h4 (by simp) trivial
      have kN : Kp T.cF T.T [a] (upd H1 e (.dK [])) (upd H4 p (.dK (mergeK [] [(Sum.inl x, .int wo)]))) := Kp.drop np (Kp.new np).one ((k3.mono (by simp)).trans ((k4.mono (by simp)).trans (kS.mono (by simp))))
      refine k _ p [(x, some wo)] (kX.trans kN) ((hp4.st kS (by simpa using pa.symm)).mono (by omega)) ⟨upd_same, by simp, by simp, fun t' v' hv => ?_⟩ (by simp)
      have hv := List.mem_singleton.mp hv
      have e : v' = wo := Option.some.inj (Prod.mk.inj hv).2
      rw [e]
      exact ⟨w0, w1⟩
    · have : (tbK tb).isEmpty = false := by
        cases tb with
        | nil => exact absurd rfl hte
        | cons a r => rfl
      rw [this]
      refine iteF ?_
      generalize upd H1 e (.dK []) = H2 at ke hT2 hpe ke1 ⊢
      refine ⟨_, rfl, rfl, _, rfl, ?_⟩
      refine ite2 (fun _ => ?_) (fun _ => ?_)
      · intro fa nfa
        have kf : Kp T.cF T.T [] H2 (upd H2 fa (.dK [])) := Kp.new nfa
        have hpf := hpe.st kf (by simp)
        have faa : fa ≠ a := hpe.ne nfa
        refine ⟨_, rfl, a, 6, _, rfl, hpf, by omega, by decide, by decide, fun r H3 r0 r1 e3 hp3 => ?_⟩
        have k3 := hpf.kp (C := T.cF) (T := T.T) e3
        refine ⟨_, rfl, by omega, by omega, ?_⟩
        have h3 : H3 fa = some (.dK []) := by rw [e3 fa faa]; exact upd_same
        refine for_range (lo := 0) (n := r.toNat) (fun i σ H' => ∃ (o6 : Option V) (nw : List (Int × Option Int)), σ = [some (.ref a), some (.ref t), some (.int b), some (.ref wt), some (.int way), some (.ref fa), o6, none, none, none] ∧ Kp T.cF T.T [fa, a] (upd H2 fa (.dK [])) H' ∧ PurseAt H' a (m + 6 + 18 * i) ∧ NewsAt H' fa nw ∧ nw.length ≤ i)
          ⟨_, [], rfl, k3.mono (by simp), hp3.mono (by omega), ⟨h3, by simp, by simp, by simp⟩, by simp⟩ ?_ ?_
        · rintro i σ H4 hi ⟨o6, nw, rfl, k4, hp4, hN, hnl⟩
          have hi6 : i < 6 := by omega
          have k04 : Kp T.cF T.T [fa, a] H H4 := (ke1.mono (by simp)).trans ((kf.mono (by simp)).trans k4)
          refine ⟨_, rfl, a, _, rfl, hp4, by omega, fun H5 wo k5 hp5 w0 w1 => ?_⟩
          refine ⟨_, rfl, _, rfl, _, rfl, _, rfl, a, wt, b, _, ws, rfl, hp5, by omega, b0, b1, (ht.kp k04).kp k5, hw, fun H6 x k6 hp6 x0 x1 => ?_⟩
          have hN6 := (hN.kp k5 (by simpa using faa)).kp k6 (by simpa using faa)
          obtain ⟨nw', hN7, hl7⟩ := hN6.put x (some wo) (fun v e => by cases e; exact ⟨w0, w1⟩) (by omega)
          have kS : Kp T.cF T.T [fa] H6 (upd H6 fa (.dK (putK (nwK nw) (Sum.inl x) (oI (some wo))))) := Kp.set hN6.dc (by simp) trivial
          refine ⟨fa, _, rfl, DPut.k (k := Sum.inl x) hN6.dc ?_, _, nw', rfl, k4.trans ((k5.mono (by simp)).trans ((k6.mono (by simp)).trans (kS.mono (by simp)))), (hp6.st kS (by simpa using faa.symm)).mono (by omega), hN7, by omega⟩
          unfold nwK
          rw [List.length_map]
          exact Nat.lt_of_le_of_lt (by omega : nw.length ≤ 10) (by decide)
        · rintro σ H4 ⟨o6, nw, rfl, k4, hp4, hN, hnl⟩
          refine ⟨_, rfl, k H4 fa nw (ke1.trans (Kp.drop nfa kf.one k4)) (hp4.mono (by omega)) hN (by omega)⟩
      · refine ⟨_, rfl, t, _, tb.map (·.1), rfl, .inl hT2.dc, tbK_keys tb, fun ys q hpq hsq nq => ?_⟩
        have kq : Kp T.cF T.T [] H2 (upd H2 q (.lst (ys.map V.int))) := Kp.new nq
        have hp3 := hpe.st kq (by simp)
        have k3 : Kp T.cF T.T [a] H (upd H2 q (.lst (ys.map V.int))) := ke1.trans kq.one
        have hq3 : (upd H2 q (.lst (ys.map V.int))) q = some (.lst (ys.map V.int)) := upd_same
        have qa : q ≠ a := hpe.ne nq
        generalize upd H2 q (.lst (ys.map V.int)) = H3 at kq hp3 k3 hq3 ⊢
        have hyl : (ys.map V.int).length = tb.length := by rw [List.length_map, hpq.length_eq, List.length_map]
        have htl : 0 < tb.length := List.length_pos_iff.mpr hte
        have htl2 := hT.len
        refine ⟨_, rfl, rfl, _, rfl, ?_⟩
        refine ite2 (fun _ => ?_) (fun _ => ?_)
        · intro p np
          have kp : Kp T.cF T.T [] H3 (upd H3 p (.dK [])) := Kp.new np
          have pa : p ≠ a := hp3.ne np
          have hp4 := hp3.st kp (by simp)
          refine ⟨_, rfl, _, rfl, _, rfl, q, _, rfl, .inl (SqL.of (kp.any hq3)), a, _, _, rfl, hp4, by omega, by rw [hyl]; omega, by rw [hyl]; omega, fun d H5 f0 f1 e5 hp5 => ?_⟩
          rw [hyl] at f1
          have k5 := hp4.kp (C := T.cF) (T := T.T) e5
          have hq5 := k5.at (kp.any hq3) (by simpa using qa)
          obtain ⟨v, ev, mv⟩ := pick (xs := ys.map V.int) f0 (by rw [hyl]; exact f1)
          obtain ⟨x, hx, rfl⟩ := List.mem_map.mp mv
          refine ⟨q, _, d, _, rfl, rfl, SqL.of hq5, ev, ?_⟩
          refine ⟨_, rfl, a, _, rfl, hp5, by omega, fun H6 wo k6 hp6 w0 w1 => ⟨two_le, fun r nr => ?_⟩⟩
          have k7 : Kp T.cF T.T [] H6 (upd H6 r (.lst [.int wo, .non])) := Kp.new nr
          have ra : r ≠ a := hp6.ne nr
          have hp7 := hp6.st k7 (by simp)
          refine ⟨_, rfl, a, 2, _, rfl, hp7, by omega, by decide, by decide, fun d8 H8 g0 g1 e8 hp8 => ?_⟩
          have k8 := hp7.kp (C := T.cF) (T := T.T) e8
          have hr8 : H8 r = some (.lst [.int wo, .non]) := by rw [e8 r ra]; exact upd_same
          obtain ⟨v, ev8, mv8⟩ := pick (xs := [V.int wo, .non]) g0 (by simpa using g1)
          obtain ⟨o, rfl, ho⟩ : ∃ o, v = oI o ∧ ∀ v, o = some v → -1125899906842624 < v ∧ v < 1125899906842624 := by
            simp only [List.mem_cons, List.not_mem_nil, or_false] at mv8
            rcases mv8 with rfl | rfl
            · exact ⟨some wo, rfl, fun v e => by cases e; exact ⟨w0, w1⟩⟩
            · exact ⟨none, rfl, fun v e => by cases e⟩
          refine ⟨r, _, d8, _, rfl, rfl, SqL.of hr8, ev8, ?_⟩
          have kk : Kp T.cF T.T [a] (upd H3 p (.dK [])) H8 := k5.trans (k6.trans ((k7.one).trans k8))
          have h8 := kk.at (upd_same (H := H3) (a := p) (o := .dK [])) (by simpa using pa)
          refine ⟨h8, [(Sum.inl x, oI o)], rfl, (by show 1 ≤ 15; decide), ?_⟩
          have kS : Kp T.cF T.T [p] H8 (upd H8 p (.dK (mergeK [] [(Sum.inl x, oI o)]))) := Kp.set h8 (by simp) trivial
          have kN : Kp T.cF T.T [a] H3 (upd H8 p (.dK (mergeK [] [(Sum.inl x, oI o)]))) := Kp.drop np kp.one ((kk.mono (by simp)).trans (kS.mono (by simp)))
          refine k _ p [(x, o)] (k3.trans kN) ((hp8.st kS (by simpa using pa.symm)).mono (by omega)) ⟨upd_same, by simp, by simp, fun t' v' hv => ?_⟩ (by simp)
          have hv := List.mem_singleton.mp hv
          exact ho v' (Prod.mk.inj hv).2.symm
        · refine ⟨_, rfl, _, rfl, q, _, rfl, .inl (SqL.of hq3), a, _, _, rfl, hp3, by omega, by rw [hyl]; omega, by rw [hyl]; omega, fun fi H5 f0 f1 e5 hp5 => ?_⟩
          rw [hyl] at f1
          have k5 := hp3.kp (C := T.cF) (T := T.T) e5
          have hq5 := k5.at hq3 (by simpa using qa)
          intro fa nfa
          have kf : Kp T.cF T.T [] H5 (upd H5 fa (.dK [])) := Kp.new nfa
          have hpf := hp5.st kf (by simp)
          have faa : fa ≠ a := hp5.ne nfa
          obtain ⟨fn, rfl⟩ : ∃ j : Nat, fi = (j : Int) := ⟨fi.toNat, by omega⟩
          refine ⟨_, rfl, _, rfl, _, rfl, _, rfl, _, _, rfl, rfl, _, rfl, a, 8, _, rfl, hpf, by omega, by decide, by decide, fun d H6 g0 g1 e6 hp6 => ?_⟩
          obtain ⟨dn, rfl⟩ : ∃ j : Nat, d = (j : Int) := ⟨d.toNat, by omega⟩
          have k6 := hpf.kp (C := T.cF) (T := T.T) e6
          have hq6 := k6.at (kf.any hq5) (by simpa using qa)
          have hfa6 : H6 fa = some (.dK []) := by rw [e6 fa faa]; exact upd_same
          refine ⟨_, _, rfl, rfl, _, rfl, q, _, rfl, SqL.of hq6, fun r nr => ⟨r, rfl, ⟨_, SqL.of upd_same⟩, ?_⟩⟩
          have ecut : cutV (ys.map V.int) (some (fn : Int)) (some ((fn : Int) + 1 + (dn : Int))) = ((ys.drop (min fn ys.length)).take (min (fn + 1 + dn) ys.length - min fn ys.length)).map V.int := by
            rw [cut_ints, show ((fn : Int) + 1 + (dn : Int)) = ((fn + 1 + dn : Nat) : Int) by omega, HT.sIx_nat, HT.sIx_nat]
          rw [ecut]
          generalize hzs : (ys.drop (min fn ys.length)).take (min (fn + 1 + dn) ys.length - min fn ys.length) = zs
          have hzl : zs.length ≤ 8 := by
            rw [← hzs, List.length_take]
            omega
          have hzx : (zs.map V.int).length = zs.length := List.length_map _
          have kr : Kp T.cF T.T [] H6 (upd H6 r (.lst (zs.map V.int))) := Kp.new nr
          have rfa : r ≠ fa := (ne_of_none hfa6 nr).symm
          have ra : r ≠ a := hp6.ne nr
          refine for_it (walk_list (K := K) (a := r) (xs := zs.map V.int)) (fun i σ H' => ∃ (o9 : Option V) (nw : List (Int × Option Int)), σ = [some (.ref a), some (.ref t), some (.int b), some (.ref wt), some (.int way), some (.ref fa), none, some (.ref q), some (.int (fn : Int)), o9] ∧ Kp T.cF T.T [fa] (upd H6 r (.lst (zs.map V.int))) H' ∧ NewsAt H' fa nw ∧ nw.length ≤ i)
            ⟨_, [], rfl, Kp.refl _, ⟨kr.any hfa6, by simp, by simp, by simp⟩, by simp⟩ (fun i σ H' _ ⟨_, _, _, k7, _⟩ => k7.seqL (by simpa using rfa) (SqL.of upd_same)) ?_ ?_
          · rintro i x σ H7 H8 hi ⟨o9, nw, rfl, k7, hN, hnl⟩ ⟨rfl, ex⟩
            rw [hzx] at hi
            obtain ⟨z, hz⟩ : ∃ o, zs[i]? = some o := ⟨_, List.getElem?_eq_getElem hi⟩
            have ex : x = .int z := mapGet ex hz
            subst ex
            obtain ⟨nw', hN7, hl7⟩ := hN.put z none (fun v e => by cases e) (by omega)
            have kS : Kp T.cF T.T [fa] H8 (upd H8 fa (.dK (putK (nwK nw) (Sum.inl z) (oI none)))) := Kp.set hN.dc (by simp) trivial
            refine ⟨_, rfl, _, rfl, fa, _, rfl, DPut.k (k := Sum.inl z) hN.dc ?_, _, nw', rfl, k7.trans kS, hN7, by omega⟩
            unfold nwK
            rw [List.length_map]
            exact Nat.lt_of_le_of_lt (by omega : nw.length ≤ 10) (by decide)
          · rintro σ H7 ⟨o9, nw, rfl, k7, hN, hnl⟩
            rw [hzx] at hnl
            have kN : Kp T.cF T.T [a] H5 H7 := Kp.drop nfa kf.one ((k6.mono (by simp)).trans ((kr.mono (by simp)).trans (k7.mono (by simp))))
            exact ⟨_, rfl, k H7 fa nw (k3.trans (k5.trans kN)) (((hp6.st kr (by simp)).st k7 (by simpa using faa.symm)).mono (by omega)) hN (by omega)⟩
end
end Tg
/-! TgL1 -/
set_option Elab.async false
set_option linter.all false
set_option maxRecDepth 100000
set_option maxHeartbeats 4000000
/-! the records, the table and the horizons between deeds: plain laws -/
namespace Tg
open PySem PySem.Spec PyProof.Rows L2 LamX NdefX TgM
structure HzOk (ws : List Int) (hz : List (Option Int)) : Prop where
  len : hz.length = ws.length + 1
  dvd : ∀ (g : Nat) h, hz[g]? = some (some h) → unitOf ws g ∣ h
  mono : ∀ (g g' : Nat) h', g < g' → hz[g']? = some (some h') → ∃ h, hz[g]? = some (some h) ∧ h' ≤ h
theorem ws_dvd {ws : List Int} (hw : WsOk ws) {i j : Nat} {a b : Int} (hij : i ≤ j) (ha : ws[i]? = some a) (hb : ws[j]? = some b) : a ∣ b := by
  by_cases e : i = j
  · subst e
    rw [ha] at hb
    cases hb
    exact Int.dvd_refl a
  · obtain ⟨b1, e1⟩ := List.getElem?_eq_some_iff.mp ha
    obtain ⟨b2, e2⟩ := List.getElem?_eq_some_iff.mp hb
    have := List.pairwise_iff_getElem.mp hw.pw i j b1 b2 (by omega)
    rw [e1, e2] at this
    exact this.2
theorem ws_inj {ws : List Int} (hw : WsOk ws) {i j : Nat} {a : Int} (ha : ws[i]? = some a) (hb : ws[j]? = some a) : i = j := by
  obtain ⟨b1, e1⟩ := List.getElem?_eq_some_iff.mp ha
  obtain ⟨b2, e2⟩ := List.getElem?_eq_some_iff.mp hb
  rcases Nat.lt_trichotomy i j with z | z | z
  · have := List.pairwise_iff_getElem.mp hw.pw i j b1 b2 z
    rw [e1, e2] at this
    omega
  · exact z
  · have := List.pairwise_iff_getElem.mp hw.pw j i b2 b1 z
    rw [e1, e2] at this
    omega
theorem unit_is {ws : List Int} {g j : Nat} {u : Int} (hj : min g (ws.length - 1) = j) (hu : ws[j]? = some u) : unitOf ws g = u := by
  unfold unitOf
  rw [hj, List.getD_eq_getElem?_getD, hu]
  rfl
/-- the cells' horizon is a multiple of their width -/
theorem HzOk.dw {ws : List Int} {hz : List (Option Int)} (hw : WsOk ws) (h : HzOk ws hz) {i : Nat} {w x : Int} (hi : ws[i]? = some w) (hx : hz[i + 1]? = some (some x)) : w ∣ x := by
  have hil := (List.getElem?_eq_some_iff.mp hi).1
  obtain ⟨u, hu⟩ : ∃ u, ws[min (i + 1) (ws.length - 1)]? = some u := ⟨_, List.getElem?_eq_getElem (by omega)⟩
  have h1 := h.dvd _ _ hx
  rw [unit_is rfl hu] at h1
  exact Int.dvd_trans (ws_dvd hw (by omega) hi hu) h1
theorem HzOk.dn {ws : List Int} {hz : List (Option Int)} (h : HzOk ws hz) {i : Nat} {w x : Int} (hi : ws[i]? = some w) (hx : hz[i]? = some (some x)) : w ∣ x := by
  have hil := (List.getElem?_eq_some_iff.mp hi).1
  have h1 := h.dvd _ _ hx
  rw [unit_is (by omega) hi] at h1
  exact h1
theorem HzOk.le0 {ws : List Int} {hz : List (Option Int)} (h : HzOk ws hz) {g : Nat} {x : Int} (hx : hz[g]? = some (some x)) : ∃ y, hz[0]? = some (some y) ∧ x ≤ y := by
  by_cases e : g = 0
  · subst e
    exact ⟨x, hx, Int.le_refl x⟩
  · exact h.mono 0 g x (by omega) hx
structure SI (cm : List Rc) (ws : List Int) (hz : List (Option Int)) (tb : List Pt) : Prop where
  inR : ∀ r ∈ cm, ∃ i : Nat, ws[i]? = some r.w ∧ r.w ∣ r.s ∧ (∀ h, hz[i + 1]? = some (some h) → h ≤ r.s) ∧ r.F = fo (pin tb r.s (r.s + r.w))
  cov : ∀ (i : Nat) w, ws[i]? = some w → ∀ p ∈ tb, (∀ h, hz[i + 1]? = some (some h) → h ≤ cel p.1 w) → ∃ r ∈ cm, r.w = w ∧ r.s = cel p.1 w
theorem SI.fd {cm : List Rc} {ws : List Int} {hz : List (Option Int)} {tb : List Pt} (S : SI cm ws hz tb) (hw : WsOk ws) {i : Nat} {w s : Int} (hi : ws[i]? = some w) (hd : w ∣ s) (hh : ∀ h, hz[i + 1]? = some (some h) → h ≤ s) : fdAt cm w s = fo (pin tb s (s + w)) := by
  have hb := hw.bd w (List.mem_of_getElem? hi)
  unfold fdAt
  cases e : lookR cm w s with
  | some r =>
    obtain ⟨h1, h2, h3⟩ := lookR_mem e
    obtain ⟨_, _, _, _, h4⟩ := S.inR r h1
    show r.F = _
    rw [h4, h2, h3]
  | none =>
    have h1 := lookR_none e
    have : pin tb s (s + w) = [] := by
      rw [List.eq_nil_iff_forall_not_mem]
      intro p hp
      obtain ⟨hp1, hp2⟩ := (mem_cell hb.1 hd).mp hp
      obtain ⟨r, hr, e1, e2⟩ := S.cov i w hi p hp1 (by rw [hp2]; exact hh)
      exact h1 r hr ⟨e1, e2.trans hp2⟩
    rw [this]
    rfl
theorem SI.fd0 {cm : List Rc} {ws : List Int} {hz : List (Option Int)} {tb : List Pt} (S : SI cm ws hz tb) (hw : WsOk ws) {i : Nat} {w s h : Int} (hi : ws[i]? = some w) (hx : hz[i + 1]? = some (some h)) (hl : s < h) : fdAt cm w s = F0 := by
  refine fdAt_no fun r hr z => ?_
  obtain ⟨j, h1, _, h3, _⟩ := S.inR r hr
  rw [z.1] at h1
  have := ws_inj hw h1 hi
  subst this
  have := h3 h hx
  rw [z.2] at this
  omega
theorem pin_same {tb af : List Pt} {nw : List (Int × Option Int)} (ht : Srt tb) (hA : After tb nw af) {s e : Int} (h : ∀ t ∈ nw.map (·.1), ¬ (s ≤ t ∧ t < e)) : pin tb s e = pin af s e := by
  refine srt_ext (pin_srt ht _ _) (pin_srt hA.srt _ _) fun p => ?_
  rw [mem_pin, mem_pin]
  constructor
  · rintro ⟨h1, h2, h3⟩
    exact ⟨(hA.mem p.1 p.2).mpr (.inr ⟨fun m => h p.1 m ⟨h2, h3⟩, h1⟩), h2, h3⟩
  · rintro ⟨h1, h2, h3⟩
    rcases (hA.mem p.1 p.2).mp h1 with z | ⟨_, z⟩
    · exact absurd ⟨h2, h3⟩ (h p.1 (List.mem_map.mpr ⟨_, z, rfl⟩))
    · exact ⟨z, h2, h3⟩
/-- the points from the horizon on -/
def leftB : Option Int → Pt → Bool
  | none, _ => true
  | some h, p => decide (h ≤ p.1)
def leftOf (hz0 : Option Int) (af : List Pt) : List Pt := af.filter (leftB hz0)
theorem anewOk {cm : List Rc} {ws : List Int} {hz : List (Option Int)} {tb af : List Pt} {nw : List (Int × Option Int)} {ts : List Int} {hz0 : Option Int} (S : SI cm ws hz tb) (hw : WsOk ws) (hH : HzOk ws hz) (ht : Srt tb) (hA : After tb nw af) (bA : Bd af) (h0 : hz[0]? = some hz0)
    (hts : ∀ t, t ∈ ts ↔ t ∈ nw.map (·.1)) (hl : ts.length ≤ 1000) (hn : ∀ h, hz0 = some h → ∀ t ∈ ts, h ≤ t) : AnewOk cm ws ts af (leftOf hz0 af) := by
  refine ⟨hA.srt, bA, hA.srt.filter _, fun p hp => bA p (List.mem_filter.mp hp).1, hl, fun w0 hw0 t ht' => ?_, fun i fi hi r hr e1 hno => ?_, fun i fi wd hi hi1 t ht' p hp h1 h2 => ?_⟩
  · have hb := hw.bd w0 (List.mem_of_getElem? hw0)
    unfold leftOf pin
    rw [List.filter_filter]
    refine List.filter_congr fun p hp => ?_
    cases hz0 with
    | none => simp [leftB]
    | some h =>
      have h1 := hn h rfl t ht'
      have h2 := hH.dn hw0 h0
      have h3 := le_cel hb.1 h2 h1
      by_cases z : cel t w0 ≤ p.1
      · have : h ≤ p.1 := by omega
        simp [leftB, z, this]
      · simp [z]
  · have hb := hw.bd fi (List.mem_of_getElem? hi)
    obtain ⟨j, hj, hd, _, hF⟩ := S.inR r hr
    rw [e1] at hd hF
    refine ⟨hd, ?_⟩
    rw [hF, pin_same ht hA fun t' m z => hno t' ((hts t').mpr m) (cel_eq hb.1 hd z.1 z.2)]
  · have hb := hw.bd fi (List.mem_of_getElem? hi)
    have hb1 := hw.bd wd (List.mem_of_getElem? hi1)
    rcases (hA.mem p.1 p.2).mp hp with z | ⟨_, z⟩
    · exact .inr ⟨p.1, (hts p.1).mpr (List.mem_map.mpr ⟨_, z, rfl⟩), rfl⟩
    · refine .inl (S.cov i fi hi p z fun h hh => ?_)
      obtain ⟨y, hy, hle⟩ := hH.le0 hh
      rw [h0] at hy
      have hy := Option.some.inj hy
      have h3 := hn y hy t ht'
      have hd := hH.dn hi1 hh
      have h4 := le_cel hb1.1 hd (show h ≤ t by omega)
      exact le_cel hb.1 (Int.dvd_trans (ws_dvd hw (by omega) hi hi1) hd) (by omega)
theorem mem_ws {ws : List Int} {w : Int} (h : w ∈ ws) : ∃ i : Nat, ws[i]? = some w := List.mem_iff_getElem?.mp h
/-- a key that is renewed lies behind the horizon -/
theorem key_hz {ws : List Int} {hz : List (Option Int)} {ts : List Int} {hz0 : Option Int} (hw : WsOk ws) (hH : HzOk ws hz) (h0 : hz[0]? = some hz0) (hn : ∀ h, hz0 = some h → ∀ t ∈ ts, h ≤ t) {i : Nat} {w s : Int} (hi : ws[i]? = some w) (hs : s ∈ celsOf ts w) : w ∣ s ∧ ∀ h, hz[i + 1]? = some (some h) → h ≤ s := by
  obtain ⟨t, ht, rfl⟩ := mem_celsOf.mp hs
  refine ⟨cel_dvd _ _, fun h hh => ?_⟩
  obtain ⟨y, hy, hle⟩ := hH.le0 hh
  rw [h0] at hy
  have h3 := hn y (Option.some.inj hy) t ht
  exact le_cel (hw.bd w (List.mem_of_getElem? hi)).1 (hH.dw hw hi hh) (by omega)
theorem SI.renew {cm cm' : List Rc} {ws : List Int} {hz : List (Option Int)} {tb af : List Pt} {nw : List (Int × Option Int)} {ts : List Int} {hz0 : Option Int} (S : SI cm ws hz tb) (hw : WsOk ws) (hH : HzOk ws hz) (ht : Srt tb) (hA : After tb nw af) (h0 : hz[0]? = some hz0)
    (hts : ∀ t, t ∈ ts ↔ t ∈ nw.map (·.1)) (hn : ∀ h, hz0 = some h → ∀ t ∈ ts, h ≤ t) (R : RnwOk cm cm' (keysOf ws ts) af) : SI cm' ws hz af := by
  refine ⟨fun r' hr' => ?_, fun i w hi p hp hh => ?_⟩
  · rcases R.a r' hr' with ⟨hk, hF⟩ | ⟨hk, r, hr, e1, e2, e3⟩
    · obtain ⟨hwm, hsm⟩ := mem_keysOf.mp hk
      obtain ⟨i, hi⟩ := mem_ws hwm
      obtain ⟨h1, h2⟩ := key_hz hw hH h0 hn hi hsm
      exact ⟨i, hi, h1, h2, hF⟩
    · obtain ⟨i, h1, h2, h3, h4⟩ := S.inR r hr
      rw [e1] at h1 h2 h4
      rw [e2] at h2 h3 h4
      have hb := hw.bd _ (List.mem_of_getElem? h1)
      refine ⟨i, h1, h2, h3, ?_⟩
      rw [← e3, h4, pin_same ht hA fun t m z => hk (mem_keysOf.mpr ⟨List.mem_of_getElem? h1, mem_celsOf.mpr ⟨t, (hts t).mpr m, cel_eq hb.1 h2 z.1 z.2⟩⟩)]
  · have hb := hw.bd _ (List.mem_of_getElem? hi)
    rcases (hA.mem p.1 p.2).mp hp with z | ⟨_, z⟩
    · have hk : (w, cel p.1 w) ∈ keysOf ws ts := mem_keysOf.mpr ⟨List.mem_of_getElem? hi, mem_celsOf.mpr ⟨p.1, (hts p.1).mpr (List.mem_map.mpr ⟨_, z, rfl⟩), rfl⟩⟩
      rcases R.c _ hk with ⟨r', h1, h2, h3⟩ | h1
      · exact ⟨r', h1, h2, h3⟩
      · have h2 := fo_inj_nil h1
        have h3 : p ∈ pin af (cel p.1 w) (cel p.1 w + w) := (mem_cell hb.1 (cel_dvd _ _)).mpr ⟨hp, rfl⟩
        have h4 : pin af (cel p.1 w) (cel p.1 w + w) = [] := h2
        rw [h4] at h3
        cases h3
    · obtain ⟨r, hr, e1, e2⟩ := S.cov i w hi p z hh
      obtain ⟨r', hr', e3, e4⟩ := R.b r hr
      exact ⟨r', hr', e3.trans e1, e4.trans e2⟩
theorem fm_congr {α β : Type} {f g : α → Option β} : ∀ {l : List α}, (∀ x ∈ l, f x = g x) → l.filterMap f = l.filterMap g
  | [], _ => rfl
  | x :: r, h => by
    rw [List.filterMap_cons, List.filterMap_cons, h x (by simp), fm_congr fun y hy => h y (by simp [hy])]
theorem chg_eq {cm : List Rc} {ws : List Int} {hz : List (Option Int)} {tb af : List Pt} {ts : List Int} {hz0 : Option Int} (S : SI cm ws hz tb) (hw : WsOk ws) (hH : HzOk ws hz) (h0 : hz[0]? = some hz0) (hn : ∀ h, hz0 = some h → ∀ t ∈ ts, h ≤ t) :
    (keysOf ws ts).filterMap (chg1 cm af) = (keysOf ws ts).filterMap (chg2 tb af) := by
  refine fm_congr fun k hk => ?_
  obtain ⟨w, s⟩ := k
  obtain ⟨hwm, hsm⟩ := mem_keysOf.mp hk
  obtain ⟨i, hi⟩ := mem_ws hwm
  obtain ⟨h1, h2⟩ := key_hz hw hH h0 hn hi hsm
  have e := S.fd hw hi h1 h2
  unfold chg1 chg2
  simp only [e]
/-! ### horizons move on -/
theorem newHs_get {ws : List Int} {ks hs : List (Option Int)} {now : Int} {g : Nat} (hg : g < ks.length) : (newHs ws ks hs now)[g]? = some (newH1 ws g (ks.getD g none) (hs.getD g none) now) := by
  unfold newHs
  rw [List.getElem?_map, List.getElem?_range hg]
  rfl
theorem newH1_le {ws : List Int} {g : Nat} {k : Option Int} {o now : Int} : ∃ y, newH1 ws g k (some o) now = some y ∧ o ≤ y := by
  cases k with
  | none => exact ⟨o, rfl, Int.le_refl o⟩
  | some k => exact ⟨_, rfl, le_mxI_l _ _⟩
theorem HzOk.step {ws : List Int} {ks hs : List (Option Int)} {now : Int} (hw : WsOk ws) (hK : KsOk ws.length ks) (h : HzOk ws hs) : HzOk ws (newHs ws ks hs now) := by
  have hl := hK.len
  have hu : ∀ g, 0 < unitOf ws g := fun g => by
    obtain ⟨u, _, e, hu, _⟩ := unit_at hw g
    rw [e]
    exact hu
  have get : ∀ (g : Nat) x, (newHs ws ks hs now)[g]? = some (some x) → g < ks.length ∧ newH1 ws g (ks.getD g none) (hs.getD g none) now = some x := fun g x e => by
    have hg : g < ks.length := by
      have := (List.getElem?_eq_some_iff.mp e).1
      simpa [newHs] using this
    rw [newHs_get hg] at e
    exact ⟨hg, Option.some.inj e⟩
  have hsg : ∀ g, g < ks.length → hs[g]? = some (hs.getD g none) := fun g hg => by
    rw [List.getD_eq_getElem?_getD, List.getElem?_eq_getElem (by rw [h.len]; omega)]
    rfl
  have ksg : ∀ g, g < ks.length → ks[g]? = some (ks.getD g none) := fun g hg => by
    rw [List.getD_eq_getElem?_getD, List.getElem?_eq_getElem hg]
    rfl
  refine ⟨by simp [newHs, hl], fun g x e => ?_, fun g g' x' hgg e => ?_⟩
  · obtain ⟨hg, e⟩ := get g x e
    have ho := hsg g hg
    generalize hs.getD g none = o at e ho
    generalize ks.getD g none = k at e
    cases k with
    | none =>
      have e : o = some x := e
      rw [e] at ho
      exact h.dvd g x ho
    | some k =>
      cases o with
      | none =>
        have e : (now - k) / unitOf ws g * unitOf ws g = x := Option.some.inj e
        rw [← e]
        exact cel_dvd _ _
      | some o =>
        have e : mxI o ((now - k) / unitOf ws g * unitOf ws g) = x := Option.some.inj e
        rw [← e]
        unfold mxI
        split
        · exact cel_dvd _ _
        · exact h.dvd g o ho
  · obtain ⟨hg', e⟩ := get g' x' e
    have hg : g < ks.length := by omega
    have ho := hsg g hg
    have ho' := hsg g' hg'
    have hk := ksg g hg
    have hk' := ksg g' hg'
    rw [newHs_get hg]
    generalize hs.getD g none = o at ho ⊢
    generalize hs.getD g' none = o' at e ho'
    generalize ks.getD g none = k at hk ⊢
    generalize ks.getD g' none = k' at e hk'
    have old : ∀ y', o' = some y' → ∃ y, newH1 ws g k o now = some y ∧ y' ≤ y := fun y' e' => by
      rw [e'] at ho'
      obtain ⟨y, h1, h2⟩ := h.mono g g' y' hgg ho'
      rw [ho] at h1
      have h1 := Option.some.inj h1
      rw [h1]
      obtain ⟨z, h3, h4⟩ := newH1_le (ws := ws) (g := g) (k := k) (o := y) (now := now)
      exact ⟨z, h3, by omega⟩
    have fresh : ∀ kk, k' = some kk → ∃ y, newH1 ws g k o now = some y ∧ (now - kk) / unitOf ws g' * unitOf ws g' ≤ y := fun kk e' => by
      rw [e'] at hk'
      cases k with
      | none =>
        have := hK.none_suf (g := g) (g' := g') (by omega) hk hg'
        rw [hk'] at this
        cases this
      | some k =>
        have hle := hK.mono hgg hk hk'
        have hud : unitOf ws g ∣ unitOf ws g' := by
          obtain ⟨u, hu1, e1, _⟩ := unit_at hw g
          obtain ⟨u', hu1', e1', _⟩ := unit_at hw g'
          rw [e1, e1']
          exact ws_dvd hw (by omega) hu1 hu1'
        have c1 : cel (now - kk) (unitOf ws g') ≤ now - k := by
          have := cel_le (t := now - kk) (hu g')
          omega
        have c2 : cel (now - kk) (unitOf ws g') ≤ cel (now - k) (unitOf ws g) := le_cel (hu g) (Int.dvd_trans hud (cel_dvd _ _)) c1
        cases o with
        | none => exact ⟨_, rfl, c2⟩
        | some o => exact ⟨_, rfl, Int.le_trans c2 (le_mxI_r _ _)⟩
    cases k' with
    | none =>
      have e : o' = some x' := e
      obtain ⟨y, h1, h2⟩ := old x' e
      exact ⟨y, by rw [h1], h2⟩
    | some kk =>
      obtain ⟨y2, h3, h4⟩ := fresh kk rfl
      cases o' with
      | none =>
        have e : (now - kk) / unitOf ws g' * unitOf ws g' = x' := Option.some.inj e
        exact ⟨y2, by rw [h3], by omega⟩
      | some y' =>
        have e : mxI y' ((now - kk) / unitOf ws g' * unitOf ws g') = x' := Option.some.inj e
        obtain ⟨y, h1, h2⟩ := old y' rfl
        rw [h3] at h1
        have h1 := Option.some.inj h1
        refine ⟨y2, by rw [h3], ?_⟩
        unfold mxI at e
        split at e <;> omega
end Tg
/-! TgL2 -/
set_option Elab.async false
set_option linter.all false
set_option maxRecDepth 100000
set_option maxHeartbeats 4000000
/-! the law: renewed -/
namespace Tg
open PySem PySem.Spec PyProof.Rows L2 LamX NdefX TgM
theorem hmR {K : PySem.W.Frag} {mg : Str → Option Value} {base : Heap} (T : Ev K mg base) : (T.tR.2, (("_law_renewed" : Str) ++ (".<locals>." : Str)) ++ ("<lambda>" : Str)) ∈ T.T := by
  have e : (("_law_renewed" : Str) ++ (".<locals>." : Str)) ++ ("<lambda>" : Str) = "_law_renewed.<locals>.<lambda>" := by decide +kernel
  rw [e]
  exact List.mem_cons_of_mem _ (List.mem_cons_of_mem _ List.mem_cons_self)
theorem huR {K : PySem.W.Frag} {mg : Str → Option Value} {base : Heap} (T : Ev K mg base) : ∀ p ∈ T.T, p.1 = T.tR.2 → p.2 = (("_law_renewed" : Str) ++ (".<locals>." : Str)) ++ ("<lambda>" : Str) := by
  have e : (("_law_renewed" : Str) ++ (".<locals>." : Str)) ++ ("<lambda>" : Str) = "_law_renewed.<locals>.<lambda>" := by decide +kernel
  rw [e]
  intro p hp h
  rcases List.mem_cons.mp hp with rfl | hp
  · exact absurd h T.nSR
  · rcases List.mem_cons.mp hp with rfl | hp
    · exact absurd h T.nMR
    · rw [List.mem_singleton.mp hp]
theorem tellFree {names nm2 : List (Str × NameKind)} (h : (names.all fun y => decide (y.2 = .free → nm2.lookup y.1 = some .cell ∨ nm2.lookup y.1 = some .free)) = true) : ∀ y ∈ names, y.2 = .free → nm2.lookup y.1 = some .cell ∨ nm2.lookup y.1 = some .free := fun y hy => of_decide_eq_true (List.all_eq_true.mp h y hy)
theorem merge_new : ∀ (b a : List (Key × V)), ((a ++ b).map (·.1)).Nodup → mergeK a b = a ++ b
  | [], a, _ => by simp [mergeK]
  | p :: r, a, h => by
    have hn : valV a p.1 = none := by
      cases e : valV a p.1 with
      | none => rfl
      | some v =>
        have m := valV_in e
        rw [List.map_append, List.nodup_append] at h
        exact absurd rfl (h.2.2 _ m p.1 (by simp))
    show mergeK (putK a p.1 p.2) r = _
    rw [putK_new _ hn, merge_new r (a ++ [(p.1, p.2)]) (by simpa using h)]
    simp
theorem eqv_dC (c : Chg) : PyData.eqv (dC c) (dC c) = true := by
  obtain ⟨a, b, F, G⟩ := c
  have h1 := eqv_dFd F F
  have h2 := eqv_dFd G G
  simp only [decide_true] at h1 h2
  simp [dC, PyData.eqv, PyData.eqvAll, h1, h2]
theorem eqvAll_dC : ∀ l : List Chg, PyData.eqvAll (l.map dC) (l.map dC) = true
  | [] => by simp [PyData.eqvAll]
  | c :: r => by
    rw [List.map_cons]
    simp [PyData.eqvAll, eqv_dC, eqvAll_dC r]
theorem Kp.dpvD {K : PySem.W.Frag} {C : Addr} {T : List (Addr × Str)} {t : Addr} {kvs : List (Key × V)} {H H' : Hp} (ht : H t = some (.dK kvs)) (k : Kp C T [t] H H') {v : V} {d : PyData} (h : Dp K H v d) : Dp K H' v d := dpSt (fun a xs q => by
    unfold SqL at q ⊢
    rcases q with q | q
    · refine .inl (q.elim (fun e => .inl (k.at e fun m => ?_)) fun ⟨ob, e⟩ => .inr ⟨ob, k.at e fun m => ?_⟩)
      · rw [List.mem_singleton.mp m, ht] at e
        cases e
      · rw [List.mem_singleton.mp m, ht] at e
        cases e
    · exact .inr q) (fun _ _ q => k.sqt q) d v h
def ks1 : List Str := ["number"]
section
variable {P : Program} {w : World} {K : PySem.W.Frag} {mg : Str → Option Value} {base : Heap}
theorem b_renew {f : Addr} {fd : FuncData} (F : FunD K "renew" "Grains.renew" (defArgs s_renew) (defBody s_renew) (defScope s_renew) [] [] f fd) :
    KBn K fd ["self", "place", "times", "points_in", "number"] 4 ks1 (fun us ws => us ++ ws) (fun vs zs => vs ++ zs) := by
  obtain ⟨oc, od, dV, kV, doc, pm, an, cdv, ct, osl, rfl, lk, hcd, hD, hK⟩ := F.ex
  rcases hD with ⟨_, rfl⟩ | ⟨e, _⟩
  · exact ⟨fun s us ws X l1 l2 => match us, l1, ws, l2 with | [_, _, _, _], _, [_], _ => .of_eq rfl, fun r1 r2 => r1.append r2⟩
  · exact absurd rfl e
theorem ers_kp {C : Addr} {T : List (Addr × Str)} {M : List Addr} {H H' : Hp} {c : Addr} {ob : Obj} {v : V} (hc : H c = none) (hm : c ∉ M) (k : Kp C T M (upd H c (.frz ob (TgL.CelO c v))) H') : Kp C T M H (TgL.ers H' c) := by
  have hc' : H' c = some (.frz ob (TgL.CelO c v)) := k.at upd_same hm
  refine ⟨fun b o e n => ?_, fun t => ?_⟩
  · have hb : b ≠ c := ne_of_none e hc
    rw [TgL.ers_ne hb]
    exact k.st b o (by rw [upd_ne hb]; exact e) n
  · have t2 := k.tb (t.ext (Same.new hc))
    intro q hq
    obtain ⟨ps, a1, a2, a3⟩ := t2 q hq
    refine ⟨ps, ?_, a2, fun pos cv hcv => ?_⟩
    · rw [TgL.ers_ne fun z => by rw [z, hc'] at a1; cases a1]
      exact a1
    · obtain ⟨d, a4, a5⟩ := a3 pos cv hcv
      refine ⟨d, a4, ?_⟩
      rw [TgL.ers_ne fun z => by
        rw [z, hc'] at a5
        unfold CodeO at a5
        cases a5]
      exact a5
theorem ers_k1 {C : Addr} {T : List (Addr × Str)} {H : Hp} {c : Addr} {ob : Obj} {v : V} (hc : H c = some (.frz ob (TgL.CelO c v))) : Kp C T [c] H (TgL.ers H c) := by
  refine ⟨fun b o e n => ?_, fun t q hq => ?_⟩
  · by_cases hb : b = c
    · subst hb
      rw [hc] at e
      cases e
      rcases n with z | z | ⟨_, _, z⟩
      · exact absurd (by simp) z.1
      · exact z.elim
      · cases z
    · rw [TgL.ers_ne hb]
      exact e
  · obtain ⟨ps, a1, a2, a3⟩ := t q hq
    refine ⟨ps, ?_, a2, fun pos cv hcv => ?_⟩
    · rw [TgL.ers_ne fun z => by rw [z, hc] at a1; cases a1]
      exact a1
    · obtain ⟨d, a4, a5⟩ := a3 pos cv hcv
      refine ⟨d, a4, ?_⟩
      rw [TgL.ers_ne fun z => by
        rw [z, hc] at a5
        unfold CodeO at a5
        cases a5]
      exact a5
def sp_renewed (T : Ev K mg base) : Sp := fun vs H Q _ => ∃ (g wt cd ed t n : Addr) (ws : List Int) (cm : List Rc) (tb : List Pt) (nw : List (Int × Option Int)) (hz : List (Option Int)) (hz0 : Option Int) (a : Int), vs = [.ref g, .ref t, .ref n, oI hz0, .int a] ∧ Gr T.cG T.cF H g wt cd ed false ws cm ∧ TabAt H t tb ∧ Bd tb ∧ NewsAt H n nw ∧
  SI cm ws hz tb ∧ HzOk ws hz ∧ hz[0]? = some hz0 ∧ (∀ h, hz0 = some h → ∀ x ∈ nw.map (·.1), h ≤ x) ∧ tb.length + nw.length ≤ 10000 ∧ cm.length + 4 * nw.length ≤ 10000 ∧ Tabs T.T H ∧
  ∀ H' cm' af, Kp T.cF T.T [g, cd, t] H H' → Gr T.cG T.cF H' g wt cd ed false ws cm' → TabAt H' t af → Bd af → SI cm' ws hz af → After tb nw af → af.length ≤ tb.length + nw.length → cm'.length ≤ cm.length + 4 * nw.length → Q (.bl true) H'
theorem sc_law_renewed : FnScope ["_law_grains", "_law_table", "_law_news_here", "_law_horizon", "_law_a_number", "_law_after", "_law_left", "_law_teller", "_law_told_here", "_law_due_here", "_law_time_here", "_law_row"] ["_law_grains", "_law_table", "_law_news_here", "_law_horizon", "_law_a_number"] (defScope s_law_renewed) := ⟨rfl, rfl, rfl, by decide +kernel, rfl, by decide +kernel, by decide +kernel⟩
theorem c_law_renewed (T : Ev K mg base) : C8.Cal P w K mg base 8 "_law_renewed" (sp_renewed T) [] := by
  obtain ⟨ff, fd, F, hmg, hcd0⟩ := T.d_law_renewed
  obtain ⟨fr, fdr, Fr, hMr⟩ := T.e_renew
  have hbr := b_renew Fr
  refine ⟨ff, fd, ["_law_grains", "_law_table", "_law_news_here", "_law_horizon", "_law_a_number"], [], okC F sc_law_renewed (fun vs H Q E h => by obtain ⟨_, _, _, _, _, _, _, _, _, _, _, _, _, rfl, _⟩ := h; rfl) (fun cdv A outer s H vs Q E hcd hr h => ?_), hmg, F.kp, F.bindsN (fun _ _ _ _ _ _ us hl => match us, hl with | [_, _, _, _, _], _ => rfl), .nil⟩
  obtain ⟨g, wt, cd, ed, t, n, ws, cm, tb, nw, hz, hz0, a, rfl, hG, hT, bT, hN, hS, hH, h0, hnw, hl1, hl2, hTb, k⟩ := h
  have hcode : cdv = .ref T.tR.1 := hcd.symm.trans hcd0
  have hu := hu_of hr
  refine ⟨_, (pss_cons (ps_set (i := 5) sc_law_renewed.nd rfl (Or.inr rfl) (C8.pe_c (c_law_changed T) hr (by decide) rfl (pa_cons (pv 1) (pa_cons (pv 2) pa_nil))))
      (pss_cons (ps_set (i := 6) sc_law_renewed.nd rfl (Or.inr rfl) (pe_lc (own := [("_law_time_here", 10)]) rfl sc_law_renewed.nd (pi_list (pe_callB (call_sortedDA rfl) (by rfl) T.b_sorted (by decide +kernel) (pa_cons (pv 5) pa_nil))) (blkOk_by (own := [("_law_time_here", 10)]) (N := ["_law_grains", "_law_table", "_law_news_here", "_law_horizon", "_law_a_number", "_law_after", "_law_left", "_law_teller", "_law_told_here", "_law_due_here", "_law_time_here", "_law_row"]) (sc := defScope s_law_renewed) (by decide +kernel)) (fun _ _ _ _ _ => (pg_name (i := 10) sc_law_renewed.nd rfl (Or.inl rfl))) (fun _ _ _ _ _ => (pts_one (PW.pt (pw_or (pt_cmpR op_isN (pv 3) pe_non (nomark _)) (pw_or1 (pt_cmpR op_ge (pv 10) (pv 3) (nomark _))))))) (fun _ _ _ _ _ => (pe_tup (pa_cons (pv 10) (pa_cons (pe_dget hu (pv 5) (pv 10) (fun _ _ => rfl)) pa_nil))))))
      (pss_cons (ps_set (i := 7) sc_law_renewed.nd rfl (Or.inl rfl) (TgL.pe_lam T.bR hcode (hmR T) (huR T) (tellFree (nm2 := (defScope s_law_renewed).names) (by decide +kernel))))
      (pss_cons (ps_set (i := 8) sc_law_renewed.nd rfl (Or.inl rfl) (TgS.pe_methKC (y := "_law_left") (i := 6) rfl (by rfl) (by rfl) (pv 0) T.clG hMr (k_renew T Fr) hr hbr (pa_cons pe_int (pa_cons (pe_callB (call_sortedDA rfl) (by rfl) T.b_sorted (by decide +kernel) (pa_cons (pv 2) pa_nil)) (pa_cons (pv 7) pa_nil))) (pk_cons (pv 4) pk_nil)))
      (pss_cons (ps_set (i := 9) sc_law_renewed.nd rfl (Or.inl rfl) (C8.pe_c (c_law_due T) hr (by decide) rfl (pa_cons (pe_fldC T.clG (T.naG _ (by decide)) (pv 0)) (pa_cons (pv 1) (pa_cons (pv 5) (pa_cons (pe_callB (call_sortedDA rfl) (by rfl) T.b_sorted (by decide +kernel) (pa_cons (pv 2) pa_nil)) pa_nil))))))
      (pss_cons (ps_expr (pe_dclear (pv 1)))
      (pss_cons (ps_expr (pe_bm PySem.F.plainAttrs_dict PySem.F.slot_dict_update PySem.F.type_dict_update TgS.mt_updD (pv 1) (pa_cons (pv 5) pa_nil)))
      (pss_one (ps_ret (pe_cmpR (op_eqD hr.units) (C8.pe_c (c_law_told T) hr (by decide) rfl (pa_cons (pv 8) pa_nil)) (pv 9) (nomark _))))))))))), ?_⟩
  refine ⟨_, rfl, _, rfl, t, n, tb, nw, rfl, hT, hN, hl1, fun H1 pa af k1 hfr hT1 hA hal => ?_⟩
  have tpa : t ≠ pa := hfr t _ hT.dc
  have bA : Bd af := fun p hp => by
    rcases (hA.mem p.1 p.2).mp hp with z | ⟨_, z⟩
    · exact hN.bd _ _ z
    · exact bT p z
  refine ⟨_, rfl, pa, _, af.map (·.1), rfl, .inl hT1.dc, tbK_keys af, fun ys q hp hs nq => ?_⟩
  have ey := perm_up hp hs hT1.srt.up
  subst ey
  refine ⟨q, rfl, ⟨_, SqL.of upd_same⟩, fun D nD => ?_⟩
  have s0 : Kp T.cF T.T [] H1 (upd H1 q (.lst ((af.map (·.1)).map V.int))) := Kp.new nq
  have hl0 : ((af.map (·.1)).map V.int).length = af.length := by rw [List.length_map, List.length_map]
  let gp : Pt → Bool := leftB hz0
  have hsz : ∀ i, i < af.length → i < sizeLine := fun i h => Nat.lt_of_lt_of_le h (Nat.le_trans hT1.len (by decide))
  refine lc_it (walk_list (K := K) (a := q) (xs := (af.map (·.1)).map V.int)) (LcP T.cF T.T (upd H1 q (.lst ((af.map (·.1)).map V.int))) D fun i acc H' => ∃ l : List (Addr × Pt), acc = l.map (fun x => V.ref x.1) ∧ (∀ x ∈ l, H' x.1 = some (.tup [.int x.2.1, .int x.2.2])) ∧ l.map (·.2) = (af.take i).filter gp)
    (lc0 nD ⟨[], rfl, fun x hx => by simp at hx, rfl⟩) (fun i H' _ ⟨acc, _, _, k2, _⟩ => k2.lst (SqL.of upd_same)) ?_ ?_
  · rintro i x H3 H4 hi ⟨acc, ha, hl, k2, l, rfl, hx, hlm⟩ ⟨rfl, ex⟩
    rw [hl0] at hi
    obtain ⟨p, hp⟩ : ∃ p, af[i]? = some p := ⟨_, List.getElem?_eq_getElem hi⟩
    have ex : x = .int p.1 := by
      rw [List.map_map] at ex
      exact mapGet (f := V.int ∘ fun p : Pt => p.1) (z := p) ex hp
    subst ex
    have hpm : p ∈ af := List.mem_of_getElem? hp
    have htab : H4 pa = some (.dK (tbK af)) := k2.any (s0.any hT1.dc)
    have hf := filter_snoc (p := gp) hp
    have g1 : DGet H4 pa (.int p.1) (some (.int p.2)) := by
      have := DGet.k (k := Sum.inl p.1) htab
      rw [valV_tbK hT1.srt hpm] at this
      exact this
    have yes : ∀ r, gp p = true → H4 r = none → ∃ acc', (upd H4 r (.tup [.int p.1, .int p.2])) D = some (.lst acc') ∧ acc'.length < sizeLine ∧ LcP T.cF T.T (upd H1 q (.lst ((af.map (·.1)).map V.int))) D (fun i acc H' => ∃ l : List (Addr × Pt), acc = l.map (fun x => V.ref x.1) ∧ (∀ x ∈ l, H' x.1 = some (.tup [.int x.2.1, .int x.2.2])) ∧ l.map (·.2) = (af.take i).filter gp) (i + 1) (upd (upd H4 r (.tup [.int p.1, .int p.2])) D (.lst (acc' ++ [.ref r]))) := fun r hg nr => by
      refine lcYes (hsz i hi) nD k2 ha hl (Kp.new nr) ⟨l ++ [(r, p)], by simp, fun z hz => ?_, ?_⟩
      · have kD : Kp T.cF T.T [D] (upd H4 r (.tup [.int p.1, .int p.2])) (upd (upd H4 r (.tup [.int p.1, .int p.2])) D (.lst (l.map (fun x => V.ref x.1) ++ [.ref r]))) := Kp.set ((Kp.new (C := T.cF) (T := T.T) (M := []) nr).any ha) (by simp) trivial
        rcases List.mem_append.mp hz with hz | hz
        · exact kD.tup ((Kp.new (C := T.cF) (T := T.T) (M := []) nr).tup (hx z hz))
        · rw [List.mem_singleton.mp hz]
          exact kD.tup upd_same
      · rw [List.map_append, hlm, hf, if_pos hg]
        rfl
    refine ⟨rfl, _, rfl, rfl, _, rfl, ?_⟩
    rw [oI_non]
    cases hz0 with
    | none => exact iteT (iteT ⟨_, rfl, _, rfl, _, rfl, pa, .int p.2, rfl, g1, two_le, fun r nr => yes r rfl nr⟩)
    | some h =>
      refine iteF ⟨_, rfl, _, rfl, _, _, rfl, rfl, _, rfl, ?_⟩
      refine ite2 (fun e => ⟨_, rfl, _, rfl, _, rfl, pa, .int p.2, rfl, g1, two_le, fun r nr => yes r e nr⟩) (fun e => lcNo k2 ha hl (Kp.refl _) ⟨l, rfl, hx, ?_⟩)
      rw [hlm, hf, if_neg (show ¬ gp p = true from e), List.append_nil]
  · rintro H3 ⟨acc, ha, hl, k2, l, rfl, hx, hlm⟩
    rw [hl0, List.take_length] at hlm
    have hlm : l.map (·.2) = leftOf hz0 af := hlm
    have k3 : Kp T.cF T.T [] H H3 := k1.trans (s0.trans k2)
    have hPl : PtsAt K H3 D l := ⟨SqL.of ha, hx⟩
    have hll : l.length ≤ 10000 := by
      have := congrArg List.length hlm
      rw [List.length_map] at this
      rw [this]
      exact Nat.le_trans (List.length_filter_le _ _) hT1.len
    refine ⟨k3.tb hTb, fun pf lc H4 x4 _ t4 _ m4 n4 => ?_⟩
    have k4 : Kp T.cF T.T [] H H4 := k3.trans (Kp.lam x4 t4)
    have hG4 := hG.kp k4 (by simp) (by simp)
    obtain ⟨⟨dx4, hg4⟩, hw4, hc4, wok⟩ := id hG4
    have hN4 := hN.kp k4 (by simp)
    refine ⟨_, rfl, g, dx4, _, rfl, hg4, lk_renew _ _ _ _, ?_⟩
    refine ⟨_, rfl, n, _, nw.map (·.1), rfl, .inl hN4.dc, nwK_keys nw, fun ts tl hp2 hs2 ntl => ?_⟩
    have k5 : Kp T.cF T.T [] H4 (upd H4 tl (.lst (ts.map V.int))) := Kp.new ntl
    have hts : ∀ z, z ∈ ts ↔ z ∈ nw.map (·.1) := fun z => hp2.mem_iff
    have htl : ts.length = nw.length := by rw [hp2.length_eq, List.length_map]
    have hup := up_of hs2 (hp2.nodup_iff.mpr hN.nd)
    have hnl := hN.len
    have htsh : ∀ h, hz0 = some h → ∀ z ∈ ts, h ≤ z := fun h e z hz => hnw h e z ((hts z).mp hz)
    refine ⟨_, rfl, _, rfl, rfl, rfl, _, rfl, fun c ob hc nc => ?_⟩
    have kc : Kp T.cF T.T [] (upd H4 tl (.lst (ts.map V.int))) (upd (upd H4 tl (.lst (ts.map V.int))) c (.frz ob (TgL.CelO c (.ref D)))) := Kp.new nc
    have k5c := k5.trans kc
    have hTell : TellAt P w K mg base (upd (upd H4 tl (.lst (ts.map V.int))) c (.frz ob (TgL.CelO c (.ref D)))) pf (leftOf hz0 af) := by
      refine ⟨_, c, ob, D, l, k5c.any m4 TgL.lamO_tbl, k5c.any n4 (fun ps z => by unfold CodeO at z; cases z), lok_tell _ _ c lc ?_, ?_, upd_same, ⟨k5c.lst (SqL.of ((Kp.lam (C := T.cF) (M := []) x4 t4).any ha)), fun y hy => k5c.tup ((Kp.lam (C := T.cF) (M := []) x4 t4).tup (hx y hy))⟩, hlm, hll⟩
      · show [(("_law_left" : Str), _)] = _
        rw [hc]
        rfl
      · show [(("_law_left" : Str), _)] = _
        rw [hc]
        rfl
    refine ⟨g, wt, cd, ed, tl, pf, ws, cm, ts, af, leftOf hz0 af, a, rfl, hG4.kp k5c (by simp) (by simp), kc.lst (SqL.of upd_same), hTell, anewOk hS wok hH hT.srt hA bA h0 hts (by omega) htsh, k5c.tb (k4.tb hTb), by omega, fun H6 ch cm' rows kR hG6 hRw hC6 hrows hcl => ?_⟩
    have cg : c ∉ [g, cd] := by
      intro m
      rcases List.mem_cons.mp m with e | m
      · have := k5.any hg4
        rw [← e, nc] at this
        cases this
      · have := k5.any hc4.dc
        rw [← List.mem_singleton.mp m, nc] at this
        cases this
    have kE : Kp T.cF T.T [g, cd] (upd H4 tl (.lst (ts.map V.int))) (TgL.ers H6 c) := ers_kp nc cg kR
    have hc6 : H6 c = some (.frz ob (TgL.CelO c (.ref D))) := kR.at upd_same cg
    have k1c : Kp T.cF T.T [c] H6 (TgL.ers H6 c) := ers_k1 hc6
    obtain ⟨⟨dx6, hg6⟩, _, hcs6, _⟩ := id hG6
    have z1 : g ≠ c := fun z => by rw [z, hc6] at hg6; cases hg6
    have z2 : cd ≠ c := fun z => by
      have := hcs6.dc
      rw [z, hc6] at this
      cases this
    have z3 : ch ≠ c := fun z => by
      have := hC6.ls
      rw [z, hc6] at this
      cases this
    have hG7 := hG6.kp k1c (by simpa using z1) (by simpa using z2)
    have hC7 := hC6.kp k1c (by simpa using z3)
    have kF : Kp T.cF T.T [g, cd] H (TgL.ers H6 c) := ((k4.trans k5).mono (by simp)).trans kE
    have tg : t ∉ [g, cd] := by
      intro m
      rcases List.mem_cons.mp m with e | m
      · obtain ⟨⟨dx, hg⟩, _⟩ := id hG
        rw [← e, hT.dc] at hg
        cases hg
      · have := hG.cs.dc
        rw [← List.mem_singleton.mp m, hT.dc] at this
        cases this
    have ng : n ∉ [g, cd] := by
      intro m
      rcases List.mem_cons.mp m with e | m
      · obtain ⟨⟨dx, hg⟩, _⟩ := id hG
        rw [← e, hN.dc] at hg
        cases hg
      · have := hG.cs.dc
        rw [← List.mem_singleton.mp m, hN.dc] at this
        cases this
    have k17 : Kp T.cF T.T [g, cd] H1 (TgL.ers H6 c) := (((s0.trans k2).trans ((Kp.lam x4 t4).trans k5)).mono (by simp)).trans kE
    have pg : pa ∉ [g, cd] := by
      intro m
      rcases List.mem_cons.mp m with e | m
      · obtain ⟨⟨dx, hg⟩, _⟩ := id (hG.kp k1 (by simp) (by simp))
        rw [← e, hT1.dc] at hg
        cases hg
      · have := (hG.kp k1 (by simp) (by simp)).cs.dc
        rw [← List.mem_singleton.mp m, hT1.dc] at this
        cases this
    have hT7 := hT.kp kF tg
    have hA7 := hT1.kp k17 pg
    have hN7 := hN.kp kF ng
    obtain ⟨⟨dx7, hg7⟩, hw7, hcs7, _⟩ := id hG7
    refine ⟨_, rfl, g, dx7, _, _, rfl, hg7, lk_widths _ _ _ _, _, rfl, _, rfl, _, rfl, n, _, nw.map (·.1), rfl, .inl hN7.dc, nwK_keys nw, fun ts2 tl2 hp3 hs3 ntl2 => ?_⟩
    have ets : ts2 = ts := ints_ext (up_of hs3 (hp3.nodup_iff.mpr hN.nd)) hup fun z => by rw [hp3.mem_iff, hp2.mem_iff]
    subst ets
    have k8 : Kp T.cF T.T [] (TgL.ers H6 c) (upd (TgL.ers H6 c) tl2 (.lst (ts2.map V.int))) := Kp.new ntl2
    refine ⟨wt, t, pa, tl2, ws, ts2, tb, af, rfl, hw7.kp k8, wok, hT7.kp k8 (by simp), hA7.kp k8 (by simp), bT, bA, SqL.of upd_same, by omega, fun H8 v8 k89 d8 => ?_⟩
    have k78 := k8.trans k89
    have hT8 := hT7.kp k78 (by simp)
    have hA8 := hA7.kp k78 (by simp)
    have hG8 := hG7.kp k78 (by simp) (by simp)
    have hC8 := hC7.kp k78 (by simp)
    refine ⟨_, rfl, .inr (.inr (.inl ⟨rfl, .inl ⟨_, hT8.dc⟩⟩)), t, _, rfl, rfl, hT8.dc, ?_⟩
    have k9 : Kp T.cF T.T [t] H8 (upd H8 t (.dK [])) := Kp.set hT8.dc (by simp) trivial
    have hA9 := hA8.kp k9 (by simpa using tpa.symm)
    refine ⟨_, rfl, .inr (.inr (.inl ⟨rfl, .inl ⟨_, upd_same⟩⟩)), _, rfl, t, pa, [], tbK af, rfl, rfl, tpa, upd_same, hA9.dc, ?_, ?_⟩
    · have := hT1.len
      unfold tbK
      rw [List.length_map]
      exact Nat.le_trans (by simpa using this) (by decide : 10000 ≤ sizeLine)
    have em : mergeK [] (tbK af) = tbK af := by
      rw [merge_new]
      · rfl
      · rw [List.nil_append, tbK_keys]
        exact List.Pairwise.map _ (fun x y hxy e => hxy (Sum.inl.inj e)) hT1.srt.up.nd
    rw [em]
    have k10 : Kp T.cF T.T [t] (upd H8 t (.dK [])) (upd (upd H8 t (.dK [])) t (.dK (tbK af))) := Kp.set upd_same (by simp) trivial
    have k810 := k9.trans k10
    have tc : t ≠ ch := fun z => by
      have := hC8.ls
      rw [← z, hT8.dc] at this
      cases this
    have hC10 := hC8.kp k810 (by simpa using tc.symm)
    have hkl : rows.length ≤ 10000 := by
      have h1 := congrArg List.length hrows
      rw [List.length_map] at h1
      have h2 := List.length_filterMap_le (chg1 cm af) (keysOf ws ts2)
      have h3 := keysOf_len ts2 ws
      have h4 := Nat.mul_le_mul_right ts2.length wok.len
      omega
    refine ⟨_, rfl, ch, rows, rfl, hC10, hkl, fun H11 v11 k11 d11 => ?_⟩
    have d8b := k11.dpv (k10.dpvD (kvs := []) upd_same (k9.dpvD hT8.dc d8))
    rw [hrows, chg_eq hS wok hH h0 htsh] at d11
    refine ⟨_, rfl, _, _, d11, d8b, (sd_chs _).sh (by decide), (sd_chs _).sh (by decide), ?_⟩
    have eq1 : ∀ l : List Chg, PyData.eqv (.list (l.map dC)) (.list (l.map dC)) = true := fun l => by
      have := eqvAll_dC l
      simp [PyData.eqv, this]
    rw [eq1]
    have tgn : g ≠ t ∧ cd ≠ t := ⟨fun z => tg (by rw [← z]; simp), fun z => tg (by rw [← z]; simp)⟩
    have kAll : Kp T.cF T.T [g, cd, t] H H11 := (kF.mono (by simp)).trans ((k78.mono (by simp)).trans ((k810.mono (by simp)).trans (k11.mono (by simp))))
    exact k H11 cm' af kAll ((hG8.kp k810 (by simpa using tgn.1) (by simpa using tgn.2)).kp k11 (by simp) (by simp)) ⟨k11.any upd_same, hT1.srt, hT1.len⟩ bA (hS.renew wok hH hT.srt hA h0 hts htsh hRw) hA hal (by omega)
end
end Tg
/-! TgL3 -/
set_option Elab.async false
set_option linter.all false
set_option maxRecDepth 100000
set_option maxHeartbeats 4000000
/-! the law: expired -/
namespace Tg
open PySem PySem.Spec PyProof.Rows L2 LamX NdefX TgM
theorem walk_zipT {K : PySem.W.Frag} {a b : Addr} {xs ys : List V} {n : Nat} (hn : n = min xs.length ys.length) : Walk (RZ.ItzT K a b) n (fun H => SqT K H a xs ∧ SqT K H b ys) (YPair (fun i => xs[i]?) (fun i => ys[i]?)) := by
  subst hn
  refine ⟨fun i _ hi q => ?_, fun _ q => ⟨xs, ys, q.1, q.2, by omega⟩, fun i H v H' _ q y => ?_⟩
  · have h1 : i < xs.length := by omega
    have h2 : i < ys.length := by omega
    exact ⟨xs, ys, xs[i], ys[i], q.1, q.2, by simp [h1], by simp [h2]⟩
  · obtain ⟨T, x, z, h1, h2, h3, h4, h5⟩ := y
    exact ⟨T, x, z, h1, h2, h3, h4 xs q.1, h5 ys q.2⟩
def ltB : Option Int → Pt → Bool
  | none, _ => false
  | some h, p => decide (p.1 < h)
def edgeOf (hz0 : Option Int) (tb : List Pt) : Option Pt := (tb.filter (ltB hz0)).getLast?
theorem edge_lt {hz0 : Option Int} {tb : List Pt} : ∀ p0, edgeOf hz0 tb = some p0 → ∀ q ∈ leftOf hz0 tb, p0.1 < q.1 := fun p0 e q hq => by
  have h1 := (List.mem_filter.mp (List.mem_of_getLast? e)).2
  have h2 := (List.mem_filter.mp hq).2
  cases hz0 with
  | none => cases h1
  | some h =>
    have h1 : decide (p0.1 < h) = true := h1
    have h2 : decide (h ≤ q.1) = true := h2
    have h1 := of_decide_eq_true h1
    have h2 := of_decide_eq_true h2
    omega
theorem edge_step {hz0 : Option Int} {tb : List Pt} (ht : Srt tb) {h' : Int} (hle : ∀ h, hz0 = some h → h ≤ h') : ((((leftOf hz0 tb).filter fun p => decide (p.1 < h')).getLast?).or (edgeOf hz0 tb)) = edgeOf (some h') tb := by
  have e : tb.filter (ltB (some h')) = tb.filter (ltB hz0) ++ (leftOf hz0 tb).filter fun p => decide (p.1 < h') := by
    refine srt_ext (ht.filter _) ?_ fun p => ?_
    · unfold Srt
      rw [List.pairwise_append]
      refine ⟨ht.filter _, List.Pairwise.filter _ (ht.filter _), fun a ha b hb => ?_⟩
      have h1 := (List.mem_filter.mp ha).2
      have h2 := (List.mem_filter.mp (List.mem_filter.mp hb).1).2
      cases hz0 with
      | none => cases h1
      | some h =>
        have h1 := of_decide_eq_true (show decide (a.1 < h) = true from h1)
        have h2 := of_decide_eq_true (show decide (h ≤ b.1) = true from h2)
        omega
    · rw [List.mem_append, List.mem_filter, List.mem_filter, List.mem_filter]
      unfold leftOf
      rw [List.mem_filter]
      cases hz0 with
      | none => simp [ltB, leftB]
      | some h =>
        have := hle h rfl
        simp only [ltB, leftB, decide_eq_true_eq]
        constructor
        · rintro ⟨h1, h2⟩
          by_cases z : p.1 < h
          · exact .inl ⟨h1, z⟩
          · exact .inr ⟨⟨h1, by omega⟩, h2⟩
        · rintro (⟨h1, h2⟩ | ⟨⟨h1, _⟩, h2⟩)
          · exact ⟨h1, by omega⟩
          · exact ⟨h1, h2⟩
  unfold edgeOf
  rw [e, List.getLast?_append]
theorem dpAll_oI {K : PySem.W.Frag} {H : Hp} : ∀ l : List (Option Int), DpAll K H (l.map oI) (l.map dI)
  | [] => .nil
  | x :: l => .cons (dp_oI x) (dpAll_oI l)
theorem sd_hs (l : List (Option Int)) : Sd 1 (.tuple (l.map dI)) := sdT fun d hd => by
  obtain ⟨x, _, rfl⟩ := List.mem_map.mp hd
  exact sd_dI x
theorem eqv_hs (l : List (Option Int)) : PyData.eqv (.tuple (l.map dI)) (.tuple (l.map dI)) = true := by
  have : ∀ l : List (Option Int), PyData.eqvAll (l.map dI) (l.map dI) = true := fun l => by
    induction l with
    | nil => simp [PyData.eqvAll]
    | cons a r ih => cases a <;> simp [PyData.eqvAll, PyData.eqv, dI, ih]
  simp [PyData.eqv, this]
/-- the records behind the letting go -/
theorem SI.expire {cm cm' : List Rc} {ws : List Int} {ks hs : List (Option Int)} {now : Int} {tb : List Pt} (S : SI cm ws hs tb) (hw : WsOk ws) (hK : KsOk ws.length ks) (hH : HzOk ws hs)
    (hm : ∀ r, r ∈ cm' ↔ r ∈ cm ∧ ∀ (j : Nat) h, j < ws.length → (newHs ws ks hs now)[j + 1]? = some (some h) → ∀ w, ws[j]? = some w → ¬ (r.w = w ∧ r.s + w ≤ h)) : SI cm' ws (newHs ws ks hs now) tb := by
  have hH' := hH.step (now := now) hw hK
  have hl := hK.len
  refine ⟨fun r hr => ?_, fun i w hi p hp hh => ?_⟩
  · obtain ⟨h1, h2⟩ := (hm r).mp hr
    obtain ⟨i, a1, a2, a3, a4⟩ := S.inR r h1
    have hb := hw.bd _ (List.mem_of_getElem? a1)
    have hil := (List.getElem?_eq_some_iff.mp a1).1
    refine ⟨i, a1, a2, fun h hh => ?_, a4⟩
    have h3 := h2 i h hil hh r.w a1
    have h4 := hH'.dw hw a1 hh
    have h5 : ¬ (r.s + r.w ≤ h) := fun z => h3 ⟨rfl, z⟩
    have h6 := le_cel hb.1 h4 (show h ≤ r.s + r.w - 1 by omega)
    have h7 := cel_eq (t := r.s + r.w - 1) hb.1 a2 (by omega) (by omega)
    omega
  · have hil := (List.getElem?_eq_some_iff.mp hi).1
    obtain ⟨r, hr, e1, e2⟩ := S.cov i w hi p hp fun h hx => by
      have hg : i + 1 < ks.length := by omega
      have h1 := newHs_get (ws := ws) (ks := ks) (hs := hs) (now := now) hg
      have h2 : hs.getD (i + 1) none = some h := by rw [List.getD_eq_getElem?_getD, hx]; rfl
      rw [h2] at h1
      obtain ⟨y, h3, h4⟩ := newH1_le (ws := ws) (g := i + 1) (k := ks.getD (i + 1) none) (o := h) (now := now)
      rw [h3] at h1
      have := hh y h1
      omega
    refine ⟨r, (hm r).mpr ⟨hr, fun j h hj hx w' hw' z => ?_⟩, e1, e2⟩
    have : j = i := ws_inj hw (by rw [hw', ← z.1, e1]) hi
    subst this
    have h1 := hh h hx
    have hb := hw.bd _ (List.mem_of_getElem? hi)
    rw [hi] at hw'
    have hw' := Option.some.inj hw'
    omega
section
variable {P : Program} {w : World} {K : PySem.W.Frag} {mg : Str → Option Value} {base : Heap}
def sp_expired (T : Ev K mg base) : Sp := fun vs H Q _ => ∃ (x wt2 kt ht e bp g wt cd ed t ot kt0 : Addr) (ws : List Int) (ks hs : List (Option Int)) (cm : List Rc) (ee : Int → Option Int) (tb : List Pt) (now : Int), vs = [.ref x, .ref e, .ref g, .ref t, .ref ot, .int now, .ref kt0] ∧
  Ke T.cK H x wt2 kt ht ws ks hs ∧ EgAt T.cE H e bp (edgeOf (hs.getD 0 none) tb) ∧ Gr T.cG T.cF H g wt cd ed false ws cm ∧ EdAt H ed ws ee ∧ (∀ (j : Nat) w, ws[j]? = some w → ee w = hs.getD (j + 1) none) ∧ TabAt H t tb ∧ H ot = some (.tup (hs.map oI)) ∧ H kt0 = some (.tup (ks.map oI)) ∧
  SI cm ws hs tb ∧ HzOk ws hs ∧ Tabs T.T H ∧
  ∀ H' nt cm' ht' ee', Kp T.cF T.T [x, bp, cd, ed] H H' → H' nt = some (.tup ((newHs ws ks hs now).map oI)) → Ke T.cK H' x wt2 kt ht' ws ks (newHs ws ks hs now) → EgAt T.cE H' e bp (edgeOf ((newHs ws ks hs now).getD 0 none) tb) → Gr T.cG T.cF H' g wt cd ed false ws cm' →
    EdAt H' ed ws ee' → (∀ (j : Nat) w, ws[j]? = some w → ee' w = (newHs ws ks hs now).getD (j + 1) none) → SI cm' ws (newHs ws ks hs now) tb → cm'.length ≤ cm.length → Q (.ref nt) H'
theorem sc_law_expired : FnScope ["_law_keeping", "_law_edges", "_law_grains", "_law_table", "_law_old", "_law_now", "_law_keeps_here", "_law_horizons_here", "_law_left", "_law_below", "_law_width", "_law_horizon", "_law_time_here"] ["_law_keeping", "_law_edges", "_law_grains", "_law_table", "_law_old", "_law_now", "_law_keeps_here"] (defScope s_law_expired) := ⟨rfl, rfl, rfl, by decide +kernel, rfl, by decide +kernel, by decide +kernel⟩
theorem c_law_expired (T : Ev K mg base) : C8.Cal P w K mg base 4 "_law_expired" (sp_expired T) [] := by
  refine calD T.d_law_expired sc_law_expired (fun _ _ _ _ _ _ us hl => match us, hl with | [_, _, _, _, _, _, _], _ => rfl) (fun vs H Q E h => by obtain ⟨_, _, _, _, _, _, _, _, _, _, _, _, _, _, _, _, _, _, _, _, rfl, _⟩ := h; rfl) (fun f cdv A outer s H vs Q E hr h => ?_)
  obtain ⟨x, wt2, kt, ht, e, bp, g, wt, cd, ed, t, ot, kt0, ws, ks, hs, cm, ee, tb, now, rfl, hK, hE, hG, hD, hee, hT, hot, hkt, hS, hH, hTb, k⟩ := h
  have hu := hu_of hr
  obtain ⟨⟨dx, hg⟩, hw, hc, wok⟩ := id hG
  obtain ⟨⟨dxk, hx⟩, _, _, _, _, ok, hlk⟩ := id hK
  obtain ⟨⟨dxe, he⟩, ev, hev, hbp⟩ := id hE
  obtain ⟨kve, hed, hik, hev2⟩ := id hD.ex
  have hkl := ok.len
  have hw4 := wok.len
  have hw0 : 0 < ws.length := List.length_pos_iff.mpr wok.ne
  have xe : x ≠ e := fun z => by
    rw [z, he] at hx
    have := congrArg List.length (HO.ins.inj (Option.some.inj hx)).2.2
    simp [kFs, eFs] at this
  have xg : x ≠ g := fun z => by
    rw [z, hg] at hx
    have := congrArg List.length (HO.ins.inj (Option.some.inj hx)).2.2
    simp [kFs, gFs] at this
  have eg : e ≠ g := fun z => by
    rw [z, hg] at he
    have := congrArg List.length (HO.ins.inj (Option.some.inj he)).2.2
    simp [eFs, gFs] at this
  have bpcd : bp ≠ cd := fun z => by rw [z, hc.dc] at hbp; cases hbp
  have bped : bp ≠ ed := fun z => by
    rw [z, hed] at hbp
    have q : kve = egK ev (edgeOf (hs.getD 0 none) tb) := HO.dK.inj (Option.some.inj hbp)
    cases z2 : edgeOf (hs.getD 0 none) tb with
    | none =>
      rw [z2] at q
      rw [q] at hik
      have := congrArg List.length hik
      simp [egK] at this
      omega
    | some p0 =>
      rw [z2] at q hev
      obtain ⟨a, rfl, _⟩ := hev
      obtain ⟨w0, hw0'⟩ : ∃ w, ws[0]? = some w := ⟨_, List.getElem?_eq_getElem (List.length_pos_iff.mpr wok.ne)⟩
      have hm0 := List.mem_of_getElem? hw0'
      have h1 := hev2 w0 hm0
      have h2 := valV_in h1
      rw [q] at h1 h2
      have h3 : (Sum.inl w0 : Key) = Sum.inl 5 := by simpa [egK] using h2
      rw [h3] at h1
      have h4 : some (V.ref a) = some (oI (ee w0)) := h1
      cases z3 : ee w0 with
      | none => rw [z3] at h4; cases h4
      | some y => rw [z3] at h4; cases h4
  have bpX : bp ∉ [cd, ed] := by simpa using ⟨bpcd, bped⟩
  refine ⟨_, (pss_cons (ps_set (i := 7) sc_law_expired.nd rfl (Or.inr rfl) (C8.pe_c (c_law_horizons T) hr (by decide) rfl (pa_cons (pe_fldC T.clG (T.naG _ (by decide)) (pv 2)) (pa_cons (pv 6) (pa_cons (pv 4) (pa_cons (pv 5) pa_nil))))))
      (pss_cons (ps_if (pt_cmpR (op_neD hr.units) (C8.pe_mt (m_expire T) hr (by decide) (pv 0) (pa_cons (pv 5) pa_nil)) (pv 7) (nomark _)) (pss_one (ps_ret pe_non))
        pss_nil)
      (pss_cons (ps_if (pt_cmpR op_notN (pe_ix (ixTK (K := K) rfl) (pv 7) pe_int (fun _ _ => rfl)) pe_non (nomark _)) (pss_cons (ps_setLc (i := 8) (own := [("_law_time_here", 12)]) rfl sc_law_expired.nd rfl rfl (sw_true rfl rfl rfl (by decide +kernel)) (pi_list (pe_callB (call_sortedDA rfl) (by rfl) T.b_sorted (by decide +kernel) (pa_cons (pv 3) pa_nil))) (blkOk_by (own := [("_law_time_here", 12)]) (N := ["_law_keeping", "_law_edges", "_law_grains", "_law_table", "_law_old", "_law_now", "_law_keeps_here", "_law_horizons_here", "_law_left", "_law_below", "_law_width", "_law_horizon", "_law_time_here"]) (sc := defScope s_law_expired) (by decide +kernel)) (fun _ _ _ _ _ => (pg_name (i := 12) sc_law_expired.nd rfl (Or.inl rfl))) (fun _ _ _ _ _ => (pts_one (PW.pt (pw_or (pt_cmpR op_isN (pe_ix (ixTK (K := K) rfl) (pv 4) pe_int (fun _ _ => rfl)) pe_non (nomark _)) (pw_or1 (pt_cmpR op_ge (pv 12) (pe_ix (ixTK (K := K) rfl) (pv 4) pe_int (fun _ _ => rfl)) (nomark _))))))) (fun _ _ _ _ _ => (pe_tup (pa_cons (pv 12) (pa_cons (pe_dget hu (pv 3) (pv 12) (fun _ _ => rfl)) pa_nil)))))
        (pss_cons (ps_setLc (i := 9) (own := [("_law_time_here", 12)]) rfl sc_law_expired.nd rfl rfl (sw_true rfl rfl rfl (by decide +kernel)) (pi_list (pe_callB (call_sortedDA rfl) (by rfl) T.b_sorted (by decide +kernel) (pa_cons (pv 3) pa_nil))) (blkOk_by (own := [("_law_time_here", 12)]) (N := ["_law_keeping", "_law_edges", "_law_grains", "_law_table", "_law_old", "_law_now", "_law_keeps_here", "_law_horizons_here", "_law_left", "_law_below", "_law_width", "_law_horizon", "_law_time_here"]) (sc := defScope s_law_expired) (by decide +kernel)) (fun _ _ _ _ _ => (pg_name (i := 12) sc_law_expired.nd rfl (Or.inl rfl))) (fun _ _ _ _ _ => (pts_one (pt_cmpR op_lt (pv 12) (pe_ix (ixTK (K := K) rfl) (pv 7) pe_int (fun _ _ => rfl)) (nomark _)))) (fun _ _ _ _ _ => (pe_tup (pa_cons (pv 12) (pa_cons (pe_dget hu (pv 3) (pv 12) (fun _ _ => rfl)) pa_nil)))))
        (pss_one (ps_if (pt_cmpR (op_neD hr.units) (C8.pe_mt (m_moved T) hr (by decide) (pv 1) (pa_cons pe_int (pa_cons (pv 8) (pa_cons (pe_ix (ixTK (K := K) rfl) (pv 7) pe_int (fun _ _ => rfl)) pa_nil)))) (pe_ix ix_list (pe_op op_cat (pe_lst (pa_cons pe_non pa_nil)) (pv 9)) (pe_un un_neg pe_int) (fun _ _ => rfl)) (nomark _)) (pss_one (ps_ret pe_non))
          pss_nil))))
        pss_nil)
      (pss_cons (ps_for PassesOwn.never rfl (RZ.pi_zipA (by rfl) T.b_zip (pa_cons (pe_fldC T.clG (T.naG _ (by decide)) (pv 2)) (pa_cons (pe_slice sl_tupA (pv 7) (po_some pe_int) po_none) pa_nil))) (pg_tup rfl (pgs_cons (pg_name (i := 10) sc_law_expired.nd rfl (Or.inl rfl)) (pgs_cons (pg_name (i := 11) sc_law_expired.nd rfl (Or.inl rfl)) pgs_nil)))
        (pss_one (ps_if (pt_cmpR op_notN (pv 11) pe_non (nomark _)) (pss_one (ps_expr (C8.pe_mt (m_let_go T) hr (by decide) (pv 2) (pa_cons (pv 10) (pa_cons (pv 11) pa_nil)))))
          pss_nil)))
      (pss_one (ps_ret (pv 7))))))), ?_⟩
  refine ⟨_, rfl, g, dx, _, _, rfl, hg, lk_widths _ _ _ _, _, rfl, _, rfl, _, rfl, wt, kt0, ot, now, ws, ks, hs, rfl, hw, hkt, hot, wok, hlk, by omega, fun H1 nt k1 hnt => ?_⟩
  have hK1 := hK.kp k1 (by simp)
  obtain ⟨⟨dxk1, hx1⟩, _⟩ := id hK1
  have hnl : (newHs ws ks hs now).length = ks.length := by simp [newHs]
  have hH' := hH.step (now := now) wok ok
  refine ⟨_, rfl, x, dxk1, _, rfl, hx1, lkk_expire _ _ _, _, rfl, x, wt2, kt, ht, ws, ks, hs, now, rfl, hK1, fun H2 ht' k2 hK2 => ?_⟩
  have hnt2 := k2.tup hnt
  refine ⟨_, rfl, _, _, .tup (SqT.of hK2.ht) (dpAll_oI _), .tup (SqT.of hnt2) (dpAll_oI _), (sd_hs _).sh (by decide), (sd_hs _).sh (by decide), _, rfl, ?_⟩
  rw [eqv_hs]
  refine iteF ?_
  obtain ⟨h0, hh0⟩ : ∃ o, (newHs ws ks hs now)[0]? = some o := ⟨_, List.getElem?_eq_getElem (by omega)⟩
  have eh0 : (newHs ws ks hs now).getD 0 none = h0 := by rw [List.getD_eq_getElem?_getD, hh0]; rfl
  have at0 : atI ((newHs ws ks hs now).map oI) 0 = some (oI h0) := atI_nat (j := 0) (by rw [List.getElem?_map, hh0]; rfl)
  have kk2 : Kp T.cF T.T [x] H H2 := (k1.one).trans k2
  have nx : ∀ b o, H b = some o → (∀ dx, o ≠ .ins T.cK dx (kFs wt2 kt ht)) → b ∉ [x] := fun b o hb hne m => by
    rw [List.mem_singleton.mp m, hx] at hb
    exact hne dxk (Option.some.inj hb).symm
  have hE2 := hE.kp kk2 (by simpa using xe.symm) (nx bp _ hbp fun _ z => by cases z)
  have hG2 := hG.kp kk2 (by simpa using xg.symm) (nx cd _ hc.dc fun _ z => by cases z)
  have hD2 := hD.kp kk2 (nx ed _ hed fun _ z => by cases z)
  have hT2 := hT.kp kk2 (nx t _ hT.dc fun _ z => by cases z)
  have hot2 := kk2.tup hot
  refine ⟨_, rfl, nt, _, 0, oI h0, rfl, rfl, SqT.of hnt2, at0, rfl, _, rfl, ?_⟩
  rw [oI_non]
  have old0 : ∀ h, hs.getD 0 none = some h → ∃ y, h0 = some y ∧ h ≤ y := fun h z => by
    have h1 := newHs_get (ws := ws) (ks := ks) (hs := hs) (now := now) (g := 0) (by omega)
    rw [z, hh0] at h1
    obtain ⟨y, h3, h4⟩ := newH1_le (ws := ws) (g := 0) (k := ks.getD 0 none) (o := h) (now := now)
    exact ⟨y, (Option.some.inj h1).trans h3, h4⟩
  rw [eh0] at k
  cases h0 with
  | none =>
    have e0 : hs.getD 0 none = none := by
      cases z : hs.getD 0 none with
      | none => rfl
      | some h =>
        obtain ⟨y, h1, _⟩ := old0 h z
        cases h1
    rw [e0] at hE2
    refine iteF ?_
    have hGX := hG2
    have hDX := hD2
    have hntX := hnt2
    have hKX := hK2
    have hEX := hE2
    have kkX : Kp T.cF T.T [x, bp, cd, ed] H H2 := kk2.mono (by simp)
    -- the letting go, from H2 on
    obtain ⟨⟨dx4, hg4⟩, hw4', hc4, _⟩ := id hGX
    have hxl : (ws.map V.int).length = ws.length := List.length_map _
    have hyl : ((newHs ws ks hs now).map oI).length = ks.length := by rw [List.length_map, hnl]
    refine ⟨_, rfl, g, dx4, _, _, rfl, hg4, lk_widths _ _ _ _, _, rfl, 1, rfl, nt, _, rfl, SqT.of hntX, (fun z => ?_), fun _ p np => ?_⟩
    · have e1 := HT.sIx_nat ((newHs ws ks hs now).map oI).length 0 1
      rw [show ((1 : Nat) : Int) = 1 from rfl] at e1
      have z1 := z.1
      rw [e1] at z1
      omega
    rw [cut_1]
    have kp5 : Kp T.cF T.T [] H2 (upd H2 p (.tup (((newHs ws ks hs now).map oI).drop 1))) := Kp.new np
    refine ⟨wt, p, _, _, rfl, .inr ⟨(hw4'.kp kp5).sq, SqT.of upd_same, ?_⟩⟩
    have hn : ws.length = min (ws.map V.int).length (((newHs ws ks hs now).map oI).drop 1).length := by
      rw [List.length_drop, hyl, hxl]
      omega
    refine for_it (walk_zipT (K := K) (a := wt) (b := p) (xs := ws.map V.int) (ys := ((newHs ws ks hs now).map oI).drop 1) hn) (fun i σ H' => ∃ (o10 o11 : Option V) (cmi : List Rc) (eei : Int → Option Int), σ = [some (.ref x), some (.ref e), some (.ref g), some (.ref t), some (.ref ot), some (.int now), some (.ref kt0), some (.ref nt), none, none, o10, o11, none] ∧
        Kp T.cF T.T [cd, ed] (upd H2 p (.tup (((newHs ws ks hs now).map oI).drop 1))) H' ∧ Gr T.cG T.cF H' g wt cd ed false ws cmi ∧ EdAt H' ed ws eei ∧ (∀ r, r ∈ cmi ↔ r ∈ cm ∧ ∀ (j : Nat) h, j < i → (newHs ws ks hs now)[j + 1]? = some (some h) → ∀ w, ws[j]? = some w → ¬ (r.w = w ∧ r.s + w ≤ h)) ∧
        cmi.length ≤ cm.length ∧ ∀ (j : Nat) w, ws[j]? = some w → eei w = if j < i then (newHs ws ks hs now).getD (j + 1) none else hs.getD (j + 1) none)
      ⟨none, none, cm, ee, rfl, Kp.refl _, hGX.kp kp5 (by simp) (by simp), hDX.kp kp5 (by simp), fun r => by simp, Nat.le_refl _, fun j w hj => by rw [if_neg (by omega)]; exact hee j w hj⟩ (fun i σ H' _ ⟨_, _, _, _, _, k6, _⟩ => ⟨((hw4'.kp kp5).kp k6).sq, SqT.of (k6.tup upd_same)⟩) ?_ ?_
    · rintro i v σ H5 H6 hi ⟨o10, o11, cmi, eei, rfl, k6, hG6, hD6, hcmi, hlen, hei⟩ ⟨r, u, u2, rfl, nr, rfl, e1, e2⟩
      obtain ⟨wd, hwd⟩ : ∃ o, ws[i]? = some o := ⟨_, List.getElem?_eq_getElem hi⟩
      obtain ⟨ho, hho⟩ : ∃ o, (newHs ws ks hs now)[i + 1]? = some o := ⟨_, List.getElem?_eq_getElem (by omega)⟩
      have e1 : u = .int wd := mapGet e1 hwd
      have e2 : u2 = oI ho := by
        have e3 : (((newHs ws ks hs now).map oI).drop 1)[i]? = some u2 := e2
        rw [List.getElem?_drop, Nat.add_comm] at e3
        exact mapGet e3 hho
      subst e1 e2
      have kr : Kp T.cF T.T [] H5 (upd H5 r (.tup [.int wd, oI ho])) := Kp.new nr
      have hG7 := hG6.kp kr (by simp) (by simp)
      obtain ⟨⟨dx7, hg7⟩, _⟩ := id hG7
      have hD7 := hD6.kp kr (by simp)
      have hgd : (newHs ws ks hs now).getD (i + 1) none = ho := by rw [List.getD_eq_getElem?_getD, hho]; rfl
      have hold := hei i wd hwd
      rw [if_neg (by omega)] at hold
      have hnew1 := newHs_get (ws := ws) (ks := ks) (hs := hs) (now := now) (g := i + 1) (by omega)
      rw [hho] at hnew1
      have hnew1 := Option.some.inj hnew1
      refine ⟨r, _, rfl, SqT.of upd_same, rfl, _, _, rfl, _, _, rfl, rfl, ?_⟩
      refine ⟨_, rfl, rfl, _, rfl, ?_⟩
      rw [oI_non]
      cases ho with
      | none =>
        refine iteF ⟨_, _, cmi, eei, rfl, k6.trans (kr.mono (by simp)), hG7, hD7, fun r' => ?_, hlen, fun j w' hj => ?_⟩
        · rw [hcmi]
          refine and_congr_right fun _ => ⟨fun h1 j h hj hx => ?_, fun h1 j h hj hx => h1 j h (by omega) hx⟩
          by_cases z : j = i
          · subst z
            rw [hho] at hx
            cases hx
          · exact h1 j h (by omega) hx
        · rw [hei j w' hj]
          by_cases z : j = i
          · subst z
            rw [if_neg (by omega), if_pos (by omega), hgd]
            cases z2 : hs.getD (j + 1) none with
            | none => rfl
            | some o =>
              rw [z2] at hnew1
              obtain ⟨y, h3, _⟩ := newH1_le (ws := ws) (g := j + 1) (k := ks.getD (j + 1) none) (o := o) (now := now)
              rw [h3] at hnew1
              cases hnew1
          · by_cases z3 : j < i
            · rw [if_pos z3, if_pos (by omega)]
            · rw [if_neg z3, if_neg (by omega)]
      | some hv =>
        refine iteT ⟨_, rfl, g, dx7, _, rfl, hg7, lk_let_go _ _ _ _, _, rfl, _, rfl, g, wt, cd, ed, ws, cmi, eei, wd, hv, rfl, hG7, hD7, List.mem_of_getElem? hwd, fun y hy => ?_, fun H8 v8 cm8 k8 hG8 hm8 hl8 hD8 => ?_⟩
        · rw [hold] at hy
          rw [hy] at hnew1
          obtain ⟨y2, h3, h4⟩ := newH1_le (ws := ws) (g := i + 1) (k := ks.getD (i + 1) none) (o := y) (now := now)
          rw [h3] at hnew1
          cases hnew1
          exact h4
        · refine ⟨_, _, cm8, _, rfl, k6.trans ((kr.mono (by simp)).trans k8), hG8, hD8, fun r' => ?_, by omega, fun j w' hj => ?_⟩
          · rw [hm8, hcmi]
            constructor
            · rintro ⟨⟨h1, h2⟩, h3⟩
              refine ⟨h1, fun j h hj hx w' hw' => ?_⟩
              by_cases z : j = i
              · subst z
                rw [hho] at hx
                cases hx
                rw [hwd] at hw'
                cases hw'
                exact h3
              · exact h2 j h (by omega) hx w' hw'
            · rintro ⟨h1, h2⟩
              exact ⟨⟨h1, fun j h hj hx => h2 j h (by omega) hx⟩, h2 i hv (by omega) hho wd hwd⟩
          · show (if w' = wd then some hv else eei w') = _
            by_cases z : j = i
            · subst z
              rw [hwd] at hj
              cases hj
              rw [if_pos rfl, if_pos (by omega), hgd]
            · have : w' ≠ wd := fun e => z (ws_inj wok hj (e ▸ hwd))
              rw [if_neg this, hei j w' hj]
              by_cases z3 : j < i
              · rw [if_pos z3, if_pos (by omega)]
              · rw [if_neg z3, if_neg (by omega)]
    · rintro σ H5 ⟨o10, o11, cmi, eei, rfl, k6, hG6, hD6, hcmi, hlen, hei⟩
      have kX5 : Kp T.cF T.T [cd, ed] H2 H5 := (kp5.mono (by simp)).trans k6
      have nc : ∀ b o, H2 b = some o → (∀ kv, o ≠ .dT kv) → (∀ kv, o ≠ .dK kv) → b ∉ [cd, ed] := fun b o hb h1 h2 m => by
        rcases List.mem_cons.mp m with z | z
        · rw [z, hc4.dc] at hb
          exact h1 _ (Option.some.inj hb).symm
        · obtain ⟨kv, q, _⟩ := id hDX.ex
          rw [List.mem_singleton.mp z, q] at hb
          exact h2 _ (Option.some.inj hb).symm
      obtain ⟨⟨dz, hz1⟩, _⟩ := id hKX
      obtain ⟨⟨dy, hy1⟩, vy, hvy, hy2⟩ := id hEX
      have bpE : bp ∉ [cd, ed] := bpX
      exact ⟨_, rfl, k H5 nt cmi ht' eei (kkX.trans (kX5.mono (by simp))) (kX5.tup hntX) (hKX.kp kX5 (nc x _ hz1 (fun _ q => by cases q) (fun _ q => by cases q))) (hEX.kp kX5 (nc e _ hy1 (fun _ q => by cases q) (fun _ q => by cases q)) bpE) hG6 hD6
        (fun j w' hj => by rw [hei j w' hj, if_pos (List.getElem?_eq_some_iff.mp hj).1]) (hS.expire wok ok hH hcmi) hlen⟩

  | some h' =>
    refine iteT ?_
    obtain ⟨hs0, hhs0⟩ : ∃ o, hs[0]? = some o := ⟨_, List.getElem?_eq_getElem (by omega)⟩
    have ehs0 : hs.getD 0 none = hs0 := by rw [List.getD_eq_getElem?_getD, hhs0]; rfl
    rw [ehs0] at hE2
    have hle0 : ∀ h, hs0 = some h → h ≤ h' := fun h z => by
      obtain ⟨y, h1, h2⟩ := old0 h (by rw [ehs0]; exact z)
      cases h1
      exact h2
    have atold : atI (hs.map oI) 0 = some (oI hs0) := atI_nat (j := 0) (by rw [List.getElem?_map, hhs0]; rfl)
    have hl0 : ((tb.map (·.1)).map V.int).length = tb.length := by rw [List.length_map, List.length_map]
    have hsz : ∀ i, i < tb.length → i < sizeLine := fun i h => Nat.lt_of_lt_of_le h (Nat.le_trans hT.len (by decide))
    refine ⟨_, rfl, t, _, tb.map (·.1), rfl, .inl hT2.dc, tbK_keys tb, fun ysq1 q1 hpq1 hsq1 nq1 => ?_⟩
    have eyq1 := perm_up hpq1 hsq1 hT.srt.up
    subst eyq1
    refine ⟨q1, rfl, ⟨_, SqL.of upd_same⟩, fun D1 nD1 => ?_⟩
    have sq1 : Kp T.cF T.T [] H2 (upd H2 q1 (.lst ((tb.map (·.1)).map V.int))) := Kp.new nq1
    refine lc_it (walk_list (K := K) (a := q1) (xs := (tb.map (·.1)).map V.int)) (LcP T.cF T.T (upd H2 q1 (.lst ((tb.map (·.1)).map V.int))) D1 fun i acc H' => ∃ l : List (Addr × Pt), acc = l.map (fun x => V.ref x.1) ∧ (∀ x ∈ l, H' x.1 = some (.tup [.int x.2.1, .int x.2.2])) ∧ l.map (·.2) = (tb.take i).filter (leftB hs0))
      (lc0 nD1 ⟨[], rfl, fun x hx => by simp at hx, rfl⟩) (fun i H' _ ⟨acc, _, _, k2, _⟩ => k2.lst (SqL.of upd_same)) ?_ ?_
    · rintro i y Ha Hb hi ⟨acc, ha, hl, kl, l, rfl, hx, hlm⟩ ⟨rfl, ex⟩
      rw [hl0] at hi
      obtain ⟨p, hp⟩ : ∃ p, tb[i]? = some p := ⟨_, List.getElem?_eq_getElem hi⟩
      have ex : y = .int p.1 := by
        rw [List.map_map] at ex
        exact mapGet (f := V.int ∘ fun p : Pt => p.1) (z := p) ex hp
      subst ex
      have hpm : p ∈ tb := List.mem_of_getElem? hp
      have hkk := sq1.trans kl
      have htab : Hb t = some (.dK (tbK tb)) := hkk.any hT2.dc
      have hf := filter_snoc (p := leftB hs0) hp
      have g1 : DGet Hb t (.int p.1) (some (.int p.2)) := by
        have := DGet.k (k := Sum.inl p.1) htab
        rw [valV_tbK hT.srt hpm] at this
        exact this
      have yes : ∀ r, (leftB hs0) p = true → Hb r = none → ∃ acc', (upd Hb r (.tup [.int p.1, .int p.2])) D1 = some (.lst acc') ∧ acc'.length < sizeLine ∧ LcP T.cF T.T (upd H2 q1 (.lst ((tb.map (·.1)).map V.int))) D1 (fun i acc H' => ∃ l : List (Addr × Pt), acc = l.map (fun x => V.ref x.1) ∧ (∀ x ∈ l, H' x.1 = some (.tup [.int x.2.1, .int x.2.2])) ∧ l.map (·.2) = (tb.take i).filter (leftB hs0)) (i + 1) (upd (upd Hb r (.tup [.int p.1, .int p.2])) D1 (.lst (acc' ++ [.ref r]))) := fun r hg nr => by
        refine lcYes (hsz i hi) nD1 kl ha hl (Kp.new nr) ⟨l ++ [(r, p)], by simp, fun z hz => ?_, ?_⟩
        · have kD : Kp T.cF T.T [D1] (upd Hb r (.tup [.int p.1, .int p.2])) (upd (upd Hb r (.tup [.int p.1, .int p.2])) D1 (.lst (l.map (fun x => V.ref x.1) ++ [.ref r]))) := Kp.set ((Kp.new (C := T.cF) (T := T.T) (M := []) nr).any ha) (by simp) trivial
          rcases List.mem_append.mp hz with hz | hz
          · exact kD.tup ((Kp.new (C := T.cF) (T := T.T) (M := []) nr).tup (hx z hz))
          · rw [List.mem_singleton.mp hz]
            exact kD.tup upd_same
        · rw [List.map_append, hlm, hf, if_pos hg]
          rfl
      refine ⟨rfl, _, rfl, ot, _, 0, oI hs0, rfl, rfl, SqT.of (hkk.tup hot2), atold, rfl, _, rfl, ?_⟩
      rw [oI_non]
      cases hs0 with
      | none => exact iteT (iteT ⟨_, rfl, _, rfl, _, rfl, t, .int p.2, rfl, g1, two_le, fun r nr => yes r rfl nr⟩)
      | some h =>
        refine iteF ⟨_, rfl, _, rfl, ot, _, 0, .int h, rfl, rfl, SqT.of (hkk.tup hot2), atold, _, _, rfl, rfl, _, rfl, ?_⟩
        refine ite2 (fun e => ⟨_, rfl, _, rfl, _, rfl, t, .int p.2, rfl, g1, two_le, fun r nr => yes r e nr⟩) (fun e => lcNo kl ha hl (Kp.refl _) ⟨l, rfl, hx, ?_⟩)
        rw [hlm, hf, if_neg (show ¬ leftB (some h) p = true from e), List.append_nil]
    rintro HzD1 ⟨accD1, haD1, _, klD1, lD1, rfl, hxD1, hlmD1⟩
    rw [hl0, List.take_length] at hlmD1
    have k23 : Kp T.cF T.T [] H2 HzD1 := sq1.trans klD1
    have hT3 := hT2.kp k23 (by simp)
    have hnt3 := k23.tup hnt2
    refine ⟨_, rfl, t, _, tb.map (·.1), rfl, .inl hT3.dc, tbK_keys tb, fun ysq2 q2 hpq2 hsq2 nq2 => ?_⟩
    have eyq2 := perm_up hpq2 hsq2 hT.srt.up
    subst eyq2
    refine ⟨q2, rfl, ⟨_, SqL.of upd_same⟩, fun D2 nD2 => ?_⟩
    have sq2 : Kp T.cF T.T [] HzD1 (upd HzD1 q2 (.lst ((tb.map (·.1)).map V.int))) := Kp.new nq2
    refine lc_it (walk_list (K := K) (a := q2) (xs := (tb.map (·.1)).map V.int)) (LcP T.cF T.T (upd HzD1 q2 (.lst ((tb.map (·.1)).map V.int))) D2 fun i acc H' => ∃ l : List (Addr × Pt), acc = l.map (fun x => V.ref x.1) ∧ (∀ x ∈ l, H' x.1 = some (.tup [.int x.2.1, .int x.2.2])) ∧ l.map (·.2) = (tb.take i).filter (ltB (some h')))
      (lc0 nD2 ⟨[], rfl, fun x hx => by simp at hx, rfl⟩) (fun i H' _ ⟨acc, _, _, k2, _⟩ => k2.lst (SqL.of upd_same)) ?_ ?_
    · rintro i y Ha Hb hi ⟨acc, ha, hl, kl, l, rfl, hx, hlm⟩ ⟨rfl, ex⟩
      rw [hl0] at hi
      obtain ⟨p, hp⟩ : ∃ p, tb[i]? = some p := ⟨_, List.getElem?_eq_getElem hi⟩
      have ex : y = .int p.1 := by
        rw [List.map_map] at ex
        exact mapGet (f := V.int ∘ fun p : Pt => p.1) (z := p) ex hp
      subst ex
      have hpm : p ∈ tb := List.mem_of_getElem? hp
      have hkk := sq2.trans kl
      have htab : Hb t = some (.dK (tbK tb)) := hkk.any hT3.dc
      have hf := filter_snoc (p := ltB (some h')) hp
      have g1 : DGet Hb t (.int p.1) (some (.int p.2)) := by
        have := DGet.k (k := Sum.inl p.1) htab
        rw [valV_tbK hT.srt hpm] at this
        exact this
      have yes : ∀ r, (ltB (some h')) p = true → Hb r = none → ∃ acc', (upd Hb r (.tup [.int p.1, .int p.2])) D2 = some (.lst acc') ∧ acc'.length < sizeLine ∧ LcP T.cF T.T (upd HzD1 q2 (.lst ((tb.map (·.1)).map V.int))) D2 (fun i acc H' => ∃ l : List (Addr × Pt), acc = l.map (fun x => V.ref x.1) ∧ (∀ x ∈ l, H' x.1 = some (.tup [.int x.2.1, .int x.2.2])) ∧ l.map (·.2) = (tb.take i).filter (ltB (some h'))) (i + 1) (upd (upd Hb r (.tup [.int p.1, .int p.2])) D2 (.lst (acc' ++ [.ref r]))) := fun r hg nr => by
        refine lcYes (hsz i hi) nD2 kl ha hl (Kp.new nr) ⟨l ++ [(r, p)], by simp, fun z hz => ?_, ?_⟩
        · have kD : Kp T.cF T.T [D2] (upd Hb r (.tup [.int p.1, .int p.2])) (upd (upd Hb r (.tup [.int p.1, .int p.2])) D2 (.lst (l.map (fun x => V.ref x.1) ++ [.ref r]))) := Kp.set ((Kp.new (C := T.cF) (T := T.T) (M := []) nr).any ha) (by simp) trivial
          rcases List.mem_append.mp hz with hz | hz
          · exact kD.tup ((Kp.new (C := T.cF) (T := T.T) (M := []) nr).tup (hx z hz))
          · rw [List.mem_singleton.mp hz]
            exact kD.tup upd_same
        · rw [List.map_append, hlm, hf, if_pos hg]
          rfl
      refine ⟨rfl, _, rfl, _, rfl, nt, _, 0, .int h', rfl, rfl, SqT.of (hkk.tup hnt3), at0, _, _, rfl, rfl, _, rfl, ?_⟩
      refine ite2 (fun e => ⟨_, rfl, _, rfl, _, rfl, t, .int p.2, rfl, g1, two_le, fun r nr => yes r e nr⟩) (fun e => lcNo kl ha hl (Kp.refl _) ⟨l, rfl, hx, ?_⟩)
      rw [hlm, hf, if_neg (show ¬ ltB (some h') p = true from e), List.append_nil]
    rintro HzD2 ⟨accD2, haD2, _, klD2, lD2, rfl, hxD2, hlmD2⟩
    rw [hl0, List.take_length] at hlmD2
    have k34 : Kp T.cF T.T [] HzD1 HzD2 := sq2.trans klD2
    have k24 := k23.trans k34
    have hE4 := hE2.kp k24 (by simp) (by simp)
    obtain ⟨⟨dxe4, he4⟩, _⟩ := id hE4
    have hll : lD1.length ≤ 10000 := by
      have := congrArg List.length hlmD1
      rw [List.length_map] at this
      rw [this]
      exact Nat.le_trans (List.length_filter_le _ _) hT.len
    have hll2 : lD2.length ≤ 10000 := by
      have := congrArg List.length hlmD2
      rw [List.length_map] at this
      rw [this]
      exact Nat.le_trans (List.length_filter_le _ _) hT.len
    refine ⟨_, rfl, e, dxe4, _, rfl, he4, lke_moved _, _, rfl, _, rfl, nt, _, 0, .int h', rfl, rfl, SqT.of (k24.tup hnt2), at0, e, bp, D1, edgeOf hs0 tb, lD1, h', rfl, hE4, ⟨k34.lst (SqL.of haD1), fun z hz => k34.tup (hxD1 z hz)⟩, by rw [hlmD1]; exact hT.srt.filter _, hll, by rw [hlmD1]; exact edge_lt, k24.tb (kk2.tb hTb), fun H7 v7 k7 hE7 hv7 => ?_⟩
    have est : ((((lD1.map (·.2)).filter fun p => decide (p.1 < h')).getLast?).or (edgeOf hs0 tb)) = edgeOf (some h') tb := by
      rw [hlmD1]
      exact edge_step hT.srt hle0
    rw [est] at hE7 hv7
    have D2bp : D2 ≠ bp := fun z => by
      have := (hE4.dc)
      obtain ⟨vv, _, q⟩ := this
      rw [← z, haD2] at q
      cases q
    have hD27 := k7.at haD2 (by simpa using D2bp)
    refine ⟨(by show 1 ≤ sizeLine; decide), fun p np => ⟨_, rfl, p, D2, _, _, rfl, rfl, upd_same, (Same.new np) _ _ hD27, ?_, fun p2 np2 => ?_⟩⟩
    · rw [List.length_map]
      exact Nat.le_trans (by simp; omega : _ ≤ 10001) (by decide)
    have k78 : Kp T.cF T.T [] H7 (upd (upd H7 p (.lst [.non])) p2 (.lst ([.non] ++ lD2.map fun x => V.ref x.1))) := (Kp.new np).trans (Kp.new np2)
    have hlast : ([V.non] ++ lD2.map fun x => V.ref x.1).getLast? = some (((lD2.getLast?).map fun x => V.ref x.1).getD .non) := by
      show (V.non :: lD2.map fun x => V.ref x.1).getLast? = _
      rw [List.getLast?_cons, List.getLast?_map]
    have hpv : PtV (upd (upd H7 p (.lst [.non])) p2 (.lst ([.non] ++ lD2.map fun x => V.ref x.1))) (((lD2.getLast?).map fun x => V.ref x.1).getD .non) (edgeOf (some h') tb) := by
      unfold edgeOf
      rw [← hlmD2, List.getLast?_map]
      cases z : lD2.getLast? with
      | none => rfl
      | some y => exact ⟨y.1, rfl, k78.tup (k7.tup (hxD2 y (List.mem_of_getLast? z)))⟩
    refine ⟨_, rfl, p2, _, -1, _, rfl, rfl, SqL.of upd_same, atLast hlast, _, _, dp_pt (hv7.kp k78), dp_pt hpv, (sd_dP _).sh (by decide), (sd_dP _).sh (by decide), _, rfl, ?_⟩
    rw [eqv_dP, decide_eq_true rfl]
    refine iteF ?_
    have nbp : ∀ b o, H2 b = some o → (∀ kv, o ≠ .dK kv) → b ≠ bp := fun b o hb hne z => by
      obtain ⟨vv, _, q⟩ := hE2.dc
      rw [z, q] at hb
      exact hne _ (Option.some.inj hb).symm
    have k2X : Kp T.cF T.T [bp] H2 (upd (upd H7 p (.lst [.non])) p2 (.lst ([.non] ++ lD2.map fun x => V.ref x.1))) := (k24.one).trans (k7.trans k78.one)
    obtain ⟨⟨dxg2, hg2⟩, _, hcs2, _⟩ := id hG2
    obtain ⟨⟨dxk2, hxk2⟩, _⟩ := id hK2
    have hGX := hG2.kp k2X (by simpa using nbp g _ hg2 fun _ z => by cases z) (by simpa using bpcd.symm)
    have hDX := hD2.kp k2X (by simpa using bped.symm)
    have hntX := k2X.tup hnt2
    have hKX := hK2.kp k2X (by simpa using nbp x _ hxk2 fun _ z => by cases z)
    have hEX := hE7.kp k78 (by simp) (by simp)
    have kkX : Kp T.cF T.T [x, bp, cd, ed] H (upd (upd H7 p (.lst [.non])) p2 (.lst ([.non] ++ lD2.map fun x => V.ref x.1))) := (kk2.mono (by simp)).trans (k2X.mono (by simp))
    obtain ⟨HX, eHX⟩ : ∃ HX, HX = upd (upd H7 p (.lst [.non])) p2 (.lst ([.non] ++ lD2.map fun x => V.ref x.1)) := ⟨_, rfl⟩
    rw [← eHX] at hGX hDX hntX hKX hEX kkX ⊢
    -- the letting go, from HX on
    obtain ⟨⟨dx4, hg4⟩, hw4', hc4, _⟩ := id hGX
    have hxl : (ws.map V.int).length = ws.length := List.length_map _
    have hyl : ((newHs ws ks hs now).map oI).length = ks.length := by rw [List.length_map, hnl]
    refine ⟨_, rfl, g, dx4, _, _, rfl, hg4, lk_widths _ _ _ _, _, rfl, 1, rfl, nt, _, rfl, SqT.of hntX, (fun z => ?_), fun _ p np => ?_⟩
    · have e1 := HT.sIx_nat ((newHs ws ks hs now).map oI).length 0 1
      rw [show ((1 : Nat) : Int) = 1 from rfl] at e1
      have z1 := z.1
      rw [e1] at z1
      omega
    rw [cut_1]
    have kp5 : Kp T.cF T.T [] HX (upd HX p (.tup (((newHs ws ks hs now).map oI).drop 1))) := Kp.new np
    refine ⟨wt, p, _, _, rfl, .inr ⟨(hw4'.kp kp5).sq, SqT.of upd_same, ?_⟩⟩
    have hn : ws.length = min (ws.map V.int).length (((newHs ws ks hs now).map oI).drop 1).length := by
      rw [List.length_drop, hyl, hxl]
      omega
    refine for_it (walk_zipT (K := K) (a := wt) (b := p) (xs := ws.map V.int) (ys := ((newHs ws ks hs now).map oI).drop 1) hn) (fun i σ H' => ∃ (o10 o11 : Option V) (cmi : List Rc) (eei : Int → Option Int), σ = [some (.ref x), some (.ref e), some (.ref g), some (.ref t), some (.ref ot), some (.int now), some (.ref kt0), some (.ref nt), some (.ref D1), some (.ref D2), o10, o11, none] ∧
        Kp T.cF T.T [cd, ed] (upd HX p (.tup (((newHs ws ks hs now).map oI).drop 1))) H' ∧ Gr T.cG T.cF H' g wt cd ed false ws cmi ∧ EdAt H' ed ws eei ∧ (∀ r, r ∈ cmi ↔ r ∈ cm ∧ ∀ (j : Nat) h, j < i → (newHs ws ks hs now)[j + 1]? = some (some h) → ∀ w, ws[j]? = some w → ¬ (r.w = w ∧ r.s + w ≤ h)) ∧
        cmi.length ≤ cm.length ∧ ∀ (j : Nat) w, ws[j]? = some w → eei w = if j < i then (newHs ws ks hs now).getD (j + 1) none else hs.getD (j + 1) none)
      ⟨none, none, cm, ee, rfl, Kp.refl _, hGX.kp kp5 (by simp) (by simp), hDX.kp kp5 (by simp), fun r => by simp, Nat.le_refl _, fun j w hj => by rw [if_neg (by omega)]; exact hee j w hj⟩ (fun i σ H' _ ⟨_, _, _, _, _, k6, _⟩ => ⟨((hw4'.kp kp5).kp k6).sq, SqT.of (k6.tup upd_same)⟩) ?_ ?_
    · rintro i v σ H5 H6 hi ⟨o10, o11, cmi, eei, rfl, k6, hG6, hD6, hcmi, hlen, hei⟩ ⟨r, u, u2, rfl, nr, rfl, e1, e2⟩
      obtain ⟨wd, hwd⟩ : ∃ o, ws[i]? = some o := ⟨_, List.getElem?_eq_getElem hi⟩
      obtain ⟨ho, hho⟩ : ∃ o, (newHs ws ks hs now)[i + 1]? = some o := ⟨_, List.getElem?_eq_getElem (by omega)⟩
      have e1 : u = .int wd := mapGet e1 hwd
      have e2 : u2 = oI ho := by
        have e3 : (((newHs ws ks hs now).map oI).drop 1)[i]? = some u2 := e2
        rw [List.getElem?_drop, Nat.add_comm] at e3
        exact mapGet e3 hho
      subst e1 e2
      have kr : Kp T.cF T.T [] H5 (upd H5 r (.tup [.int wd, oI ho])) := Kp.new nr
      have hG7 := hG6.kp kr (by simp) (by simp)
      obtain ⟨⟨dx7, hg7⟩, _⟩ := id hG7
      have hD7 := hD6.kp kr (by simp)
      have hgd : (newHs ws ks hs now).getD (i + 1) none = ho := by rw [List.getD_eq_getElem?_getD, hho]; rfl
      have hold := hei i wd hwd
      rw [if_neg (by omega)] at hold
      have hnew1 := newHs_get (ws := ws) (ks := ks) (hs := hs) (now := now) (g := i + 1) (by omega)
      rw [hho] at hnew1
      have hnew1 := Option.some.inj hnew1
      refine ⟨r, _, rfl, SqT.of upd_same, rfl, _, _, rfl, _, _, rfl, rfl, ?_⟩
      refine ⟨_, rfl, rfl, _, rfl, ?_⟩
      rw [oI_non]
      cases ho with
      | none =>
        refine iteF ⟨_, _, cmi, eei, rfl, k6.trans (kr.mono (by simp)), hG7, hD7, fun r' => ?_, hlen, fun j w' hj => ?_⟩
        · rw [hcmi]
          refine and_congr_right fun _ => ⟨fun h1 j h hj hx => ?_, fun h1 j h hj hx => h1 j h (by omega) hx⟩
          by_cases z : j = i
          · subst z
            rw [hho] at hx
            cases hx
          · exact h1 j h (by omega) hx
        · rw [hei j w' hj]
          by_cases z : j = i
          · subst z
            rw [if_neg (by omega), if_pos (by omega), hgd]
            cases z2 : hs.getD (j + 1) none with
            | none => rfl
            | some o =>
              rw [z2] at hnew1
              obtain ⟨y, h3, _⟩ := newH1_le (ws := ws) (g := j + 1) (k := ks.getD (j + 1) none) (o := o) (now := now)
              rw [h3] at hnew1
              cases hnew1
          · by_cases z3 : j < i
            · rw [if_pos z3, if_pos (by omega)]
            · rw [if_neg z3, if_neg (by omega)]
      | some hv =>
        refine iteT ⟨_, rfl, g, dx7, _, rfl, hg7, lk_let_go _ _ _ _, _, rfl, _, rfl, g, wt, cd, ed, ws, cmi, eei, wd, hv, rfl, hG7, hD7, List.mem_of_getElem? hwd, fun y hy => ?_, fun H8 v8 cm8 k8 hG8 hm8 hl8 hD8 => ?_⟩
        · rw [hold] at hy
          rw [hy] at hnew1
          obtain ⟨y2, h3, h4⟩ := newH1_le (ws := ws) (g := i + 1) (k := ks.getD (i + 1) none) (o := y) (now := now)
          rw [h3] at hnew1
          cases hnew1
          exact h4
        · refine ⟨_, _, cm8, _, rfl, k6.trans ((kr.mono (by simp)).trans k8), hG8, hD8, fun r' => ?_, by omega, fun j w' hj => ?_⟩
          · rw [hm8, hcmi]
            constructor
            · rintro ⟨⟨h1, h2⟩, h3⟩
              refine ⟨h1, fun j h hj hx w' hw' => ?_⟩
              by_cases z : j = i
              · subst z
                rw [hho] at hx
                cases hx
                rw [hwd] at hw'
                cases hw'
                exact h3
              · exact h2 j h (by omega) hx w' hw'
            · rintro ⟨h1, h2⟩
              exact ⟨⟨h1, fun j h hj hx => h2 j h (by omega) hx⟩, h2 i hv (by omega) hho wd hwd⟩
          · show (if w' = wd then some hv else eei w') = _
            by_cases z : j = i
            · subst z
              rw [hwd] at hj
              cases hj
              rw [if_pos rfl, if_pos (by omega), hgd]
            · have : w' ≠ wd := fun e => z (ws_inj wok hj (e ▸ hwd))
              rw [if_neg this, hei j w' hj]
              by_cases z3 : j < i
              · rw [if_pos z3, if_pos (by omega)]
              · rw [if_neg z3, if_neg (by omega)]
    · rintro σ H5 ⟨o10, o11, cmi, eei, rfl, k6, hG6, hD6, hcmi, hlen, hei⟩
      have kX5 : Kp T.cF T.T [cd, ed] HX H5 := (kp5.mono (by simp)).trans k6
      have nc : ∀ b o, HX b = some o → (∀ kv, o ≠ .dT kv) → (∀ kv, o ≠ .dK kv) → b ∉ [cd, ed] := fun b o hb h1 h2 m => by
        rcases List.mem_cons.mp m with z | z
        · rw [z, hc4.dc] at hb
          exact h1 _ (Option.some.inj hb).symm
        · obtain ⟨kv, q, _⟩ := id hDX.ex
          rw [List.mem_singleton.mp z, q] at hb
          exact h2 _ (Option.some.inj hb).symm
      obtain ⟨⟨dz, hz1⟩, _⟩ := id hKX
      obtain ⟨⟨dy, hy1⟩, vy, hvy, hy2⟩ := id hEX
      have bpE : bp ∉ [cd, ed] := bpX
      exact ⟨_, rfl, k H5 nt cmi ht' eei (kkX.trans (kX5.mono (by simp))) (kX5.tup hntX) (hKX.kp kX5 (nc x _ hz1 (fun _ q => by cases q) (fun _ q => by cases q))) (hEX.kp kX5 (nc e _ hy1 (fun _ q => by cases q) (fun _ q => by cases q)) bpE) hG6 hD6
        (fun j w' hj => by rw [hei j w' hj, if_pos (List.getElem?_eq_some_iff.mp hj).1]) (hS.expire wok ok hH hcmi) hlen⟩
end
end Tg
/-! TgL4 -/
set_option Elab.async false
set_option linter.all false
set_option maxRecDepth 100000
set_option maxHeartbeats 4000000
/-! the law: finest_right -/
namespace Tg
open PySem PySem.Spec PyProof.Rows L2 LamX NdefX TgM
section
variable {P : Program} {w : World} {K : PySem.W.Frag} {mg : Str → Option Value} {base : Heap}
def sp_finest_right (T : Ev K mg base) : Sp := fun vs H Q _ => ∃ (x wt2 kt ht g wt cd ed t nt : Addr) (ws : List Int) (ks hs : List (Option Int)) (cm : List Rc) (tb : List Pt) (ti : Int), vs = [.ref x, .ref g, .ref t, .ref nt, .int ti] ∧
  Ke T.cK H x wt2 kt ht ws ks hs ∧ Gr T.cG T.cF H g wt cd ed false ws cm ∧ TabAt H t tb ∧ Bd tb ∧ H nt = some (.tup (hs.map oI)) ∧ SI cm ws hs tb ∧ HzOk ws hs ∧ ∀ H', Kp T.cF T.T [] H H' → Q (.bl true) H'
theorem sc_law_finest_right : FnScope ["_law_keeping", "_law_grains", "_law_table", "_law_horizons_here", "_law_time_here", "_law_grade", "_law_start", "_law_horizon"] ["_law_keeping", "_law_grains", "_law_table", "_law_horizons_here", "_law_time_here"] (defScope s_law_finest_right) := ⟨rfl, rfl, rfl, by decide +kernel, rfl, by decide +kernel, by decide +kernel⟩
theorem c_law_finest_right (T : Ev K mg base) : C8.Cal P w K mg base 4 "_law_finest_right" (sp_finest_right T) [] := by
  refine calD T.d_law_finest_right sc_law_finest_right (fun _ _ _ _ _ _ us hl => match us, hl with | [_, _, _, _, _], _ => rfl) (fun vs H Q E h => by obtain ⟨_, _, _, _, _, _, _, _, _, _, _, _, _, _, _, _, rfl, _⟩ := h; rfl) (fun f cdv A outer s H vs Q E hr h => ?_)
  obtain ⟨x, wt2, kt, ht, g, wt, cd, ed, t, nt, ws, ks, hs, cm, tb, ti, rfl, hK, hG, hT, bT, hnt, hS, hH, k⟩ := h
  have hu := hu_of hr
  obtain ⟨⟨dx, hg⟩, hw, hc, wok⟩ := id hG
  obtain ⟨⟨dxk, hx⟩, _, _, _, _, ok, hlk⟩ := id hK
  have hkl := ok.len
  refine ⟨_, (pss_cons (ps_set (i := 5) sc_law_finest_right.nd rfl (Or.inl rfl) (C8.pe_mt (m_finest T) hr (by decide) (pv 0) (pa_cons (pv 4) pa_nil)))
      (pss_cons (ps_if (pt_cmpR op_isN (pv 5) pe_non (nomark _)) (pss_one (ps_ret (pe_and (pe_cmpR op_notIn_seq pe_non (pv 3) (by rfl)) (pe_one (pe_cmpR op_lt (pv 4) (pe_callB (TgS.cr_minT rfl) (by rfl) T.b_min (by decide +kernel) (pa_cons (pv 3) pa_nil)) (nomark _))))))
        pss_nil)
      (pss_cons (ps_if (pt_cmpR op_eq (pv 5) pe_int (nomark _)) (pss_one (ps_ret (pe_or (pe_cmpR op_isN (pe_ix ix_tup (pv 3) pe_int (fun _ _ => rfl)) pe_non (nomark _)) (pe_one (pe_cmpR op_ge (pv 4) (pe_ix ix_tup (pv 3) pe_int (fun _ _ => rfl)) (nomark _))))))
        pss_nil)
      (pss_cons (ps_set (i := 6) sc_law_finest_right.nd rfl (Or.inl rfl) (pe_op op_mul (pe_op op_fdivW (pv 4) (pv 5)) (pv 5)))
      (pss_cons (ps_set (i := 7) sc_law_finest_right.nd rfl (Or.inl rfl) (pe_ix ix_tup (pv 3) (pe_op op_add pe_int (pe_bmF PySem.F.plainAttrs_tuple PySem.F.slot_tuple_index PySem.F.type_tuple_index TgS.mt_indexT (pe_fldC T.clG (T.naG _ (by decide)) (pv 1)) (pa_cons (pv 5) pa_nil))) (fun _ _ => rfl)))
      (pss_cons (ps_if (PW.pt (pw_or (pt_cmpR op_ge (pv 4) (pe_ix ix_tup (pv 3) pe_int (fun _ _ => rfl)) (nomark _)) (pw_or1 (PW.pt (pw_and (pt_cmpR op_notN (pv 7) pe_non (nomark _)) (pw_and1 (pt_cmpR op_lt (pv 6) (pv 7) (nomark _)))))))) (pss_one (ps_ret pe_bl))
        pss_nil)
      (pss_one (ps_ret (pe_cmpR (op_eqD hr.units) (C8.pe_c (c_law_read T) hr (by decide) rfl (pa_cons (C8.pe_mt (m_fold_at T) hr (by decide) (pv 1) (pa_cons pe_int (pa_cons (pv 5) (pa_cons (pv 4) pa_nil)))) pa_nil)) (C8.pe_c (c_law_cell T) hr (by decide) rfl (pa_cons (pv 2) (pa_cons (pv 5) (pa_cons (pv 6) pa_nil)))) (nomark _)))))))))), ?_⟩
  refine ⟨_, rfl, x, dxk, _, rfl, hx, lkk_finest _ _ _, _, rfl, x, wt2, kt, ht, ws, ks, hs, ti, rfl, hK, fun H1 k1 hall => ?_, fun H1 gi ho gv k1 hbef hgi hho hgv => ?_⟩
  · -- none
    obtain ⟨ys, hys⟩ : ∃ ys : List Int, hs = ys.map some := by
      refine ⟨hs.map fun o => o.getD 0, ?_⟩
      rw [List.map_map]
      refine (List.map_id hs).symm.trans (List.map_congr_left fun o ho => ?_)
      obtain ⟨i, hi⟩ := List.mem_iff_getElem?.mp ho
      obtain ⟨y, hy, _⟩ := hall i o hi
      rw [hy]
      rfl
    have hyo : hs.map oI = ys.map V.int := by rw [hys, List.map_map]; rfl
    have hnt1 := k1.tup hnt
    refine ⟨_, rfl, rfl, _, rfl, iteT ?_⟩
    refine ⟨_, rfl, nt, _, rfl, .inr (SqT.of hnt1), rfl, ?_, ?_⟩
    · rw [hyo]
      exact flat_ints ys
    have hin : inV V.non (hs.map oI) = false := by
      rw [hyo]
      unfold inV
      rw [List.any_eq_false]
      intro v hv
      obtain ⟨i, _, rfl⟩ := List.mem_map.mp hv
      simp [eqV]
    refine ⟨_, rfl, ?_⟩
    show if (!inV V.non (hs.map oI)) = true then _ else _
    rw [hin]
    rw [hyo] at hnt1
    have hyl : 0 < ys.length := by
      rw [hys, List.length_map] at hlk
      omega
    refine iteT ⟨_, rfl, _, rfl, nt, ys, rfl, SqT.of hnt1, hyl, fun mi hmi _ => ⟨_, _, rfl, rfl, ?_⟩⟩
    have hlt : ti < mi := by
      obtain ⟨i, hi⟩ := List.mem_iff_getElem?.mp hmi
      obtain ⟨y, hy, h2⟩ := hall i (some mi) (by rw [hys, List.getElem?_map, hi]; rfl)
      cases hy
      exact h2
    have kk := k H1 k1
    rw [← decide_eq_true hlt] at kk
    exact kk
  · have hnt1 := k1.tup hnt
    have hgl := (List.getElem?_eq_some_iff.mp hgi).1
    refine ⟨_, rfl, rfl, _, rfl, iteF ?_⟩
    by_cases hg0 : gi = 0
    · subst hg0
      have egv : gv = 0 := (Option.some.inj hgv).symm
      subst egv
      have at0 : atI (hs.map oI) 0 = some (oI ho) := atI_nat (j := 0) (by rw [List.getElem?_map, hgi]; rfl)
      refine ⟨_, rfl, rfl, _, rfl, iteT ?_⟩
      refine ⟨_, rfl, nt, _, 0, oI ho, rfl, rfl, SqT.of hnt1, at0, rfl, ?_⟩
      refine ⟨_, rfl, ?_⟩
      rw [oI_non]
      cases ho with
      | none => exact iteT (k H1 k1)
      | some y =>
        refine iteF ⟨_, rfl, _, rfl, nt, _, 0, .int y, rfl, rfl, SqT.of hnt1, at0, _, _, rfl, rfl, ?_⟩
        have kk := k H1 k1
        rw [← decide_eq_true (hho y rfl)] at kk
        exact kk
    · obtain ⟨i, rfl⟩ : ∃ i, gi = i + 1 := ⟨gi - 1, by omega⟩
      have hwi : ws[i]? = some gv := hgv
      have hb := wok.bd gv (List.mem_of_getElem? hwi)
      obtain ⟨h0, hh0⟩ : ∃ o, hs[0]? = some o := ⟨_, List.getElem?_eq_getElem (by omega)⟩
      obtain ⟨y0, hy0, hlt0⟩ := hbef 0 h0 (by omega) hh0
      subst hy0
      have at0 : atI (hs.map oI) 0 = some (.int y0) := atI_nat (j := 0) (by rw [List.getElem?_map, hh0]; rfl)
      refine ⟨_, rfl, rfl, _, rfl, ?_⟩
      rw [decide_eq_false (by intro z; have := V.int.inj z; omega)]
      refine iteF ?_
      refine ⟨_, rfl, _, rfl, _, _, rfl, rfl, dv hb.1 (by omega), _, rfl, _, _, rfl, rfl, mlr (j := gv) (by omega) (by omega), ?_⟩
      have hG1 := hG.kp k1 (by simp) (by simp)
      obtain ⟨⟨dx1, hg1⟩, hw1, hc1, _⟩ := id hG1
      have hidx : ws.idxOf gv = i := by
        have h1 : ws[ws.idxOf gv]? = some gv := by
          have := List.idxOf_lt_length_of_mem (List.mem_of_getElem? hwi)
          rw [List.getElem?_eq_getElem this, List.getElem_idxOf]
        exact ws_inj wok h1 hwi
      have hati : atI (hs.map oI) ((1 : Int) + (ws.idxOf gv : Nat)) = some (oI ho) := by
        rw [hidx, show ((1 : Int) + (i : Nat)) = ((i + 1 : Nat) : Int) by omega]
        exact atI_nat (by rw [List.getElem?_map, hgi]; rfl)
      refine ⟨_, rfl, _, rfl, g, dx1, _, _, rfl, hg1, lk_widths _ _ _ _, ⟨wt, _, rfl, hw1⟩, _, rfl, wt, ws, gv, rfl, rfl, hw1.sq, List.mem_of_getElem? hwi, _, _, rfl, rfl, nt, _, _, _, rfl, rfl, SqT.of hnt1, hati, ?_⟩
      refine ⟨_, rfl, _, rfl, nt, _, 0, .int y0, rfl, rfl, SqT.of hnt1, at0, _, _, rfl, rfl, _, rfl, ?_⟩
      rw [decide_eq_false (by omega)]
      refine iteF ⟨_, rfl, rfl, _, rfl, ?_⟩
      rw [oI_non]
      have hcd : ∀ h, ho = some h → h ≤ cel ti gv := fun h e => by
        subst e
        exact le_cel hb.1 (hH.dw wok hwi hgi) (hho h rfl)
      have fin : ∀ (Hx : Hp), True := fun _ => trivial
      have efd : fdAt cm gv (cel ti gv) = fo (pin tb (cel ti gv) (cel ti gv + gv)) := hS.fd wok hwi (cel_dvd _ _) fun h e => by
        rw [hgi] at e
        exact hcd h (Option.some.inj e)
      have last : True := trivial
      cases ho with
      | none =>
        refine iteF (iteF ?_)
        refine ⟨_, rfl, g, dx1, _, rfl, hg1, lk_fold_at _ _ _ _, _, rfl, _, rfl, g, wt, cd, ed, false, ws, cm, gv, ti, rfl, hG1, List.mem_of_getElem? hwi, fun H2 f2 k2 hf2 => ?_⟩
        refine ⟨f2, _, rfl, hf2, fun H3 v3 k3 d3 => ?_⟩
        refine ⟨_, rfl, _, rfl, _, rfl, t, tb, gv, cel ti gv, rfl, hT.kp (k1.trans (k2.trans k3)) (by simp), bT, fun H4 v4 k4 d4 => ?_⟩
        refine ⟨_, _, k4.dpv d3, d4, (sd_dFd _).sh (by decide), (sd_dFd _).sh (by decide), ?_⟩
        rw [eqv_dFd, decide_eq_true efd]
        exact k H4 (k1.trans (k2.trans (k3.trans k4)))
      | some h =>
        have hc := hcd h rfl
        refine iteT ⟨_, rfl, _, rfl, _, _, rfl, rfl, _, rfl, ?_⟩
        have : ¬ cel ti gv < h := by omega
        show if decide (cel ti gv < h) = true then _ else _
        rw [decide_eq_false this]
        refine iteF ?_
        refine ⟨_, rfl, g, dx1, _, rfl, hg1, lk_fold_at _ _ _ _, _, rfl, _, rfl, g, wt, cd, ed, false, ws, cm, gv, ti, rfl, hG1, List.mem_of_getElem? hwi, fun H2 f2 k2 hf2 => ?_⟩
        refine ⟨f2, _, rfl, hf2, fun H3 v3 k3 d3 => ?_⟩
        refine ⟨_, rfl, _, rfl, _, rfl, t, tb, gv, cel ti gv, rfl, hT.kp (k1.trans (k2.trans k3)) (by simp), bT, fun H4 v4 k4 d4 => ?_⟩
        refine ⟨_, _, k4.dpv d3, d4, (sd_dFd _).sh (by decide), (sd_dFd _).sh (by decide), ?_⟩
        rw [eqv_dFd, decide_eq_true efd]
        exact k H4 (k1.trans (k2.trans (k3.trans k4)))
end
end Tg
/-! TgL5 -/
set_option Elab.async false
set_option linter.all false
set_option maxRecDepth 100000
set_option maxHeartbeats 4000000
/-! the law: stands -/
namespace Tg
open PySem PySem.Spec PyProof.Rows L2 LamX NdefX TgM
theorem inV_ints (i : Int) (l : List Int) : inV (V.int i) (l.map V.int) = decide (i ∈ l) := by
  by_cases h : i ∈ l
  · rw [int_in h, decide_eq_true h]
  · rw [decide_eq_false h]
    unfold inV
    rw [List.any_eq_false]
    intro v hv
    obtain ⟨j, hj, rfl⟩ := List.mem_map.mp hv
    intro z
    have : j = i := by simpa [eqV] using z
    exact h (this ▸ hj)
def geB : Option Int → Int → Bool
  | none, _ => true
  | some h, s => decide (h ≤ s)
section
variable {P : Program} {w : World} {K : PySem.W.Frag} {mg : Str → Option Value} {base : Heap}
def sp_stands (T : Ev K mg base) : Sp := fun vs H Q _ => ∃ (g wt cd ed t nt : Addr) (ws : List Int) (hs : List (Option Int)) (cm : List Rc) (tb : List Pt), vs = [.ref g, .ref t, .ref nt] ∧
  Gr T.cG T.cF H g wt cd ed false ws cm ∧ TabAt H t tb ∧ Bd tb ∧ tb.length ≤ 1000 ∧ H nt = some (.tup (hs.map oI)) ∧ SI cm ws hs tb ∧ HzOk ws hs ∧ ∀ H', Kp T.cF T.T [] H H' → Q (.bl true) H'
theorem sc_law_stands : FnScope ["_law_grains", "_law_table", "_law_horizons_here", "_law_width", "_law_horizon", "_law_starts", "_law_kept", "_law_start", "_law_due_here", "_law_time_here"] ["_law_grains", "_law_table", "_law_horizons_here"] (defScope s_law_stands) := ⟨rfl, rfl, rfl, by decide +kernel, rfl, by decide +kernel, by decide +kernel⟩
theorem c_law_stands (T : Ev K mg base) : C8.Cal P w K mg base 4 "_law_stands" (sp_stands T) [] := by
  refine calD T.d_law_stands sc_law_stands (fun _ _ _ _ _ _ us hl => match us, hl with | [_, _, _], _ => rfl) (fun vs H Q E h => by obtain ⟨_, _, _, _, _, _, _, _, _, _, rfl, _⟩ := h; rfl) (fun f cdv A outer s H vs Q E hr h => ?_)
  obtain ⟨g, wt, cd, ed, t, nt, ws, hs, cm, tb, rfl, hG, hT, bT, htb, hnt, hS, hH, k⟩ := h
  have hu := hu_of hr
  obtain ⟨⟨dx, hg⟩, hw, hc, wok⟩ := id hG
  have hw4 := wok.len
  have hhl := hH.len
  have hw0 : 0 < ws.length := List.length_pos_iff.mpr wok.ne
  refine ⟨_, (pss_cons (ps_for PassesOwn.never rfl (RZ.pi_zipA (by rfl) T.b_zip (pa_cons (pe_fldC T.clG (T.naG _ (by decide)) (pv 0)) (pa_cons (pe_slice sl_tupA (pv 2) (po_some pe_int) po_none) pa_nil))) (pg_tup rfl (pgs_cons (pg_name (i := 3) sc_law_stands.nd rfl (Or.inr rfl)) (pgs_cons (pg_name (i := 4) sc_law_stands.nd rfl (Or.inr rfl)) pgs_nil)))
        (pss_cons (ps_set (i := 5) sc_law_stands.nd rfl (Or.inl rfl) (pe_sortedSet rfl (by rfl) T.b_sorted (by rfl) T.b_set (pe_lock (pe_lc (own := [("_law_time_here", 9)]) rfl sc_law_stands.nd (pi_keys (pv 1)) (blkOk_by (own := [("_law_time_here", 9)]) (N := ["_law_grains", "_law_table", "_law_horizons_here", "_law_width", "_law_horizon", "_law_starts", "_law_kept", "_law_start", "_law_due_here", "_law_time_here"]) (sc := defScope s_law_stands) (by decide +kernel)) (fun _ _ _ _ _ => (pg_name (i := 9) sc_law_stands.nd rfl (Or.inl rfl))) (fun _ _ _ _ _ => pts_nil) (fun _ _ _ _ _ => (pe_op op_mul (pe_op op_fdivW (pv 9) (pv 3)) (pv 3)))))))
        (pss_cons (ps_setLc (i := 6) (own := [("_law_start", 7)]) rfl sc_law_stands.nd rfl rfl (sw_true rfl rfl rfl (by decide +kernel)) (pi_list (pv 5)) (blkOk_by (own := [("_law_start", 7)]) (N := ["_law_grains", "_law_table", "_law_horizons_here", "_law_width", "_law_horizon", "_law_starts", "_law_kept", "_law_start", "_law_due_here", "_law_time_here"]) (sc := defScope s_law_stands) (by decide +kernel)) (fun _ _ _ _ _ => (pg_name (i := 7) sc_law_stands.nd rfl (Or.inl rfl))) (fun _ _ _ _ _ => (pts_one (PW.pt (pw_or (pt_cmpR op_isN (pv 4) pe_non (nomark _)) (pw_or1 (pt_cmpR op_ge (pv 7) (pv 4) (nomark _))))))) (fun _ _ _ _ _ => (pv 7)))
        (pss_cons (ps_if (pt_cmpR (op_neD hr.units) (C8.pe_mt (m_cells_of T) hr (by decide) (pv 0) (pa_cons pe_int (pa_cons (pv 3) pa_nil))) (pv 6) (nomark _)) (pss_one (ps_ret pe_bl))
          pss_nil)
        (pss_one (ps_for PassesOwn.never rfl (pi_list (pv 5)) (pg_name (i := 7) sc_law_stands.nd rfl (Or.inl rfl))
          (pss_cons (ps_set (i := 8) sc_law_stands.nd rfl (Or.inl rfl) (C8.pe_c (c_law_fold T) hr (by decide) rfl (pa_cons (pe_lst pa_nil) pa_nil)))
          (pss_cons (ps_if (pt_cmpR op_in_seq (pv 7) (pv 6) (by rfl)) (pss_one (ps_set (i := 8) sc_law_stands.nd rfl (Or.inl rfl) (C8.pe_c (c_law_cell T) hr (by decide) rfl (pa_cons (pv 1) (pa_cons (pv 3) (pa_cons (pv 7) pa_nil))))))
            pss_nil)
          (pss_one (ps_if (pt_cmpR (op_neD hr.units) (C8.pe_c (c_law_read T) hr (by decide) rfl (pa_cons (C8.pe_mt (m_fold_at T) hr (by decide) (pv 0) (pa_cons pe_int (pa_cons (pv 3) (pa_cons (pv 7) pa_nil)))) pa_nil)) (pv 8) (nomark _)) (pss_one (ps_ret pe_bl))
            pss_nil))))))))))
      (pss_one (ps_ret pe_bl))), ?_⟩
  have hxl : (ws.map V.int).length = ws.length := List.length_map _
  have hyl : (hs.map oI).length = hs.length := List.length_map _
  refine ⟨_, rfl, g, dx, _, _, rfl, hg, lk_widths _ _ _ _, _, rfl, 1, rfl, nt, _, rfl, SqT.of hnt, (fun z => ?_), fun _ p => ?_⟩
  · have e1 := HT.sIx_nat (hs.map oI).length 0 1
    rw [show ((1 : Nat) : Int) = 1 from rfl] at e1
    have z1 := z.1
    rw [e1] at z1
    omega
  intro np
  rw [cut_1]
  have kp5 : Kp T.cF T.T [] H (upd H p (.tup ((hs.map oI).drop 1))) := Kp.new np
  refine ⟨wt, p, _, _, rfl, .inr ⟨(hw.kp kp5).sq, SqT.of upd_same, ?_⟩⟩
  have hn : ws.length = min (ws.map V.int).length ((hs.map oI).drop 1).length := by
    rw [List.length_drop, hyl, hxl]
    omega
  refine for_it (walk_zipT (K := K) (a := wt) (b := p) (xs := ws.map V.int) (ys := (hs.map oI).drop 1) hn) (fun i σ H' => ∃ (o3 o4 o5 o6 o7 o8 : Option V), σ = [some (.ref g), some (.ref t), some (.ref nt), o3, o4, o5, o6, o7, o8, none] ∧ Kp T.cF T.T [] (upd H p (.tup ((hs.map oI).drop 1))) H')
    ⟨none, none, none, none, none, none, rfl, Kp.refl _⟩ (fun i σ H' _ ⟨_, _, _, _, _, _, _, k6⟩ => ⟨((hw.kp kp5).kp k6).sq, SqT.of (k6.tup upd_same)⟩) ?_ ?_
  · rintro i v σ H5 H6 hi ⟨o3, o4, o5, o6, o7, o8, rfl, k6⟩ ⟨r, u, u2, rfl, nr, rfl, e1, e2⟩
    obtain ⟨wd, hwd⟩ : ∃ o, ws[i]? = some o := ⟨_, List.getElem?_eq_getElem hi⟩
    obtain ⟨ho, hho⟩ : ∃ o, hs[i + 1]? = some o := ⟨_, List.getElem?_eq_getElem (by omega)⟩
    have e1 : u = .int wd := mapGet e1 hwd
    have e2 : u2 = oI ho := by
      have e3 : ((hs.map oI).drop 1)[i]? = some u2 := e2
      rw [List.getElem?_drop, Nat.add_comm] at e3
      exact mapGet e3 hho
    subst e1 e2
    have hb := wok.bd wd (List.mem_of_getElem? hwd)
    have kr : Kp T.cF T.T [] H5 (upd H5 r (.tup [.int wd, oI ho])) := Kp.new nr
    have k7 : Kp T.cF T.T [] H (upd H5 r (.tup [.int wd, oI ho])) := kp5.trans (k6.trans kr)
    refine ⟨r, _, rfl, SqT.of upd_same, rfl, _, _, rfl, _, _, rfl, rfl, ?_⟩
    have hT7 := hT.kp k7 (by simp)
    refine ⟨t, _, hT7.dc, trivial, fun od => ?_⟩
    refine ⟨_, rfl, t, od, rfl, .inl ⟨_, upd_same, fun D nD => ?_⟩⟩
    have htl : (tbK tb).length = tb.length := by unfold tbK; rw [List.length_map]
    refine lc_it (walk_keys (d := t) (o := od) (kvs := tbK tb)) (LcP T.cF T.T _ D fun j acc _ => acc = (((tb.map (·.1)).take j).map fun t => cel t wd).map V.int) (lc0 nD rfl) (fun j H' _ ⟨acc, _, _, k8, _⟩ => k8.any upd_same) ?_ ?_
    · rintro j x H7 H8 hj ⟨acc, ha, hl, k8, rfl⟩ ⟨rfl, kk, vv, hkv, rfl⟩
      rw [htl] at hj
      obtain ⟨pt, hpt⟩ : ∃ o, tb[j]? = some o := ⟨_, List.getElem?_eq_getElem hj⟩
      have ek : kk = Sum.inl pt.1 := by
        unfold tbK at hkv
        rw [List.getElem?_map, hpt] at hkv
        exact (Prod.mk.inj (Option.some.inj hkv)).1.symm
      subst ek
      refine ⟨rfl, yes_ ⟨_, rfl, _, rfl, _, _, rfl, rfl, dv hb.1 (by omega), _, rfl, _, _, rfl, rfl, mlr (j := wd) (by omega) (by omega), lcYes (Nat.lt_of_lt_of_le (by omega : j < 1000) (by decide)) nD k8 ha hl (Kp.refl _) ?_⟩⟩
      rw [take_snoc (x := pt.1) (by rw [List.getElem?_map, hpt]; rfl), List.map_append, List.map_append]
      rfl
    · rintro H7 ⟨acc, ha, hl, k8, rfl⟩
      refine ⟨k8.any upd_same, ?_⟩
      have k9 : Kp T.cF T.T [] _ (upd H7 t (.dK (tbK tb))) := Kp.lock hT7.dc trivial k8 (k8.any upd_same)
      have tD : t ≠ D := ne_of_none upd_same nD
      have haD : (upd H7 t (.dK (tbK tb))) D = some (.lst ((((tb.map (·.1)).take (tbK tb).length).map fun t => cel t wd).map V.int)) := by rw [upd_ne tD.symm]; exact ha
      rw [htl, List.take_of_length_le (by simp)] at haD
      refine ⟨D, (tb.map (·.1)).map fun t => cel t wd, rfl, SqL.of haD, by rw [List.length_map, List.length_map]; exact htb, fun ys q hys hmem nq => ?_⟩
      have ey := celsOf_eq (ts := tb.map (·.1)) (w := wd) hys hmem
      have hyln : ys.length ≤ 1000 := by
        rw [ey]
        refine Nat.le_trans (celsOf_len _ _) ?_
        rw [List.length_map]
        exact htb
      have hyx : (ys.map V.int).length = ys.length := List.length_map _
      have k10 : Kp T.cF T.T [] H (upd (upd H7 t (.dK (tbK tb))) q (.lst (ys.map V.int))) := k7.trans (k9.trans (Kp.new nq))
      have k510 : Kp T.cF T.T [] (upd H p (.tup ((hs.map oI).drop 1))) (upd (upd H7 t (.dK (tbK tb))) q (.lst (ys.map V.int))) := (k6.trans kr).trans (k9.trans (Kp.new nq))
      refine ⟨_, rfl, q, rfl, ⟨_, SqL.of upd_same⟩, fun D2 nD2 => ?_⟩
      refine lc_it (walk_list (K := K) (a := q) (xs := ys.map V.int)) (LcP T.cF T.T (upd (upd H7 t (.dK (tbK tb))) q (.lst (ys.map V.int))) D2 fun j acc _ => acc = ((ys.take j).filter (geB ho)).map V.int) (lc0 nD2 rfl) (fun j H' _ ⟨acc, _, _, k11, _⟩ => k11.lst (SqL.of upd_same)) ?_ ?_
      · rintro j x Ha Hb hj ⟨acc, ha2, hl2, k11, rfl⟩ ⟨rfl, ex⟩
        rw [hyx] at hj
        obtain ⟨z, hz⟩ : ∃ o, ys[j]? = some o := ⟨_, List.getElem?_eq_getElem hj⟩
        have ex : x = .int z := mapGet ex hz
        subst ex
        have hf := filter_snoc (p := geB ho) hz
        have hj2 : j < sizeLine := Nat.lt_of_lt_of_le (by omega : j < 1000) (by decide)
        have yes : geB ho z = true → LcP T.cF T.T (upd (upd H7 t (.dK (tbK tb))) q (.lst (ys.map V.int))) D2 (fun j acc _ => acc = ((ys.take j).filter (geB ho)).map V.int) (j + 1) Hb ∨ True := fun _ => .inr trivial
        refine ⟨rfl, _, rfl, rfl, _, rfl, ?_⟩
        rw [oI_non]
        cases ho with
        | none =>
          refine iteT (iteT ⟨_, rfl, lcYes hj2 nD2 k11 ha2 hl2 (Kp.refl _) ?_⟩)
          rw [hf, if_pos (show geB none z = true from rfl), List.map_append]
          rfl
        | some h =>
          refine iteF ⟨_, rfl, _, rfl, _, _, rfl, rfl, _, rfl, ?_⟩
          refine ite2 (fun e => ⟨_, rfl, lcYes hj2 nD2 k11 ha2 hl2 (Kp.refl _) ?_⟩) (fun e => lcNo k11 ha2 hl2 (Kp.refl _) ?_)
          · rw [hf, if_pos (show geB (some h) z = true from e), List.map_append]
            rfl
          · rw [hf, if_neg (show ¬ geB (some h) z = true from e), List.append_nil]
      · rintro Ha ⟨acc, ha2, hl2, k11, rfl⟩
        rw [hyx, List.take_length] at ha2
        have k12 := k10.trans k11
        have hG12 := hG.kp k12 (by simp) (by simp)
        obtain ⟨⟨dx12, hg12⟩, _⟩ := id hG12
        have hm := List.mem_of_getElem? hwd
        have geh : ∀ z, geB ho z = true ↔ ∀ h, hs[i + 1]? = some (some h) → h ≤ z := fun z => by
          rw [hho]
          cases ho with
          | none => exact ⟨fun _ h e => (by cases e), fun _ => rfl⟩
          | some h0 => exact ⟨fun e h e2 => (by cases e2; exact of_decide_eq_true e), fun e => decide_eq_true (e h0 rfl)⟩
        refine ⟨_, rfl, g, dx12, _, rfl, hg12, lk_cells_of _ _ _ _, _, rfl, g, wt, cd, ed, false, ws, cm, wd, rfl, hG12, hm, fun H9 p9 zs k13 hz9 hup hzm hzl => ?_⟩
        have ezs : zs = ys.filter (geB ho) := by
          refine ints_ext hup (List.Pairwise.filter _ hys) fun z => ?_
          rw [hzm, List.mem_filter, ey, mem_celsOf, geh]
          constructor
          · rintro ⟨r0, hr0, q1, q2, q3⟩
            obtain ⟨j, a1, a2, a3, a4⟩ := hS.inR r0 hr0
            rw [q1] at a1 a2 a4
            have := ws_inj wok a1 hwd
            subst this
            rw [q2] at a2 a3 a4
            refine ⟨?_, a3⟩
            rw [a4] at q3
            have hne : pin tb z (z + wd) ≠ [] := fun q => by
              rw [q] at q3
              exact absurd q3 (by decide)
            obtain ⟨pt, hpt⟩ := List.exists_mem_of_ne_nil _ hne
            obtain ⟨b1, b2⟩ := (mem_cell hb.1 a2).mp hpt
            exact ⟨pt.1, List.mem_map.mpr ⟨pt, b1, rfl⟩, b2⟩
          · rintro ⟨⟨tt, htt, e1⟩, e2⟩
            obtain ⟨pt, hpt, e3⟩ := List.mem_map.mp htt
            have e4 : cel pt.1 wd = z := by rw [e3]; exact e1
            obtain ⟨r0, hr0, b1, b2⟩ := hS.cov i wd hwd pt hpt (by rw [e4]; exact e2)
            obtain ⟨j, a1, a2, a3, a4⟩ := hS.inR r0 hr0
            refine ⟨r0, hr0, b1, b2.trans e4, ?_⟩
            rw [a4, b1, b2, e4]
            have hne : fo (pin tb z (z + wd)) = fo (pin tb z (z + wd)) := rfl
            have h1 := fo_count_nn (pin tb z (z + wd))
            have h2 : (fo (pin tb z (z + wd))).count ≠ 0 := fun q => by
              have h3 := fo_count_zero.mp q
              have h4 : pt ∈ pin tb z (z + wd) := (mem_cell hb.1 (by rw [← e4]; exact cel_dvd _ _)).mpr ⟨hpt, e4⟩
              rw [h3] at h4
              cases h4
            omega
        refine ⟨_, rfl, _, _, .lst (SqL.of hz9) (dp_ints zs), .lst (k13.lst (SqL.of ha2)) (dp_ints _), (sd_ints _).sh (by decide), (sd_ints _).sh (by decide), _, rfl, ?_⟩
        rw [eqv_ints, decide_eq_true ezs]
        refine iteF ?_
        have k14 := k12.trans k13
        have hq14 : SqL K H9 q (ys.map V.int) := k13.lst (k11.lst (SqL.of upd_same))
        have hD14 : SqL K H9 D2 ((ys.filter (geB ho)).map V.int) := k13.lst (SqL.of ha2)
        refine ⟨_, rfl, q, rfl, ⟨_, hq14⟩, ?_⟩
        refine for_it (walk_list (K := K) (a := q) (xs := ys.map V.int)) (fun j σ H' => ∃ (o7 o8 : Option V), σ = [some (.ref g), some (.ref t), some (.ref nt), some (.int wd), some (oI ho), some (.ref q), some (.ref D2), o7, o8, none] ∧ Kp T.cF T.T [] H9 H')
          ⟨_, _, rfl, Kp.refl _⟩ (fun j σ H' _ ⟨_, _, _, k15⟩ => k15.lst hq14) ?_ ?_
        · rintro j x σ Hb Hc hj ⟨o7, o8, rfl, k15⟩ ⟨rfl, ex⟩
          rw [hyx] at hj
          obtain ⟨z, hz⟩ : ∃ o, ys[j]? = some o := ⟨_, List.getElem?_eq_getElem hj⟩
          have ex : x = .int z := mapGet ex hz
          subst ex
          have hzm2 := List.mem_of_getElem? hz
          have hzc : wd ∣ z := by
            rw [ey] at hzm2
            obtain ⟨tt, _, e1⟩ := mem_celsOf.mp hzm2
            rw [← e1]
            exact cel_dvd _ _
          have hcz : cel z wd = z := cel_eq hb.1 hzc (Int.le_refl _) (by omega)
          refine ⟨Nat.zero_le _, fun e ne => ⟨e, [], rfl, ⟨SqL.of upd_same, fun x hx => (by cases hx)⟩, (fun x hx => (by cases hx)), Nat.zero_le _, fun Hd v1 kd d1 => ?_⟩⟩
          have kne : Kp T.cF T.T [] Hc (upd Hc e (.lst [])) := Kp.new ne
          have k16 := k15.trans (kne.trans kd)
          have e0 : fo ([] : List Pt) = F0 := rfl
          have hD16 : SqL K Hd D2 ((ys.filter (geB ho)).map V.int) := k16.lst hD14
          refine ⟨_, rfl, _, rfl, D2, _, rfl, .inl hD16, rfl, flat_ints _, _, rfl, ?_⟩
          show if inV (V.int z) ((ys.filter (geB ho)).map V.int) = true then _ else _
          rw [inV_ints]
          have mk : z ∈ ys.filter (geB ho) ↔ geB ho z = true := by rw [List.mem_filter]; exact ⟨fun h => h.2, fun h => ⟨hzm2, h⟩⟩
          by_cases hin : geB ho z = true
          · rw [decide_eq_true (mk.mpr hin)]
            refine iteT ⟨_, rfl, _, rfl, _, rfl, t, tb, wd, z, rfl, hT.kp (k14.trans k16) (by simp), bT, fun He v2 ke d2 => ?_⟩
            have k17 := k16.trans ke
            have hG17 := hG.kp (k14.trans k17) (by simp) (by simp)
            obtain ⟨⟨dx17, hg17⟩, _⟩ := id hG17
            refine ⟨_, rfl, g, dx17, _, rfl, hg17, lk_fold_at _ _ _ _, _, rfl, _, rfl, g, wt, cd, ed, false, ws, cm, wd, z, rfl, hG17, hm, fun Hf f1 kf hf1 => ⟨f1, _, rfl, hf1, fun Hg v3 kg d3 => ⟨_, rfl, _, _, d3, (kf.trans kg).dpv d2, (sd_dFd _).sh (by decide), (sd_dFd _).sh (by decide), _, rfl, ?_⟩⟩⟩
            rw [eqv_dFd, hcz, hS.fd wok hwd hzc ((geh z).mp hin), decide_eq_true rfl]
            exact iteF ⟨_, _, rfl, k17.trans (kf.trans kg)⟩
          · rw [decide_eq_false fun q => hin (mk.mp q)]
            refine iteF ?_
            have hG17 := hG.kp (k14.trans k16) (by simp) (by simp)
            obtain ⟨⟨dx17, hg17⟩, _⟩ := id hG17
            refine ⟨_, rfl, g, dx17, _, rfl, hg17, lk_fold_at _ _ _ _, _, rfl, _, rfl, g, wt, cd, ed, false, ws, cm, wd, z, rfl, hG17, hm, fun Hf f1 kf hf1 => ⟨f1, _, rfl, hf1, fun Hg v3 kg d3 => ⟨_, rfl, _, _, d3, (kf.trans kg).dpv d1, (sd_dFd _).sh (by decide), (sd_dFd _).sh (by decide), _, rfl, ?_⟩⟩⟩
            have hf0 : fdAt cm wd z = F0 := by
              cases ho with
              | none => exact absurd rfl hin
              | some h =>
                refine hS.fd0 wok hwd hho ?_
                have : ¬ h ≤ z := fun q => hin (decide_eq_true q)
                omega
            rw [eqv_dFd, hcz, hf0]
            have : decide (F0 = fo (([] : List (Addr × Pt)).map (·.2))) = true := decide_eq_true rfl
            rw [this]
            exact iteF ⟨_, _, rfl, k16.trans (kf.trans kg)⟩
        · rintro σ Hb ⟨o7, o8, rfl, k15⟩
          exact ⟨_, _, _, _, _, _, rfl, k510.trans (k11.trans (k13.trans k15))⟩
  · rintro σ H5 ⟨o3, o4, o5, o6, o7, o8, rfl, k6⟩
    exact k H5 (kp5.trans k6)
end
end Tg
/-! TgL6 -/
set_option Elab.async false
set_option linter.all false
set_option maxRecDepth 100000
set_option maxHeartbeats 4000000
/-! the law: one deed -/
namespace Tg
open PySem PySem.Spec PyProof.Rows L2 LamX NdefX TgM
/-- all that stands between two deeds -/
structure StAt {K : PySem.W.Frag} {mg : Str → Option Value} {base : Heap} (T : Ev K mg base) (H : Hp) (x e g t kt0 : Addr) (ws : List Int) (ks hs : List (Option Int)) (cm : List Rc) (tb : List Pt) : Prop where
  ex : ∃ (wt2 kt ht bp wt cd ed : Addr) (ee : Int → Option Int), Ke T.cK H x wt2 kt ht ws ks hs ∧ EgAt T.cE H e bp (edgeOf (hs.getD 0 none) tb) ∧ Gr T.cG T.cF H g wt cd ed false ws cm ∧ EdAt H ed ws ee ∧ (∀ (j : Nat) w, ws[j]? = some w → ee w = hs.getD (j + 1) none) ∧ t ≠ ed ∧ t ≠ bp
  tab : TabAt H t tb
  bd : Bd tb
  kt : H kt0 = some (.tup (ks.map oI))
  si : SI cm ws hs tb
  hz : HzOk ws hs
theorem EgAt.nel {CE : Addr} {H : Hp} {x bp : Addr} {eo : Option Pt} (h : EgAt CE H x bp eo) : ∃ kv, H bp = some (.dK kv) := let ⟨_, _, q⟩ := h.dc; ⟨_, q⟩
theorem Kp.sqlN {K : PySem.W.Frag} {C : Addr} {T : List (Addr × Str)} {M : List Addr} {H H' : Hp} (k : Kp C T M H H') (hM : ∀ b ∈ M, (∀ xs, H b ≠ some (.lst xs)) ∧ ∀ ob xs, H b ≠ some (.frz ob (.lst xs))) {c : Addr} {xs : List V} (h : SqL K H c xs) : SqL K H' c xs := by
  unfold SqL at h ⊢
  rcases h with h | h
  · refine .inl (h.elim (fun e => .inl (k.at e fun m => (hM c m).1 _ e)) fun ⟨ob, e⟩ => .inr ⟨ob, k.at e fun m => (hM c m).2 _ _ e⟩)
  · exact .inr h
/-- but for one purse all stays -/
theorem StAt.pu {K : PySem.W.Frag} {mg : Str → Option Value} {base : Heap} {T : Ev K mg base} {H H' : Hp} {x e g t kt0 a : Addr} {ws : List Int} {ks hs : List (Option Int)} {cm : List Rc} {tb : List Pt} {ls : List V} (ha : H a = some (.lst ls)) (k : Kp T.cF T.T [a] H H') (h : StAt T H x e g t kt0 ws ks hs cm tb) : StAt T H' x e g t kt0 ws ks hs cm tb := by
  obtain ⟨⟨wt2, kt, ht, bp, wt, cd, ed, ee, h1, h2, h3, h4, h5, h6, h7⟩, b1, b2, b3, b4, b5⟩ := h
  have na : ∀ b o, H b = some o → (∀ l, o ≠ .lst l) → b ∉ [a] := fun b o hb hn m => by
    rw [List.mem_singleton.mp m, ha] at hb
    exact hn _ (Option.some.inj hb).symm
  obtain ⟨⟨d1, q1⟩, _⟩ := id h1
  obtain ⟨⟨d2, q2⟩, _⟩ := id h2
  obtain ⟨⟨d3, q3⟩, _⟩ := id h3
  obtain ⟨kv, q4⟩ := h2.nel
  obtain ⟨kw, q5, _⟩ := id h4.ex
  exact ⟨⟨wt2, kt, ht, bp, wt, cd, ed, ee, h1.kp k (na _ _ q1 fun _ z => by cases z), h2.kp k (na _ _ q2 fun _ z => by cases z) (na _ _ q4 fun _ z => by cases z), h3.kp k (na _ _ q3 fun _ z => by cases z) (na _ _ h3.cs.dc fun _ z => by cases z), h4.kp k (na _ _ q5 fun _ z => by cases z), h5, h6, h7⟩,
    b1.kp k (na _ _ b1.dc fun _ z => by cases z), b2, k.tup b3, b4, b5⟩
theorem paired_rows {K : PySem.W.Frag} {H : Hp} : ∀ {l : List (Addr × Int × Option Int)}, (∀ x ∈ l, H x.1 = some (.tup [.int x.2.1, oI x.2.2])) → Paired (fun p (kv : Key × V) => SqT K H p [kV kv.1, kv.2]) (l.map (·.1)) (l.map fun x => ((Sum.inl x.2.1 : Key), oI x.2.2))
  | [], _ => .nil
  | x :: l, h => .cons (SqT.of (h x (by simp))) (paired_rows fun y hy => h y (by simp [hy]))
theorem edge_news {hz0 : Option Int} {tb af : List Pt} {nw : List (Int × Option Int)} (ht : Srt tb) (hA : After tb nw af) (hn : ∀ h, hz0 = some h → ∀ x ∈ nw.map (·.1), h ≤ x) : edgeOf hz0 tb = edgeOf hz0 af := by
  unfold edgeOf
  congr 1
  refine srt_ext (ht.filter _) (hA.srt.filter _) fun p => ?_
  rw [List.mem_filter, List.mem_filter]
  cases hz0 with
  | none => exact ⟨fun z => (by cases z.2), fun z => (by cases z.2)⟩
  | some h =>
    have hb : ltB (some h) p = true ↔ p.1 < h := by
      show decide (p.1 < h) = true ↔ _
      exact decide_eq_true_iff
    rw [hb]
    constructor
    · rintro ⟨z1, z2⟩
      refine ⟨(hA.mem p.1 p.2).mpr (.inr ⟨fun m => ?_, z1⟩), z2⟩
      have := hn h rfl p.1 m
      omega
    · rintro ⟨z1, z2⟩
      rcases (hA.mem p.1 p.2).mp z1 with y | ⟨_, y⟩
      · have := hn h rfl p.1 (List.mem_map.mpr ⟨_, y, rfl⟩)
        omega
      · exact ⟨y, z2⟩
theorem st_news {K : PySem.W.Frag} {mg : Str → Option Value} {base : Heap} {T : Ev K mg base} {H H' : Hp} {x e g t kt0 wt2 kt ht bp wt cd ed : Addr} {ee : Int → Option Int} {ws : List Int} {ks hs : List (Option Int)} {cm cm' : List Rc} {tb af : List Pt} {nw : List (Int × Option Int)}
    (hK : Ke T.cK H x wt2 kt ht ws ks hs) (hE : EgAt T.cE H e bp (edgeOf (hs.getD 0 none) tb)) (hG : Gr T.cG T.cF H g wt cd ed false ws cm) (hD : EdAt H ed ws ee) (hee : ∀ (j : Nat) w, ws[j]? = some w → ee w = hs.getD (j + 1) none) (ted : t ≠ ed) (tbp : t ≠ bp) (hT : TabAt H t tb) (hkt : H kt0 = some (.tup (ks.map oI))) (hz : HzOk ws hs)
    (kR : Kp T.cF T.T [g, cd, t] H H') (hG' : Gr T.cG T.cF H' g wt cd ed false ws cm') (hT' : TabAt H' t af) (bA : Bd af) (hS' : SI cm' ws hs af) (hA : After tb nw af) (hn : ∀ h, hs.getD 0 none = some h → ∀ y ∈ nw.map (·.1), h ≤ y) : StAt T H' x e g t kt0 ws ks hs cm' af := by
  obtain ⟨⟨d1, q1⟩, _⟩ := id hK
  obtain ⟨⟨d2, q2⟩, _⟩ := id hE
  obtain ⟨⟨d3, q3⟩, _⟩ := id hG
  obtain ⟨kv, q4⟩ := hE.nel
  obtain ⟨kw, q5, _⟩ := id hD.ex
  have q6 := hG.cs.dc
  have q7 := hT.dc
  have xg : x ≠ g := fun z => by
    rw [z, q3] at q1
    have := congrArg List.length (HO.ins.inj (Option.some.inj q1)).2.2
    simp [kFs, gFs] at this
  have eg : e ≠ g := fun z => by
    rw [z, q3] at q2
    have := congrArg List.length (HO.ins.inj (Option.some.inj q2)).2.2
    simp [eFs, gFs] at this
  have xcd : x ≠ cd := fun z => by rw [z, q6] at q1; cases q1
  have xt : x ≠ t := fun z => by rw [z, q7] at q1; cases q1
  have ecd : e ≠ cd := fun z => by rw [z, q6] at q2; cases q2
  have et : e ≠ t := fun z => by rw [z, q7] at q2; cases q2
  have bg : bp ≠ g := fun z => by rw [z, q3] at q4; cases q4
  have bcd : bp ≠ cd := fun z => by rw [z, q6] at q4; cases q4
  have dg : ed ≠ g := fun z => by rw [z, q3] at q5; cases q5
  have dcd : ed ≠ cd := fun z => by rw [z, q6] at q5; cases q5
  rw [edge_news hT.srt hA hn] at hE
  exact ⟨⟨wt2, kt, ht, bp, wt, cd, ed, ee, hK.kp kR (by simp [xg, xcd, xt]), hE.kp kR (by simp [eg, ecd, et]) (by simp [bg, bcd, tbp.symm]), hG', hD.kp kR (by simp [dg, dcd, ted.symm]), hee, ted, tbp⟩, hT', bA, kR.tup hkt, hS', hz⟩
section
variable {P : Program} {w : World} {K : PySem.W.Frag} {mg : Str → Option Value} {base : Heap}
def sp_deed_right (T : Ev K mg base) : Sp := fun vs H Q _ => ∃ (a th t nt x e g kt0 : Addr) (m b n : Int) (ws : List Int) (ks hs : List (Option Int)) (cm : List Rc) (tb : List Pt), vs = [.ref a, .ref th, .ref t, .ref nt, .int b, .int n] ∧ PurseAt H a m ∧ m ≤ 549755812000 ∧ -1000000000000000 < b ∧ b < 1000000000000000 ∧
  H th = some (.tup [.ref x, .ref e, .ref g, .ref kt0]) ∧ H nt = some (.tup (hs.map oI)) ∧ StAt T H x e g t kt0 ws ks hs cm tb ∧ tb.length ≤ 900 ∧ cm.length ≤ 9000 ∧ Tabs T.T H ∧
  ∀ H' nt' hs' cm' tb', Tabs T.T H' → StAt T H' x e g t kt0 ws ks hs' cm' tb' → H' nt' = some (.tup (hs'.map oI)) → PurseAt H' a (m + 200) → H' th = some (.tup [.ref x, .ref e, .ref g, .ref kt0]) → (∀ c xs, c ≠ a → SqL K H c xs → SqL K H' c xs) → (∀ c ps, WT H c ps → WT H' c ps) → tb'.length ≤ tb.length + 8 → cm'.length ≤ cm.length + 32 → Q (.ref nt') H'
theorem sc_law_deed_right : FnScope ["_law_purse_here", "_law_things", "_law_table", "_law_horizons_here", "_law_base_here", "_law_a_number", "_law_keeping", "_law_edges", "_law_grains", "_law_keeps_here", "_law_wide", "_law_now", "_law_news_here", "_law_keep", "_law_time_here"] ["_law_purse_here", "_law_things", "_law_table", "_law_horizons_here", "_law_base_here", "_law_a_number"] (defScope s_law_deed_right) := ⟨rfl, rfl, rfl, by decide +kernel, rfl, by decide +kernel, by decide +kernel⟩
theorem c_law_deed_right (T : Ev K mg base) : C8.Cal P w K mg base 9 "_law_deed_right" (sp_deed_right T) [] := by
  refine calD T.d_law_deed_right sc_law_deed_right (fun _ _ _ _ _ _ us hl => match us, hl with | [_, _, _, _, _, _], _ => rfl) (fun vs H Q E h => by obtain ⟨_, _, _, _, _, _, _, _, _, _, _, _, _, _, _, _, rfl, _⟩ := h; rfl) (fun f cdv A outer s H vs Q E hr h => ?_)
  obtain ⟨a, th, t, nt, x, e, g, kt0, m, b, n, ws, ks, hs, cm, tb, rfl, hp, hm, b0, b1, hth, hnt, hSt, htl, hcl, hTb, k⟩ := h
  have hu := hu_of hr
  refine ⟨_, (pss_cons (ps_asg (pv 1) (pg_tup rfl (pgs_cons (pg_name (i := 6) sc_law_deed_right.nd rfl (Or.inl rfl)) (pgs_cons (pg_name (i := 7) sc_law_deed_right.nd rfl (Or.inl rfl)) (pgs_cons (pg_name (i := 8) sc_law_deed_right.nd rfl (Or.inl rfl)) (pgs_cons (pg_name (i := 9) sc_law_deed_right.nd rfl (Or.inl rfl)) pgs_nil))))))
      (pss_cons (ps_if (pt_cmpR op_eq (C8.pe_c (c_law_draw T) hr (by decide) rfl (pa_cons (pv 0) (pa_cons pe_int pa_nil))) pe_int (nomark _)) (pss_cons (ps_set (i := 10) sc_law_deed_right.nd rfl (Or.inl rfl) (pe_ix ix_list (pe_lst (pa_cons (pe_ix ix_tup (pe_fldC T.clG (T.naG _ (by decide)) (pv 8)) pe_int (fun _ _ => rfl)) (pa_cons (pe_ix ix_tup (pe_fldC T.clG (T.naG _ (by decide)) (pv 8)) (pe_un un_neg pe_int) (fun _ _ => rfl)) pa_nil))) (C8.pe_c (c_law_draw T) hr (by decide) rfl (pa_cons (pv 0) (pa_cons pe_int pa_nil))) (fun _ _ => rfl)))
        (pss_cons (ps_set (i := 11) sc_law_deed_right.nd rfl (Or.inl rfl) (pe_op op_add (pe_op op_sub (pe_op op_add (pv 4) (C8.pe_c (c_law_draw T) hr (by decide) rfl (pa_cons (pv 0) (pa_cons (pe_op op_mul pe_int (pv 10)) pa_nil)))) (pe_op op_mul pe_int (pv 10))) (pe_ix ix_list (pe_lc (own := [("_law_keep", 13)]) rfl sc_law_deed_right.nd (pi_tup (pe_op op_catA (pv 9) (pe_tup (pa_cons pe_int pa_nil)))) (blkOk_by (own := [("_law_keep", 13)]) (N := ["_law_purse_here", "_law_things", "_law_table", "_law_horizons_here", "_law_base_here", "_law_a_number", "_law_keeping", "_law_edges", "_law_grains", "_law_keeps_here", "_law_wide", "_law_now", "_law_news_here", "_law_keep", "_law_time_here"]) (sc := defScope s_law_deed_right) (by decide +kernel)) (fun _ _ _ _ _ => (pg_name (i := 13) sc_law_deed_right.nd rfl (Or.inl rfl))) (fun _ _ _ _ _ => (pts_one (pt_cmpR op_notN (pv 13) pe_non (nomark _)))) (fun _ _ _ _ _ => (pv 13))) pe_int (fun _ _ => rfl))))
        (pss_one (ps_ret (C8.pe_c (c_law_expired T) hr (by decide) rfl (pa_cons (pv 6) (pa_cons (pv 7) (pa_cons (pv 8) (pa_cons (pv 2) (pa_cons (pv 3) (pa_cons (pv 11) (pa_cons (pv 9) pa_nil))))))))))))
        pss_nil)
      (pss_cons (ps_set (i := 12) sc_law_deed_right.nd rfl (Or.inr rfl) (C8.pe_c (c_law_news T) hr (by decide) rfl (pa_cons (pv 0) (pa_cons (pv 2) (pa_cons (pv 4) (pa_cons (pe_fldC T.clG (T.naG _ (by decide)) (pv 8)) pa_nil))))))
      (pss_cons (ps_if (pt_cmpR op_notN (pe_ix (ixTK (K := K) rfl) (pv 3) pe_int (fun _ _ => rfl)) pe_non (nomark _)) (pss_one (ps_set (i := 12) sc_law_deed_right.nd rfl (Or.inr rfl) (pe_callTy (call_dictP rfl) (by rfl) T.b_dict (by decide +kernel) (pa_cons (pe_lc (own := [("_law_time_here", 14)]) rfl sc_law_deed_right.nd (pi_list (pe_callB (call_sortedDA rfl) (by rfl) T.b_sorted (by decide +kernel) (pa_cons (pv 12) pa_nil))) (blkOk_by (own := [("_law_time_here", 14)]) (N := ["_law_purse_here", "_law_things", "_law_table", "_law_horizons_here", "_law_base_here", "_law_a_number", "_law_keeping", "_law_edges", "_law_grains", "_law_keeps_here", "_law_wide", "_law_now", "_law_news_here", "_law_keep", "_law_time_here"]) (sc := defScope s_law_deed_right) (by decide +kernel)) (fun _ _ _ _ _ => (pg_name (i := 14) sc_law_deed_right.nd rfl (Or.inl rfl))) (fun _ _ _ _ _ => (pts_one (pt_cmpR op_ge (pv 14) (pe_ix (ixTK (K := K) rfl) (pv 3) pe_int (fun _ _ => rfl)) (nomark _)))) (fun _ _ _ _ _ => (pe_tup (pa_cons (pv 14) (pa_cons (pe_dget hu (pv 12) (pv 14) (fun _ _ => rfl)) pa_nil))))) pa_nil))))
        pss_nil)
      (pss_cons (ps_if (pt_not (pt_val (C8.pe_c (c_law_renewed T) hr (by decide) rfl (pa_cons (pv 8) (pa_cons (pv 2) (pa_cons (pv 12) (pa_cons (pe_ix (ixTK (K := K) rfl) (pv 3) pe_int (fun _ _ => rfl)) (pa_cons (pv 5) pa_nil)))))))) (pss_one (ps_ret pe_non))
        pss_nil)
      (pss_one (ps_ret (pv 3)))))))), ?_⟩
  refine ⟨_, rfl, th, _, rfl, SqT.of hth, rfl, _, _, rfl, _, _, rfl, _, _, rfl, _, _, rfl, rfl, ?_⟩
  obtain ⟨ls, hls⟩ := hp.lst
  refine ⟨_, rfl, a, 3, m, rfl, hp, by omega, by decide, by decide, fun d H1 c0 c1 d1 hp1 => ⟨rfl, _, rfl, ?_⟩⟩
  have k1 := hp.kp (C := T.cF) (T := T.T) d1
  have hSt1 := hSt.pu hls k1
  obtain ⟨w0, wr0, hws⟩ : ∃ y r, ws = y :: r := by
    obtain ⟨_, _, _, _, _, _, _, _, _, _, h3, _⟩ := hSt.ex
    cases ws with
    | nil => exact absurd rfl h3.wok.ne
    | cons y r => exact ⟨y, r, rfl⟩
  obtain ⟨wt2, kt, ht, bp, wt, cd, ed, ee, hK1, hE1, hG1, hD1, hee, ted, tbp⟩ := hSt1.ex
  have wok := hG1.wok
  obtain ⟨wn, hwn⟩ : ∃ y, ws.getLast? = some y := ⟨_, List.getLast?_eq_some_getLast wok.ne⟩
  have hw0 : 0 < w0 ∧ w0 ≤ 1000000000000 := wok.bd w0 (by rw [hws]; simp)
  have hwl : 0 < wn ∧ wn ≤ 1000000000000 := wok.bd wn (List.mem_of_getLast? hwn)
  have at0 : atI (ws.map V.int) 0 = some (.int w0) := atI_nat (j := 0) (by rw [hws]; rfl)
  have atn : atI (ws.map V.int) (-1) = some (.int wn) := atLast (by rw [List.getLast?_map, hwn]; rfl)
  obtain ⟨⟨dx1, hg1⟩, hw1, hc1, _⟩ := id hG1
  refine ite2 (fun _ => ?_) (fun _ => ?_)
  · refine ⟨_, rfl, g, dx1, _, _, rfl, hg1, lk_widths _ _ _ _, wt, _, 0, .int w0, rfl, rfl, hw1.sq, at0, _, rfl, g, dx1, _, _, rfl, hg1, lk_widths _ _ _ _, _, rfl, wt, _, -1, .int wn, rfl, rfl, hw1.sq, atn, two_le, fun q nq => ?_⟩
    have kq : Kp T.cF T.T [] H1 (upd H1 q (.lst [.int w0, .int wn])) := Kp.new nq
    have hpq := hp1.st kq (by simp)
    refine ⟨_, rfl, a, 2, m + 3, rfl, hpq, by omega, by decide, by decide, fun d2 H2 e0 e1 f2 hp2 => ?_⟩
    have k2 := hpq.kp (C := T.cF) (T := T.T) f2
    have hq2 : H2 q = some (.lst [.int w0, .int wn]) := by
      rw [f2 q (hp1.ne nq)]
      exact upd_same
    obtain ⟨v, ev, mv⟩ := pick (xs := [V.int w0, .int wn]) e0 (by simpa using e1)
    obtain ⟨wi, rfl, h1, h2⟩ : ∃ wi, v = .int wi ∧ 0 < wi ∧ wi ≤ 1000000000000 := by
      simp only [List.mem_cons, List.not_mem_nil, or_false] at mv
      rcases mv with rfl | rfl <;> exact ⟨_, rfl, by omega, by omega⟩
    refine ⟨q, _, d2, _, rfl, rfl, SqL.of hq2, ev, ?_⟩
    refine ⟨_, rfl, _, rfl, _, rfl, _, _, rfl, rfl, mll (by decide) (by decide), a, 6 * wi, m + 3 + 3, rfl, hp2, by omega, by omega, by omega, fun d3 H3 g0 g1 f3 hp3 => ?_⟩
    have k3 := hp2.kp (C := T.cF) (T := T.T) f3
    have kA : Kp T.cF T.T [a] H H3 := k1.trans ((kq.one).trans (k2.trans k3))
    have hSt3 := hSt.pu hls kA
    have hkt3 := hSt3.kt
    refine ⟨_, _, rfl, rfl, _, rfl, _, _, rfl, rfl, mll (by decide) (by decide), _, _, rfl, rfl, ?_⟩
    refine ⟨_, rfl, (by show 1 ≤ sizeLine; decide), fun p np => ⟨kt0, p, _, _, rfl, rfl, (Kp.new (C := T.cF) (T := T.T) (M := []) np).sqt (SqT.of hkt3), SqT.of upd_same, ?_, (fun z => ?_), (fun _ z => by cases z), fun _ _ r nr => ⟨r, rfl, ⟨_, SqT.of upd_same⟩, fun D nD => ?_⟩⟩⟩
    · rw [List.length_map, hK1.ksok.len]
      exact Nat.le_trans (Nat.add_le_add_right (Nat.add_le_add_right wok.len 1) 1) (by decide)
    · have h9 := hK1.ksok.len
      rw [List.map_eq_nil_iff.mp z] at h9
      cases h9
    have kp0 : Kp T.cF T.T [] H3 (upd (upd H3 p (.tup [.int 0])) r (.tup (ks.map oI ++ [.int 0]))) := (Kp.new np).trans (Kp.new nr)
    refine lc_it (walk_tup (K := K) (a := r) (xs := ks.map oI ++ [V.int 0])) (LcP T.cF T.T (upd (upd H3 p (.tup [.int 0])) r (.tup (ks.map oI ++ [.int 0]))) D fun i acc _ => acc = ((ks.map oI ++ [V.int 0]).take i).filter fun v => !decide (v = .non)) (lc0 nD rfl) (fun i H' _ ⟨acc, _, _, kl, _⟩ => SqT.of (kl.tup upd_same)) ?_ ?_
    · rintro i y Ha Hb hi ⟨acc, ha, hl, kl, rfl⟩ ⟨rfl, ex⟩
      have hi6 : i < 6 := by
        have h9 := hK1.ksok.len
        have h8 := wok.len
        rw [List.length_append, List.length_map] at hi
        simp at hi
        omega
      have hf := filter_snoc (p := fun v : V => !decide (v = .non)) ex
      refine ⟨rfl, _, rfl, rfl, _, rfl, ?_⟩
      refine ite2 (fun e => ⟨_, rfl, lcYes (Nat.lt_of_lt_of_le hi6 (by decide)) nD kl ha hl (Kp.refl _) ?_⟩) (fun e => lcNo kl ha hl (Kp.refl _) ?_)
      · rw [hf, if_pos e]
      · rw [hf, if_neg e, List.append_nil]
    · rintro Ha ⟨acc, ha, hl, kl, ea⟩
      rw [List.take_length] at ea
      obtain ⟨kv, hkv⟩ : ∃ kv, acc[0]? = some (V.int kv) := by
        have hne : acc ≠ [] := fun z => by
          have : V.int 0 ∈ acc := by rw [ea]; simp
          rw [z] at this
          cases this
        have hpos : 0 < acc.length := List.length_pos_iff.mpr hne
        have hmem : acc[0] ∈ acc := List.getElem_mem hpos
        rw [List.getElem?_eq_getElem hpos]
        have hm2 : acc[0] ∈ (ks.map oI ++ [V.int 0]).filter fun v => !decide (v = .non) := by
          have := hmem
          generalize acc[0] = v0 at this ⊢
          rw [ea] at this
          exact this
        obtain ⟨q1, q2⟩ := List.mem_filter.mp hm2
        rcases List.mem_append.mp q1 with q1 | q1
        · obtain ⟨o, _, q3⟩ := List.mem_map.mp q1
          cases o with
          | none =>
            rw [← q3] at q2
            simp [oI] at q2
          | some kv => exact ⟨kv, by rw [← q3]; rfl⟩
        · exact ⟨0, by rw [List.mem_singleton.mp q1]⟩
      have kZ : Kp T.cF T.T [a] H Ha := kA.trans (kp0.trans kl).one
      have hStZ := hSt.pu hls kZ
      obtain ⟨wt2', kt', ht', bp', wt', cd', ed', ee', hKz, hEz, hGz, hDz, heez, tedz, tbpz⟩ := hStZ.ex
      refine ⟨D, _, 0, .int kv, rfl, rfl, SqL.of ha, atI_nat (j := 0) hkv, _, _, rfl, rfl, ?_⟩
      refine ⟨_, rfl, _, rfl, _, rfl, _, rfl, _, rfl, _, rfl, _, rfl, x, wt2', kt', ht', e, bp', g, wt', cd', ed', t, nt, kt0, ws, ks, hs, cm, ee', tb, _, rfl, hKz, hEz, hGz, hDz, heez, hStZ.tab, kZ.tup hnt, hStZ.kt, hStZ.si, hStZ.hz, kZ.tb hTb, fun H' nt' cm' ht2 ee2 kR hnt' hK' hE' hG' hD' hee' hS' hl' => ?_⟩
      obtain ⟨⟨y1, q1⟩, _⟩ := id hKz
      obtain ⟨kv4, q4⟩ := hEz.nel
      obtain ⟨kw5, q5, _⟩ := id hDz.ex
      have q3 := hGz.cs.dc
      have kinds : ∀ c ∈ [x, bp', cd', ed'], (∃ dx fs, Ha c = some (.ins T.cK dx fs)) ∨ (∃ kv, Ha c = some (.dK kv)) ∨ ∃ kv, Ha c = some (.dT kv) := fun c m => by
        simp only [List.mem_cons, List.not_mem_nil, or_false] at m
        rcases m with rfl | rfl | rfl | rfl
        · exact .inl ⟨_, _, q1⟩
        · exact .inr (.inl ⟨_, q4⟩)
        · exact .inr (.inr ⟨_, q3⟩)
        · exact .inr (.inl ⟨_, q5⟩)
      have nl : ∀ c ∈ [x, bp', cd', ed'], (∀ xs, Ha c ≠ some (.lst xs)) ∧ ∀ ob xs, Ha c ≠ some (.frz ob (.lst xs)) := fun c m => by
        rcases kinds c m with ⟨_, _, z⟩ | ⟨_, z⟩ | ⟨_, z⟩ <;> exact ⟨fun xs y => (by rw [z] at y; cases y), fun ob xs y => (by rw [z] at y; cases y)⟩
      have hpZ : PurseAt Ha a (m + 9) := (hp3.st (kp0.trans kl) (by simp)).mono (by omega)
      obtain ⟨lz, hlz⟩ := hpZ.lst
      have aM : a ∉ [x, bp', cd', ed'] := fun m => (nl a m).1 _ hlz
      have tM : t ∉ [x, bp', cd', ed'] := fun m => by
        have hd := hStZ.tab.dc
        simp only [List.mem_cons, List.not_mem_nil, or_false] at m
        rcases m with z | z | z | z
        · rw [z, q1] at hd; cases hd
        · exact tbpz z
        · rw [z, q3] at hd; cases hd
        · exact tedz z
      refine k H' nt' _ cm' tb (kR.tb (kZ.tb hTb)) ⟨⟨wt2', kt', ht2, bp', wt', cd', ed', ee2, hK', hE', hG', hD', hee', tedz, tbpz⟩, hStZ.tab.kp kR tM, hSt.bd, kR.tup hStZ.kt, hS', hSt.hz.step wok hK1.ksok⟩ hnt' ((hpZ.st kR aM).mono (by omega)) (kR.tup (kZ.tup hth)) (fun c xs hca hc => kR.sqlN nl (kZ.seqL (by simpa using hca) hc)) (fun c ps hc => (hc.kp kZ).kp kR) (by omega) (by omega)
  · obtain ⟨hs0, hhs0⟩ : ∃ o, hs[0]? = some o := ⟨_, List.getElem?_eq_getElem (by rw [hSt.hz.len]; omega)⟩
    have at0h : atI (hs.map oI) 0 = some (oI hs0) := atI_nat (j := 0) (by rw [List.getElem?_map, hhs0]; rfl)
    refine ⟨_, rfl, _, rfl, _, rfl, _, rfl, g, dx1, _, _, rfl, hg1, lk_widths _ _ _ _, a, t, wt, b, m + 3, ws, tb, rfl, hp1, by omega, hSt1.tab, b0, b1, hw1, wok, fun H2 n1 nw k2 hp2 hN hnl => ?_⟩
    have kA : Kp T.cF T.T [a] H H2 := k1.trans k2
    have hSt2 := hSt.pu hls kA
    refine ⟨_, rfl, nt, _, 0, oI hs0, rfl, rfl, SqT.of (kA.tup hnt), at0h, rfl, _, rfl, ?_⟩
    rw [oI_non]
    cases hs0 with
    | none =>
      refine iteF ?_
      obtain ⟨wt2', kt', ht', bp', wt', cd', ed', ee', hKz, hEz, hGz, hDz, heez, tedz, tbpz⟩ := hSt2.ex
      refine ⟨_, rfl, _, rfl, _, rfl, _, rfl, nt, _, 0, .non, rfl, rfl, SqT.of (kA.tup hnt), at0h, _, rfl, g, wt', cd', ed', t, n1, ws, cm, tb, nw, hs, none, n, rfl, hGz, hSt2.tab, hSt2.bd, hN, hSt2.si, hSt2.hz, hhs0, (fun h z => by cases z), by omega, by omega, kA.tb hTb, fun H' cm' af kR hG' hT' bA hS' hA hal hcl' => ?_⟩
      refine ⟨true, rfl, iteF ?_⟩
      have ehs0 : hs.getD 0 none = none := by rw [List.getD_eq_getElem?_getD, hhs0]; rfl
      have nlM : ∀ c ∈ [g, cd', t], (∀ xs, H2 c ≠ some (.lst xs)) ∧ ∀ ob xs, H2 c ≠ some (.frz ob (.lst xs)) := fun c mc => by
        obtain ⟨⟨d3, q3⟩, _⟩ := id hGz
        have q6 := hGz.cs.dc
        have q7 := hSt2.tab.dc
        simp only [List.mem_cons, List.not_mem_nil, or_false] at mc
        rcases mc with rfl | rfl | rfl
        · exact ⟨fun xs y => (by rw [q3] at y; cases y), fun ob xs y => (by rw [q3] at y; cases y)⟩
        · exact ⟨fun xs y => (by rw [q6] at y; cases y), fun ob xs y => (by rw [q6] at y; cases y)⟩
        · exact ⟨fun xs y => (by rw [q7] at y; cases y), fun ob xs y => (by rw [q7] at y; cases y)⟩
      obtain ⟨lz, hlz⟩ := hp2.lst
      have aM : a ∉ [g, cd', t] := fun mc => (nlM a mc).1 _ hlz
      exact ⟨_, rfl, k H' nt hs cm' af (kR.tb (kA.tb hTb)) (st_news hKz hEz hGz hDz heez tedz tbpz hSt2.tab hSt2.kt hSt2.hz kR hG' hT' bA hS' hA (fun h z => by rw [ehs0] at z; cases z)) (kR.tup (kA.tup hnt)) ((hp2.st kR aM).mono (by omega)) (kR.tup (kA.tup hth)) (fun c xs hca hc => kR.sqlN nlM (kA.seqL (by simpa using hca) hc)) (fun c ps hc => (hc.kp kA).kp kR) (by omega) (by omega)⟩
    | some h =>
      refine iteT ?_
      refine ⟨_, rfl, n1, _, nw.map (·.1), rfl, .inl hN.dc, nwK_keys nw, fun ys q hpy hsy nq => ⟨q, rfl, ⟨_, SqL.of upd_same⟩, fun D nD => ?_⟩⟩
      have kq : Kp T.cF T.T [] H2 (upd H2 q (.lst (ys.map V.int))) := Kp.new nq
      have hyx : (ys.map V.int).length = ys.length := List.length_map _
      have hyl : ys.length = nw.length := by rw [hpy.length_eq, List.length_map]
      refine lc_it (walk_list (K := K) (a := q) (xs := ys.map V.int)) (LcP T.cF T.T (upd H2 q (.lst (ys.map V.int))) D fun i acc H' => ∃ l : List (Addr × Int × Option Int), acc = l.map (fun x => V.ref x.1) ∧ (∀ x ∈ l, H' x.1 = some (.tup [.int x.2.1, oI x.2.2])) ∧ l.map (·.2.1) = (ys.take i).filter (fun z => decide (h ≤ z)) ∧ ∀ x ∈ l, x.2 ∈ nw)
        (lc0 nD ⟨[], rfl, fun x hx => (by simp at hx), rfl, fun x hx => (by simp at hx)⟩) (fun i H' _ ⟨acc, _, _, kl, _⟩ => kl.lst (SqL.of upd_same)) ?_ ?_
      · rintro i y Ha Hb hi ⟨acc, ha, hl, kl, l, rfl, hx, hlm, hln⟩ ⟨rfl, ex⟩
        rw [hyx] at hi
        obtain ⟨z, hz⟩ : ∃ z, ys[i]? = some z := ⟨_, List.getElem?_eq_getElem hi⟩
        have ex : y = .int z := mapGet ex hz
        subst ex
        have hzm : z ∈ nw.map (·.1) := hpy.mem_iff.mp (List.mem_of_getElem? hz)
        obtain ⟨⟨z', o⟩, hzo, ez⟩ := List.mem_map.mp hzm
        have ez : z' = z := ez
        subst ez
        have g1 : DGet Hb n1 (.int z') (some (oI o)) := by
          have := DGet.k (k := Sum.inl z') ((kq.trans kl).any hN.dc)
          rw [valV_nwK hN.nd hzo] at this
          exact this
        have hf := filter_snoc (p := fun z => decide (h ≤ z)) hz
        refine ⟨rfl, _, rfl, _, rfl, nt, _, 0, .int h, rfl, rfl, SqT.of ((kq.trans kl).tup (kA.tup hnt)), at0h, _, _, rfl, rfl, _, rfl, ?_⟩
        refine ite2 (fun e => ⟨_, rfl, _, rfl, _, rfl, n1, oI o, rfl, g1, two_le, fun r nr => lcYes (Nat.lt_of_lt_of_le (by omega : i < 10) (by decide)) nD kl ha hl (Kp.new nr) ⟨l ++ [(r, z', o)], by simp, fun w hw => ?_, ?_, fun w hw => ?_⟩⟩) (fun e => lcNo kl ha hl (Kp.refl _) ⟨l, rfl, hx, ?_, hln⟩)
        · have kD : Kp T.cF T.T [D] (upd Hb r (.tup [.int z', oI o])) (upd (upd Hb r (.tup [.int z', oI o])) D (.lst (l.map (fun x => V.ref x.1) ++ [.ref r]))) := Kp.set ((Kp.new (C := T.cF) (T := T.T) (M := []) nr).any ha) (by simp) trivial
          rcases List.mem_append.mp hw with hw | hw
          · exact kD.tup ((Kp.new (C := T.cF) (T := T.T) (M := []) nr).tup (hx w hw))
          · rw [List.mem_singleton.mp hw]
            exact kD.tup upd_same
        · rw [List.map_append, hlm, hf, if_pos e]
          rfl
        · rcases List.mem_append.mp hw with hw | hw
          · exact hln w hw
          · rw [List.mem_singleton.mp hw]
            exact hzo
        · rw [hlm, hf, if_neg e, List.append_nil]
      · rintro Ha ⟨acc, ha, hl, kl, l, rfl, hx, hlm, hln⟩
        rw [hyx, List.take_length] at hlm
        have hnd : (l.map (·.2.1)).Nodup := by
          rw [hlm]
          exact List.Nodup.sublist List.filter_sublist (hpy.nodup_iff.mpr hN.nd)
        refine ⟨D, l.map (·.1), l.map fun x => ((Sum.inl x.2.1 : Key), oI x.2.2), rfl, SqL.of (by rw [List.map_map]; exact ha), paired_rows hx, fun p np => ?_⟩
        have em : mergeK [] (l.map fun x => ((Sum.inl x.2.1 : Key), oI x.2.2)) = nwK (l.map (·.2)) := by
          rw [merge_new]
          · unfold nwK
            rw [List.nil_append, List.map_map]
            rfl
          · rw [List.nil_append, List.map_map]
            have : (((·.1) : Key × V → Key) ∘ fun x : Addr × Int × Option Int => ((Sum.inl x.2.1 : Key), oI x.2.2)) = Sum.inl ∘ fun x : Addr × Int × Option Int => x.2.1 := rfl
            rw [this, ← List.map_map]
            exact List.Pairwise.map _ (fun a b hab e => hab (Sum.inl.inj e)) hnd
        rw [em]
        have kB : Kp T.cF T.T [] H2 (upd Ha p (.dK (nwK (l.map (·.2))))) := kq.trans (kl.trans (Kp.new np))
        have hl2 : l.length ≤ nw.length := by
          have := congrArg List.length hlm
          rw [List.length_map] at this
          rw [this, ← hyl]
          exact List.length_filter_le _ _
        have hN2 : NewsAt (upd Ha p (.dK (nwK (l.map (·.2))))) p (l.map (·.2)) := ⟨upd_same, by rw [List.map_map]; exact hnd, by rw [List.length_map]; omega, fun t' v hv => by
          obtain ⟨y, hy, ey⟩ := List.mem_map.mp hv
          have := hln y hy
          rw [ey] at this
          exact hN.bd _ _ this⟩
        have hge : ∀ h', some h = some h' → ∀ y ∈ (l.map (·.2)).map (·.1), h' ≤ y := fun h' e y hy => by
          cases e
          rw [List.map_map] at hy
          have hy : y ∈ l.map (·.2.1) := hy
          rw [hlm, List.mem_filter] at hy
          exact of_decide_eq_true hy.2
        have kAz : Kp T.cF T.T [a] H (upd Ha p (.dK (nwK (l.map (·.2))))) := kA.trans kB.one
        have hSt3 := hSt.pu hls kAz
        have hp2z := hp2.st kB (by simp)
        obtain ⟨wt2', kt', ht', bp', wt', cd', ed', ee', hKz, hEz, hGz, hDz, heez, tedz, tbpz⟩ := hSt3.ex
        refine ⟨_, rfl, _, rfl, _, rfl, _, rfl, nt, _, 0, .int h, rfl, rfl, SqT.of (kAz.tup hnt), at0h, _, rfl, g, wt', cd', ed', t, p, ws, cm, tb, l.map (·.2), hs, some h, n, rfl, hGz, hSt3.tab, hSt3.bd, hN2, hSt3.si, hSt3.hz, hhs0, hge, by rw [List.length_map]; omega, by rw [List.length_map]; omega, kAz.tb hTb, fun H' cm' af kR hG' hT' bA hS' hA hal hcl' => ?_⟩
        refine ⟨true, rfl, iteF ?_⟩
        have ehs0 : hs.getD 0 none = some h := by rw [List.getD_eq_getElem?_getD, hhs0]; rfl
        have nlM : ∀ c ∈ [g, cd', t], (∀ xs, (upd Ha p (.dK (nwK (l.map (·.2))))) c ≠ some (.lst xs)) ∧ ∀ ob xs, (upd Ha p (.dK (nwK (l.map (·.2))))) c ≠ some (.frz ob (.lst xs)) := fun c mc => by
          obtain ⟨⟨d3, q3⟩, _⟩ := id hGz
          have q6 := hGz.cs.dc
          have q7 := hSt3.tab.dc
          simp only [List.mem_cons, List.not_mem_nil, or_false] at mc
          rcases mc with rfl | rfl | rfl
          · exact ⟨fun xs y => (by rw [q3] at y; cases y), fun ob xs y => (by rw [q3] at y; cases y)⟩
          · exact ⟨fun xs y => (by rw [q6] at y; cases y), fun ob xs y => (by rw [q6] at y; cases y)⟩
          · exact ⟨fun xs y => (by rw [q7] at y; cases y), fun ob xs y => (by rw [q7] at y; cases y)⟩
        obtain ⟨lz, hlz⟩ := hp2z.lst
        have aM : a ∉ [g, cd', t] := fun mc => (nlM a mc).1 _ hlz
        exact ⟨_, rfl, k H' nt hs cm' af (kR.tb (kAz.tb hTb)) (st_news hKz hEz hGz hDz heez tedz tbpz hSt3.tab hSt3.kt hSt3.hz kR hG' hT' bA hS' hA (fun h2 z => hge h2 (by rw [← z, ehs0]))) (kR.tup (kAz.tup hnt)) ((hp2z.st kR aM).mono (by omega)) (kR.tup (kAz.tup hth)) (fun c xs hca hc => kR.sqlN nlM (kAz.seqL (by simpa using hca) hc)) (fun c ps hc => (hc.kp kAz).kp kR) (by rw [List.length_map] at hal; omega) (by rw [List.length_map] at hcl'; omega)⟩
end
end Tg
/-! TgL7 -/
set_option Elab.async false
set_option linter.all false
set_option maxRecDepth 100000
set_option maxHeartbeats 4000000
/-! the law: the makers -/
namespace Tg
open PySem PySem.Spec PyProof.Rows L2 LamX NdefX TgM
section
variable {X : Cx} {e : Expr} {es : List Expr} {t : TA} {p pos : Pos}
theorem pe_mkG (T : Ev X.K X.mg X.base) (hr : Room 3 X.A) (hg : Gl X "Grains") (ha : PA X (e :: es) t) (he : starEach (e :: es) X.env = (false, eval e X.env) :: starEach es X.env := by rfl) (hpl : (backTo pos (starEach es X.env)).any (·.1) = false := by rfl) : PE X (.Call (.Name "Grains" p) (e :: es) [] pos) (tMake T.cG (sp_Ginit T) [] E0 t) := by
  obtain ⟨f, fd, F, M, hm⟩ := T.mG
  exact pe_make M (k_Ginit T F) hr hg hm (F.bindsN (fun _ _ _ _ _ _ us hl => match us, hl with | [_, _], _ => rfl)) .nil pass0 ha (he := he) (hpl := hpl)
theorem pe_mkE (T : Ev X.K X.mg X.base) (hr : Room 2 X.A) (hg : Gl X "Edges") : PE X (.Call (.Name "Edges" p) [] [] pos) (tMake T.cE (sp_Einit T) [] E0 tNil) := by
  obtain ⟨f, fd, F, M, hm⟩ := T.mE
  exact pe_make0 M (k_Einit T F) hr hg hm (F.bindsN (fun _ _ _ _ _ _ us hl => match us, hl with | [_], _ => rfl)) .nil pass0
theorem b_Kinit {K : PySem.W.Frag} {f : Addr} {fd : FuncData} (F : FunD K "__init__" "Keeping.__init__" (defArgs s_Kinit) (defBody s_Kinit) (defScope s_Kinit) [] [("horizons", .non)] f fd) : ∃ ds, Vals ([("horizons", V.non)].map (·.2)) ds ∧ Binds K fd ["self", "widths", "keeps", "horizons"] ds := by
  refine F.binds0 3 (by decide) rfl ?_
  intro D doc pm an cdv ct us ks hu hk
  match us, hu, ks, hk with
  | [_, _, _], _, [_], _ => exact ⟨_, _, _, _, _, _, rfl, rfl, rfl⟩
theorem pe_mkK (T : Ev X.K X.mg X.base) (hr : Room 3 X.A) (hg : Gl X "Keeping") (ha : PA X (e :: es) t) (he : starEach (e :: es) X.env = (false, eval e X.env) :: starEach es X.env := by rfl) (hpl : (backTo pos (starEach es X.env)).any (·.1) = false := by rfl) : PE X (.Call (.Name "Keeping" p) (e :: es) [] pos) (tMake T.cK (sp_Kinit T) [.non] E0 t) := by
  obtain ⟨f, fd, F, M, hm⟩ := T.mK
  obtain ⟨ds, hd, hb⟩ := b_Kinit F
  exact pe_make M (k_Kinit T F) hr hg hm hb hd pass0 ha (he := he) (hpl := hpl)
end
end Tg
/-! TgL8 -/
set_option Elab.async false
set_option linter.all false
set_option maxRecDepth 100000
set_option maxHeartbeats 4000000
/-! the law -/
namespace Tg
open PySem PySem.Spec PyProof.Rows L2 LamX NdefX TgM
theorem sql_new {K : PySem.W.Frag} {H H' : Hp} {p sa : Addr} {xs : List V} (hp : H p = none) (h : SqL K H sa xs) (f : sa ≠ p → SqL K H sa xs → SqL K H' sa xs) : SqL K H' sa xs := by
  rcases id h with z | z
  · refine f (fun e => ?_) h
    subst e
    rcases z with z | ⟨_, z⟩ <;> (rw [hp] at z; cases z)
  · exact .inr z
/-- all stays -/
theorem StAt.kp0 {K : PySem.W.Frag} {mg : Str → Option Value} {base : Heap} {T : Ev K mg base} {H H' : Hp} {x e g t kt0 : Addr} {ws : List Int} {ks hs : List (Option Int)} {cm : List Rc} {tb : List Pt} (k : Kp T.cF T.T [] H H') (h : StAt T H x e g t kt0 ws ks hs cm tb) : StAt T H' x e g t kt0 ws ks hs cm tb := by
  obtain ⟨⟨wt2, kt, ht, bp, wt, cd, ed, ee, h1, h2, h3, h4, h5, h6, h7⟩, b1, b2, b3, b4, b5⟩ := h
  exact ⟨⟨wt2, kt, ht, bp, wt, cd, ed, ee, h1.kp k (by simp), h2.kp k (by simp) (by simp), h3.kp k (by simp) (by simp), h4.kp k (by simp), h5, h6, h7⟩,
    b1.kp k (by simp), b2, k.tup b3, b4, b5⟩
theorem lt_add_of_dvd {w h z : Int} (hw : 0 < w) (h1 : w ∣ h) (h2 : w ∣ z) : h < z + w ↔ h ≤ z := by
  obtain ⟨a, rfl⟩ := h1
  obtain ⟨b, rfl⟩ := h2
  constructor
  · intro q
    have q2 : w * a < w * (b + 1) := by rw [Int.mul_add, Int.mul_one]; exact q
    have q3 := Int.lt_of_mul_lt_mul_left q2 (Int.le_of_lt hw)
    exact Int.mul_le_mul_of_nonneg_left (by omega) (Int.le_of_lt hw)
  · intro q
    omega
theorem fo_pos {l : List Pt} (h : l ≠ []) : 0 < (fo l).count := by
  have h1 := fo_count_nn l
  have h2 : (fo l).count ≠ 0 := fun q => h (fo_count_zero.mp q)
  omega
/-- right is True of all points -/
theorem SI.wdOk {cm : List Rc} {ws : List Int} {hz : List (Option Int)} {tb : List Pt} {ee : Int → Option Int} (S : SI cm ws hz tb) (hw : WsOk ws) (hH : HzOk ws hz) (ht : Srt tb) (bT : Bd tb) (hl : tb.length ≤ 10000)
    (hee : ∀ (j : Nat) w, ws[j]? = some w → ee w = hz.getD (j + 1) none) {wd : Int} (hm : wd ∈ ws) : WdOk cm ee tb wd := by
  obtain ⟨i, hi⟩ := mem_ws hm
  have hb := hw.bd wd hm
  have e0 := hee i wd hi
  have hil := (List.getElem?_eq_some_iff.mp hi).1
  have hhl := hH.len
  obtain ⟨ho, hho⟩ : ∃ o, hz[i + 1]? = some o := ⟨_, List.getElem?_eq_getElem (by omega)⟩
  have e1 : ee wd = ho := by
    rw [e0, List.getD_eq_getElem?_getD, hho]
    rfl
  have key : ∀ z, wd ∣ z → ((∀ x, ee wd = some x → x < z + wd) ↔ ∀ h, hz[i + 1]? = some (some h) → h ≤ z) := fun z hz' => by
    rw [e1, hho]
    constructor
    · intro q h e
      have e := Option.some.inj e
      exact (lt_add_of_dvd hb.1 (hH.dw hw hi (by rw [hho, e])) hz').mp (q h e)
    · intro q h e
      exact (lt_add_of_dvd hb.1 (hH.dw hw hi (by rw [hho, e])) hz').mpr (q h (by rw [e]))
  refine ⟨ht, bT, hl, fun z => ⟨?_, ?_⟩, fun p hp h => ?_⟩
  · rintro ⟨r, hr, q1, q2, q3⟩
    obtain ⟨j, a1, a2, a3, a4⟩ := S.inR r hr
    rw [q1] at a1 a2 a4
    have := ws_inj hw a1 hi
    subst this
    rw [q2] at a2 a3 a4
    rw [a4] at q3
    have hne : pin tb z (z + wd) ≠ [] := fun q => by
      rw [q] at q3
      exact absurd q3 (by decide)
    obtain ⟨pt, hpt⟩ := List.exists_mem_of_ne_nil _ hne
    obtain ⟨b1, b2⟩ := (mem_cell hb.1 a2).mp hpt
    exact ⟨pt, b1, b2, (key z a2).mpr a3⟩
  · rintro ⟨p, hp, rfl, h⟩
    have hd := cel_dvd p.1 wd
    obtain ⟨r, hr, b1, b2⟩ := S.cov i wd hi p hp ((key _ hd).mp h)
    obtain ⟨j, a1, a2, a3, a4⟩ := S.inR r hr
    refine ⟨r, hr, b1, b2, ?_⟩
    rw [a4, b1, b2]
    have h4 : p ∈ pin tb (cel p.1 wd) (cel p.1 wd + wd) := (mem_cell hb.1 hd).mpr ⟨hp, rfl⟩
    exact fo_pos fun q => by rw [q] at h4; cases h4
  · have hd := cel_dvd p.1 wd
    exact S.fd hw hi hd ((key _ hd).mp h)
theorem valV_endN {ws : List Int} {w : Int} (h : w ∈ ws) : valV (ws.map fun w => ((Sum.inl w : Key), V.non)) (Sum.inl w : Key) = some .non := by
  induction ws with
  | nil => cases h
  | cons z r ih =>
    by_cases e : z = w
    · subst e
      exact valV_pos rfl
    · rcases List.mem_cons.mp h with q | q
      · exact absurd q.symm e
      · rw [List.map_cons, valV_neg fun z => e (Sum.inl.inj z)]
        exact ih q
theorem cut_21 (xs : List V) : (cutV xs none (some 21)).length ≤ 21 := by
  unfold cutV
  rw [List.length_take, show ((21 : Int)) = ((21 : Nat) : Int) from rfl, HT.sIx_nat]
  omega
section
variable {P : Program} {w : World} {K : PySem.W.Frag} {mg : Str → Option Value} {base : Heap}
def sp_law (T : Ev K mg base) : Sp := fun vs H Q _ => ∃ (sa : Addr) (ns : List Int), vs = [.ref sa] ∧ SqL K H sa (ns.map V.int) ∧ ns.length ≤ 63 ∧ Tabs T.T H ∧ ∀ H', Q (.bl true) H'
theorem sc_law : FnScope ["_law_script", "_law_purse_here", "_law_widths_here", "_law_keeps_here", "_law_base_here", "_law_things", "_law_horizons_here", "_law_table", "_law_cell_here", "_law_time_here", "_law_keep"] ["_law_script"] (defScope s_law) := ⟨rfl, rfl, rfl, by decide +kernel, rfl, by decide +kernel, by decide +kernel⟩
theorem k_law (T : Ev K mg base) {f : Addr} {fd : FuncData} (F : FunD K "law" "law" (defArgs s_law) (defBody s_law) (defScope s_law) [] [] f fd) : FnOk P w K mg base CX0 10 f fd ["_law_script"] (sp_law T) := by
  refine okC F sc_law (fun vs H Q E h => by obtain ⟨_, _, rfl, _⟩ := h; rfl) (fun cdv A outer s H vs Q E hcd hr h => ?_)
  obtain ⟨sa, ns, rfl, hS, hns, hTb, k⟩ := h
  have hu := hu_of hr
  refine ⟨_, (pss_cons (ps_set (i := 1) sc_law.nd rfl (Or.inl rfl) (C8.pe_c (c_law_purse T) hr (by decide) rfl (pa_cons (pv 0) (pa_cons pe_int pa_nil))))
      (pss_cons (ps_set (i := 2) sc_law.nd rfl (Or.inl rfl) (C8.pe_c (c_law_widths T) hr (by decide) rfl (pa_cons (pv 1) pa_nil)))
      (pss_cons (ps_set (i := 3) sc_law.nd rfl (Or.inl rfl) (C8.pe_c (c_law_keeps T) hr (by decide) rfl (pa_cons (pv 1) (pa_cons (pv 2) pa_nil))))
      (pss_cons (ps_set (i := 4) sc_law.nd rfl (Or.inl rfl) (C8.pe_c (c_law_base T) hr (by decide) rfl (pa_cons (pv 1) pa_nil)))
      (pss_cons (ps_set (i := 5) sc_law.nd rfl (Or.inl rfl) (pe_tup (pa_cons (pe_mkK T (hr.mono (by decide)) (by rfl) (pa_cons (pv 2) (pa_cons (pv 3) pa_nil))) (pa_cons (pe_mkE T (hr.mono (by decide)) (by rfl)) (pa_cons (pe_mkG T (hr.mono (by decide)) (by rfl) (pa_cons (pv 2) pa_nil)) (pa_cons (pv 3) pa_nil))))))
      (pss_cons (ps_set (i := 6) sc_law.nd rfl (Or.inl rfl) (pe_callTy call_tuple_of (by rfl) T.b_tuple (by decide +kernel) (pa_cons (pe_lc (own := [("_law_keep", 10)]) rfl sc_law.nd (pi_tup (pv 3)) (blkOk_by (own := [("_law_keep", 10)]) (N := ["_law_script", "_law_purse_here", "_law_widths_here", "_law_keeps_here", "_law_base_here", "_law_things", "_law_horizons_here", "_law_table", "_law_cell_here", "_law_time_here", "_law_keep"]) (sc := defScope s_law) (by decide +kernel)) (fun _ _ _ _ _ => (pg_name (i := 10) sc_law.nd rfl (Or.inl rfl))) (fun _ _ _ _ _ => pts_nil) (fun _ _ _ _ _ => pe_non)) pa_nil)))
      (pss_cons (ps_set (i := 7) sc_law.nd rfl (Or.inr rfl) pe_dnewK)
      (pss_cons (ps_for PassesOwn.never rfl (pi_range2 (by rfl) T.b_range (pa_cons pe_int (pa_cons (pe_callB (call_max2 rfl) (by rfl) T.b_max (by decide +kernel) (pa_cons pe_int (pa_cons (pe_callB call_len_seq (by rfl) T.b_len (by decide +kernel) (pa_cons (pe_slice sl_list (pv 0) po_none (po_some pe_int)) pa_nil)) pa_nil))) pa_nil))) (pg_name (i := 8) sc_law.nd rfl (Or.inl rfl))
        (pss_cons (ps_set (i := 1) sc_law.nd rfl (Or.inl rfl) (C8.pe_c (c_law_purse T) hr (by decide) rfl (pa_cons (pv 0) (pa_cons (pv 8) pa_nil))))
        (pss_cons (ps_set (i := 6) sc_law.nd rfl (Or.inl rfl) (C8.pe_c (c_law_deed_right T) hr (by decide) rfl (pa_cons (pv 1) (pa_cons (pv 5) (pa_cons (pv 7) (pa_cons (pv 6) (pa_cons (pv 4) (pa_cons (pv 8) pa_nil))))))))
        (pss_cons (ps_if (PW.pt (pw_or (pt_cmpR op_isN (pv 6) pe_non (nomark _)) (pw_or1 (pt_not (pt_val (C8.pe_c (c_law_stands T) hr (by decide) rfl (pa_cons (pe_ix ix_tup (pv 5) pe_int (fun _ _ => rfl)) (pa_cons (pv 7) (pa_cons (pv 6) pa_nil))))))))) (pss_one (ps_ret pe_bl))
          pss_nil)
        (pss_one (ps_for PassesOwn.never rfl (pi_list (pe_lst (pa_cons (C8.pe_c (c_law_time T) hr (by decide) rfl (pa_cons (pv 1) (pa_cons (pv 4) (pa_cons (pv 2) pa_nil)))) (pa_cons (pe_ix ix_list (pe_op op_cat (pe_lst (pa_cons (pv 4) pa_nil)) (pe_callB (call_sortedDA rfl) (by rfl) T.b_sorted (by decide +kernel) (pa_cons (pv 7) pa_nil))) (pe_un un_neg pe_int) (fun _ _ => rfl)) (pa_cons (pe_ix ix_list (pe_op op_cat (pe_callB (call_sortedDA rfl) (by rfl) T.b_sorted (by decide +kernel) (pa_cons (pv 7) pa_nil)) (pe_lst (pa_cons (pv 4) pa_nil))) pe_int (fun _ _ => rfl)) pa_nil))))) (pg_name (i := 9) sc_law.nd rfl (Or.inl rfl))
          (pss_one (ps_if (pt_not (pt_val (C8.pe_c (c_law_finest_right T) hr (by decide) rfl (pa_cons (pe_ix ix_tup (pv 5) pe_int (fun _ _ => rfl)) (pa_cons (pe_ix ix_tup (pv 5) pe_int (fun _ _ => rfl)) (pa_cons (pv 7) (pa_cons (pv 6) (pa_cons (pv 9) pa_nil)))))))) (pss_one (ps_ret pe_bl))
            pss_nil))))))))
      (pss_one (ps_ret (C8.pe_mt (m_right T) hr (by decide) (pe_ix ix_tup (pv 5) pe_int (fun _ _ => rfl)) (pa_cons pe_int (pa_cons (pe_lc (own := [("_law_time_here", 9)]) rfl sc_law.nd (pi_list (pe_callB (call_sortedDA rfl) (by rfl) T.b_sorted (by decide +kernel) (pa_cons (pv 7) pa_nil))) (blkOk_by (own := [("_law_time_here", 9)]) (N := ["_law_script", "_law_purse_here", "_law_widths_here", "_law_keeps_here", "_law_base_here", "_law_things", "_law_horizons_here", "_law_table", "_law_cell_here", "_law_time_here", "_law_keep"]) (sc := defScope s_law) (by decide +kernel)) (fun _ _ _ _ _ => (pg_name (i := 9) sc_law.nd rfl (Or.inl rfl))) (fun _ _ _ _ _ => pts_nil) (fun _ _ _ _ _ => (pe_tup (pa_cons (pv 9) (pa_cons (pe_dget hu (pv 7) (pv 9) (fun _ _ => rfl)) pa_nil))))) pa_nil))))))))))))), ?_⟩
  refine ⟨_, rfl, sa, ns, 0, rfl, hS, by decide, by decide, fun H1 a s1 na hp1 => ?_⟩
  refine ⟨_, rfl, a, _, rfl, hp1, by decide, fun H2 wt ws k2 hp2 wok hw2 => ?_⟩
  refine ⟨_, rfl, _, rfl, a, wt, _, ws, rfl, hp2, by decide, hw2, wok, fun H3 kt ks k3 hp3 ok hkt3 => ?_⟩
  refine ⟨_, rfl, a, _, rfl, hp3, by decide, fun H4 b k4 hp4 b0 b1 => ?_⟩
  have hw4 := (hw2.kp k3).kp k4
  have hkt4 := k4.tup hkt3
  refine ⟨_, rfl, _, rfl, fun x dx nx ndx ne => ⟨x, dx, wt, kt, ws, ks, rfl, upd_same, ?_, ?_, wok, ok, fun H5 ht kx hK5 => ⟨rfl, ?_⟩⟩⟩
  · exact (hw4.kp (C := T.cF) (T := T.T) (M := []) (Kp.new ndx)).kp (C := T.cF) (T := T.T) (M := []) (Kp.new (by rw [upd_ne ne.symm]; exact nx))
  · exact (Kp.new (C := T.cF) (T := T.T) (M := []) (by rw [upd_ne ne.symm]; exact nx)).tup ((Kp.new (C := T.cF) (T := T.T) (M := []) ndx).tup hkt4)
  have kx4 : Kp T.cF T.T [x] H4 H5 := (((Kp.new ndx).trans (Kp.new (by rw [upd_ne ne.symm]; exact nx))).one).trans kx
  have k5 : Kp T.cF T.T [] H4 H5 := Kp.drop nx (Kp.refl _) kx4
  refine fun e dxe nxe ndxe nee => ⟨e, dxe, rfl, upd_same, fun H6 bp ke hE6 hbn => ⟨rfl, ?_⟩⟩
  have ke5 : Kp T.cF T.T [e] H5 H6 := (((Kp.new ndxe).trans (Kp.new (by rw [upd_ne nee.symm]; exact nxe))).one).trans ke
  have k6 : Kp T.cF T.T [] H5 H6 := Kp.drop nxe (Kp.refl _) ke5
  have k46 := k5.trans k6
  refine ⟨_, rfl, fun g dxg nxg ndxg neg => ⟨g, dxg, wt, ws, rfl, upd_same, ?_, wok, fun H7 cd ed kg hG7 hed7 hedn => ⟨rfl, ?_⟩⟩⟩
  · exact ((hw4.kp k46).kp (C := T.cF) (T := T.T) (M := []) (Kp.new ndxg)).kp (C := T.cF) (T := T.T) (M := []) (Kp.new (by rw [upd_ne neg.symm]; exact nxg))
  have kg6 : Kp T.cF T.T [g] H6 H7 := (((Kp.new ndxg).trans (Kp.new (by rw [upd_ne neg.symm]; exact nxg))).one).trans kg
  have k7 : Kp T.cF T.T [] H6 H7 := Kp.drop nxg (Kp.refl _) kg6
  have k47 := k46.trans k7
  refine ⟨_, rfl, (by show 4 ≤ sizeLine; decide), fun th nth => ?_⟩
  have kth : Kp T.cF T.T [] H7 (upd H7 th (.tup [.ref x, .ref e, .ref g, .ref kt])) := Kp.new nth
  have hkt8 := kth.tup (k47.tup hkt4)
  refine ⟨_, rfl, kt, rfl, ⟨_, SqT.of hkt8⟩, fun D nD => ?_⟩
  have hkl := ok.len
  have hwl := wok.len
  have hxl : (ks.map oI).length = ks.length := List.length_map _
  refine lc_it (walk_tup (K := K) (a := kt) (xs := ks.map oI)) (LcP T.cF T.T (upd H7 th (.tup [.ref x, .ref e, .ref g, .ref kt])) D fun i acc _ => acc = ((ks.take i).map fun _ => (none : Option Int)).map oI) (lc0 nD rfl) (fun i H' _ ⟨acc, _, _, kl, _⟩ => SqT.of (kl.tup hkt8)) ?_ ?_
  · rintro i y Ha Hb hi ⟨acc, ha, hl, kl, rfl⟩ ⟨rfl, ey⟩
    rw [hxl] at hi
    obtain ⟨kp, hkp⟩ : ∃ o, ks[i]? = some o := ⟨_, List.getElem?_eq_getElem hi⟩
    refine ⟨rfl, yes_ (lcYes (Nat.lt_of_lt_of_le (by omega : i < 5) (by decide)) nD kl ha hl (Kp.refl _) ?_)⟩
    rw [take_snoc hkp, List.map_append, List.map_append]
    rfl
  rintro H8 ⟨acc, ha, hl, kl, rfl⟩
  rw [hxl, List.take_length] at ha
  refine ⟨D, _, rfl, .inl ⟨SqL.of ha, fun nt nnt => ?_⟩⟩
  have knt : Kp T.cF T.T [] H8 (upd H8 nt (.tup ((ks.map fun _ => (none : Option Int)).map oI))) := Kp.new nnt
  intro t nt0
  have kt0 : Kp T.cF T.T [] (upd H8 nt (.tup ((ks.map fun _ => (none : Option Int)).map oI))) (upd (upd H8 nt (.tup ((ks.map fun _ => (none : Option Int)).map oI))) t (.dK [])) := Kp.new nt0
  generalize eH9 : upd (upd H8 nt (.tup ((ks.map fun _ => (none : Option Int)).map oI))) t (.dK []) = H9 at kt0
  have ht9 : H9 t = some (.dK []) := by rw [← eH9]; exact upd_same
  have hnt9 : H9 nt = some (.tup ((ks.map fun _ => (none : Option Int)).map oI)) := kt0.tup upd_same
  have k89 : Kp T.cF T.T [] H8 H9 := knt.trans kt0
  have k79 : Kp T.cF T.T [] H7 H9 := kth.trans (kl.trans k89)
  have k69 : Kp T.cF T.T [] H6 H9 := k7.trans k79
  have k59 : Kp T.cF T.T [] H5 H9 := k6.trans k69
  have k49 : Kp T.cF T.T [] H4 H9 := k5.trans k59
  have hth9 : H9 th = some (.tup [.ref x, .ref e, .ref g, .ref kt]) := (kl.trans k89).tup upd_same
  have hkt9 : H9 kt = some (.tup (ks.map oI)) := k49.tup hkt4
  have hw9 := hw4.kp k49
  have kH1 : Kp T.cF T.T [] H H1 := Kp.of s1
  have k14 : Kp T.cF T.T [a] H1 H4 := k2.trans (k3.trans k4)
  have hTb9 : Tabs T.T H9 := k49.tb (k14.tb (kH1.tb hTb))
  have hS9 : SqL K H9 sa (ns.map V.int) := k49.lst (sql_new (H' := H4) na hS fun sne q => k14.seqL (by simpa using sne) (kH1.lst q))
  have hed9 : H9 ed = some (.dK (endK ws (ws.map fun _ => none))) := k79.any hed7
  have hgd : (ks.map fun _ => (none : Option Int)).getD 0 none = none := by
    rw [List.getD_eq_getElem?_getD, List.getElem?_map]
    cases ks[0]? <;> rfl
  have hgdj : ∀ j : Nat, (ks.map fun _ => (none : Option Int)).getD j none = none := fun j => by
    rw [List.getD_eq_getElem?_getD, List.getElem?_map]
    cases ks[j]? <;> rfl
  have hnn : ∀ (j : Nat) h, (ks.map fun _ => (none : Option Int))[j]? ≠ some (some h) := fun j h z => by
    rw [List.getElem?_map] at z
    cases q : ks[j]? <;> (rw [q] at z; cases z)
  have hSt9 : StAt T H9 x e g t kt ws ks (ks.map fun _ => none) [] [] := by
    have hE9 := hE6.kp k69 (by simp) (by simp)
    have hG9 := hG7.kp k79 (by simp) (by simp)
    obtain ⟨kv9, hbp9⟩ := hE9.nel
    refine ⟨⟨wt, kt, ht, bp, wt, cd, ed, fun _ => none, hK5.kp k59 (by simp), ?_, hG9, ⟨⟨_, hed9, ?_, fun w hw => ?_⟩⟩, fun j w _ => (hgdj (j + 1)).symm, fun z => ?_, fun z => ?_⟩, ⟨ht9, ?_, Nat.zero_le _⟩, fun p hp => (by cases hp), hkt9, ⟨fun r hr => (by cases hr), fun i w _ p hp => (by cases hp)⟩, ⟨?_, fun g h z => absurd z (hnn g h), fun g g' h _ z => absurd z (hnn g' h)⟩⟩
    · rw [hgd]
      exact hE9
    · rw [endK_none]
      unfold IntK
      rw [List.map_map]
      rfl
    · rw [endK_none]
      exact valV_endN hw
    · have q := (kth.trans (kl.trans knt)).any hed7
      rw [← z, nt0] at q
      cases q
    · obtain ⟨kv6, hbp6⟩ := hE6.nel
      have q := (k7.trans (kth.trans (kl.trans knt))).any hbp6
      rw [← z, nt0] at q
      cases q
    · exact List.Pairwise.nil
    · rw [List.length_map, hkl]
  generalize ehs : (ks.map fun _ => (none : Option Int)) = hs0 at hSt9 hnt9
  -- the turns
  refine ⟨_, rfl, 21, rfl, sa, _, rfl, hS9, fun q0 nq0 => ⟨q0, _, rfl, .inl (SqL.of upd_same), _, _, rfl, _, _, rfl, ⟨by decide, by decide, ?_, ?_⟩, ?_⟩⟩
  · split <;> omega
  · have := cut_21 (ns.map V.int)
    split <;> omega
  have kq0 : Kp T.cF T.T [] H9 (upd H9 q0 (.lst (cutV (ns.map V.int) none (some 21)))) := Kp.new nq0
  generalize ehi : (if ((cutV (ns.map V.int) none (some 21)).length : Int) > 7 then ((cutV (ns.map V.int) none (some 21)).length : Int) else 7) = hi
  have hhi : (hi - 1).toNat ≤ 20 := by
    have := cut_21 (ns.map V.int)
    rw [← ehi]
    split <;> omega
  generalize (hi - 1).toNat = nn at hhi ⊢
  clear ehi hi
  refine for_range (lo := 1) (n := nn) (fun i σ H' => ∃ (pu nt : Addr) (hs : List (Option Int)) (cm : List Rc) (tb : List Pt) (o8 o9 : Option V), σ = [some (.ref sa), some (.ref pu), some (.ref wt), some (.ref kt), some (.int b), some (.ref th), some (.ref nt), some (.ref t), o8, o9, none] ∧
      SqL K H' sa (ns.map V.int) ∧ WT H' wt (ws.map V.int) ∧ H' th = some (.tup [.ref x, .ref e, .ref g, .ref kt]) ∧ H' nt = some (.tup (hs.map oI)) ∧ StAt T H' x e g t kt ws ks hs cm tb ∧ Tabs T.T H' ∧ tb.length ≤ 8 * i ∧ cm.length ≤ 32 * i)
    ⟨a, nt, hs0, [], [], none, none, rfl, kq0.lst hS9, hw9.kp kq0, kq0.tup hth9, kq0.tup hnt9, hSt9.kp0 kq0, kq0.tb hTb9, Nat.zero_le _, Nat.zero_le _⟩ ?_ ?_
  · rintro i σ Ha hi ⟨pu, nt, hs, cm, tb, o8, o9, rfl, hSa, hwa, htha, hnta, hSta, hTba, htl, hcl⟩
    refine ⟨_, rfl, _, rfl, sa, ns, 1 + (i : Int), rfl, hSa, by omega, by omega, fun Hb p sb np hpb => ?_⟩
    have kb : Kp T.cF T.T [] Ha Hb := Kp.of sb
    refine ⟨_, rfl, _, rfl, _, rfl, _, rfl, _, rfl, _, rfl, p, th, t, nt, x, e, g, kt, 1000 * (1 + (i : Int)), b, 1 + (i : Int), ws, ks, hs, cm, tb, rfl, hpb, by omega, b0, b1, kb.tup htha, kb.tup hnta, hSta.kp0 kb, by omega, by omega, kb.tb hTba,
      fun Hc nt' hs' cm' tb' hTbc hStc hntc hpc hthc hsq hwt htl' hcl' => ?_⟩
    have hSc : SqL K Hc sa (ns.map V.int) := sql_new np hSa fun sne q => hsq sa _ sne (kb.lst q)
    have hwc := hwt _ _ (hwa.kp kb)
    obtain ⟨wt2, kt2, ht2, bp2, wtg, cd2, ed2, ee2, hKc, hEc, hGc, hDc, heec, tedc, tbpc⟩ := id hStc.ex
    refine ⟨_, rfl, rfl, _, rfl, iteF ?_⟩
    refine ⟨_, rfl, th, _, 2, .ref g, rfl, rfl, SqT.of hthc, rfl, _, rfl, _, rfl, g, wtg, cd2, ed2, t, nt', ws, hs', cm', tb', rfl, hGc, hStc.tab, hStc.bd, by omega, hntc, hStc.si, hStc.hz, fun Hd kd => ⟨_, rfl, iteF ?_⟩⟩
    -- the times
    have hpd := hpc.st kd (by simp)
    have hwd := hwc.kp kd
    refine ⟨_, rfl, _, rfl, _, rfl, p, wt, b, _, ws, rfl, hpd, by omega, b0, b1, hwd, wok, fun He ti ke hpe _ _ => ?_⟩
    obtain ⟨ls, hls⟩ := hpd.lst
    have hStd := hStc.kp0 kd
    have hSte := hStd.pu hls ke
    have hSd : SqL K Hd sa (ns.map V.int) := kd.lst hSc
    have sap : sa ≠ p ∨ ∀ H', SqL K H' sa (ns.map V.int) := by
      rcases id hSa with z | z
      · refine .inl fun e => ?_
        subst e
        rcases z with z | ⟨_, z⟩ <;> (rw [np] at z; cases z)
      · exact .inr fun H' => .inr z
    have hSe : SqL K He sa (ns.map V.int) := by
      rcases sap with z | z
      · exact ke.seqL (by simpa using z) hSd
      · exact z He
    have hthe := ke.tup (kd.tup hthc)
    have hnte := ke.tup (kd.tup hntc)
    have hwe := hwd.kp ke
    have hTbe := ke.tb (kd.tb hTbc)
    have hTe := hSte.tab
    refine ⟨_, rfl, (by show 1 ≤ sizeLine; decide), fun q1 nq1 => ?_⟩
    have k1 : Kp T.cF T.T [] He (upd He q1 (.lst [.int b])) := Kp.new nq1
    refine ⟨_, rfl, t, _, tb'.map (·.1), rfl, .inl (k1.any hTe.dc), tbK_keys tb', fun ys q2 hperm hsrt nq2 => ?_⟩
    have k2 := k1.trans (Kp.new (C := T.cF) (T := T.T) (M := []) (o := .lst (ys.map V.int)) nq2)
    have hyl : ys.length = tb'.length := by rw [hperm.length_eq, List.length_map]
    have hq1 : (upd (upd He q1 (.lst [.int b])) q2 (.lst (ys.map V.int))) q1 = some (.lst [.int b]) := by
      rw [upd_ne (ne_of_none upd_same nq2)]
      exact upd_same
    refine ⟨q1, q2, _, _, rfl, rfl, hq1, upd_same, ?_, fun q3 nq3 => ?_⟩
    · rw [List.length_map, hyl]
      exact Nat.le_trans (by show 1 + tb'.length ≤ 1000; omega) (by decide : 1000 ≤ sizeLine)
    have k3 := k2.trans (Kp.new (C := T.cF) (T := T.T) (M := []) (o := .lst ([.int b] ++ ys.map V.int)) nq3)
    obtain ⟨y1, hy1⟩ : ∃ y1, (b :: ys).getLast? = some y1 := ⟨_, List.getLast?_eq_some_getLast (by simp)⟩
    have at1 : atI ([V.int b] ++ ys.map V.int) (-1) = some (.int y1) := atLast (by
      show ((b :: ys).map V.int).getLast? = _
      rw [List.getLast?_map, hy1]
      rfl)
    refine ⟨_, rfl, q3, _, -1, .int y1, rfl, rfl, SqL.of upd_same, at1, ?_⟩
    refine ⟨_, rfl, t, _, tb'.map (·.1), rfl, .inl (k3.any hTe.dc), tbK_keys tb', fun zs q4 hperm2 hsrt2 nq4 => ?_⟩
    have k4 := k3.trans (Kp.new (C := T.cF) (T := T.T) (M := []) (o := .lst (zs.map V.int)) nq4)
    have hzl : zs.length = tb'.length := by rw [hperm2.length_eq, List.length_map]
    refine ⟨_, rfl, (by show 1 ≤ sizeLine; decide), fun q5 nq5 => ?_⟩
    have k5 := k4.trans (Kp.new (C := T.cF) (T := T.T) (M := []) (o := .lst [.int b]) nq5)
    refine ⟨q4, q5, zs.map V.int, _, rfl, rfl, (Kp.new (C := T.cF) (T := T.T) (M := []) (o := .lst [.int b]) nq5).any upd_same, upd_same, ?_, fun q6 nq6 => ?_⟩
    · rw [List.length_map, hzl]
      exact Nat.le_trans (by show tb'.length + 1 ≤ 1000; omega) (by decide : 1000 ≤ sizeLine)
    have k6 := k5.trans (Kp.new (C := T.cF) (T := T.T) (M := []) (o := .lst (zs.map V.int ++ [.int b])) nq6)
    obtain ⟨y2, hy2⟩ : ∃ y2, (zs ++ [b])[0]? = some y2 := ⟨_, List.getElem?_eq_getElem (by simp)⟩
    have at2 : atI (zs.map V.int ++ [V.int b]) 0 = some (.int y2) := atI_nat (j := 0) (by
      show (zs.map V.int ++ [b].map V.int)[0]? = _
      rw [← List.map_append, List.getElem?_map, hy2]
      rfl)
    refine ⟨q6, _, 0, .int y2, rfl, rfl, SqL.of upd_same, at2, (by show 3 ≤ sizeLine; decide), fun l nl => ⟨l, rfl, ⟨_, SqL.of upd_same⟩, ?_⟩⟩
    have k7 := k6.trans (Kp.new (C := T.cF) (T := T.T) (M := []) (o := .lst [.int ti, .int y1, .int y2]) nl)
    generalize eHL : upd _ l (.lst [V.int ti, .int y1, .int y2]) = HL at k7 ⊢
    have hl0 : HL l = some (.lst ([ti, y1, y2].map V.int)) := by
      rw [← eHL]
      exact upd_same
    refine for_it (walk_list (K := K) (a := l) (xs := [ti, y1, y2].map V.int)) (fun j σ H' => ∃ o9 : Option V, σ = [some (.ref sa), some (.ref p), some (.ref wt), some (.ref kt), some (.int b), some (.ref th), some (.ref nt'), some (.ref t), some (.int (1 + (i : Int))), o9, none] ∧ Kp T.cF T.T [] HL H')
      ⟨_, rfl, Kp.refl _⟩ (fun j σ H' _ ⟨_, _, k8⟩ => k8.lst (SqL.of hl0)) ?_ ?_
    · rintro j y σ Hf Hg hj ⟨o9, rfl, k8⟩ ⟨rfl, ey⟩
      obtain ⟨z, hz⟩ : ∃ z, [ti, y1, y2][j]? = some z := ⟨_, List.getElem?_eq_getElem (by simpa using hj)⟩
      have ey : y = .int z := mapGet ey hz
      subst ey
      have k9 := k7.trans k8
      have hStf := hSte.kp0 k9
      have hthf := k9.tup hthe
      obtain ⟨wt2', kt2', ht2', bp2', wtg', cd2', ed2', ee2', hKf, hEf, hGf, hDf, _, _, _⟩ := id hStf.ex
      exact ⟨_, rfl, th, _, 0, .ref x, rfl, rfl, SqT.of hthf, rfl, _, rfl, th, _, 2, .ref g, rfl, rfl, SqT.of hthf, rfl, _, rfl, _, rfl, _, rfl, x, wt2', kt2', ht2', g, wtg', cd2', ed2', t, nt', ws, ks, hs', cm', tb', z, rfl, hKf, hGf, hStf.tab, hStf.bd, k9.tup hnte, hStf.si, hStf.hz, fun Hm km => ⟨_, rfl, iteF ⟨_, rfl, k8.trans km⟩⟩⟩
    · rintro σ Hf ⟨o9, rfl, k8⟩
      have k9 := k7.trans k8
      exact ⟨p, nt', hs', cm', tb', _, _, rfl, k9.lst hSe, hwe.kp k9, k9.tup hthe, k9.tup hnte, hSte.kp0 k9, k9.tb hTbe, by omega, by omega⟩
  · rintro σ Ha ⟨pu, nt, hs, cm, tb, o8, o9, rfl, hSa, hwa, htha, hnta, hSta, hTba, htl, hcl⟩
    obtain ⟨wt2, kt2, ht2, bp2, wtg, cd2, ed2, ee2, hKa, hEa, hGa, hDa, heea, _, _⟩ := id hSta.ex
    obtain ⟨⟨dxg, hga⟩, _⟩ := id hGa
    have hTa := hSta.tab
    refine ⟨_, rfl, th, _, 2, .ref g, rfl, rfl, SqT.of htha, rfl, g, dxg, _, rfl, hga, lk_right _ _ _ _, _, rfl, t, _, tb.map (·.1), rfl, .inl hTa.dc, tbK_keys tb, fun ys q hperm hsrt nq => ?_⟩
    have ey := perm_up hperm hsrt hTa.srt.up
    subst ey
    refine ⟨q, rfl, ⟨_, SqL.of upd_same⟩, fun D nD => ?_⟩
    have s0 : Same Ha (upd Ha q (.lst ((tb.map (·.1)).map V.int))) := Same.new nq
    have hl0 : ((tb.map (·.1)).map V.int).length = tb.length := by rw [List.length_map, List.length_map]
    refine lc_it (walk_list (K := K) (a := q) (xs := (tb.map (·.1)).map V.int)) (LcP T.cF T.T (upd Ha q (.lst ((tb.map (·.1)).map V.int))) D fun j acc H' => ∃ l : List (Addr × Pt), acc = l.map (fun x => V.ref x.1) ∧ (∀ x ∈ l, H' x.1 = some (.tup [.int x.2.1, .int x.2.2])) ∧ l.map (·.2) = tb.take j)
      (lc0 nD ⟨[], rfl, fun x hx => by simp at hx, rfl⟩) (fun j H' _ ⟨acc, _, _, k2, _⟩ => k2.lst (SqL.of upd_same)) ?_ ?_
    · rintro j y H1 H2 hj ⟨acc, ha, hl, k2, l, rfl, hx, hlm⟩ ⟨rfl, ey⟩
      rw [hl0] at hj
      obtain ⟨pt, hpt⟩ : ∃ pt, tb[j]? = some pt := ⟨_, List.getElem?_eq_getElem hj⟩
      have ey : y = .int pt.1 := by
        rw [List.map_map] at ey
        exact mapGet (f := V.int ∘ fun p : Pt => p.1) (z := pt) ey hpt
      subst ey
      have hpm : pt ∈ tb := List.mem_of_getElem? hpt
      have hj2 : j < sizeLine := Nat.lt_of_lt_of_le hj (Nat.le_trans hTa.len (by decide))
      have htab : H2 t = some (.dK (tbK tb)) := k2.any (s0 _ _ hTa.dc)
      have hg : DGet H2 t (.int pt.1) (some (.int pt.2)) := by
        have := DGet.k (k := Sum.inl pt.1) htab
        rw [valV_tbK hTa.srt hpm] at this
        exact this
      refine ⟨rfl, yes_ ⟨_, rfl, _, rfl, _, rfl, t, .int pt.2, rfl, hg, two_le, fun r nr => ?_⟩⟩
      refine lcYes hj2 nD k2 ha hl (Kp.new nr) ⟨l ++ [(r, pt)], by simp, fun z hz => ?_, ?_⟩
      · have hrD : r ≠ D := fun z => by rw [z, ha] at nr; cases nr
        rcases List.mem_append.mp hz with hz | hz
        · have h0 := hx z hz
          rw [upd_ne fun e => ?_, upd_ne fun e => ?_]
          · exact h0
          · rw [e, nr] at h0; cases h0
          · rw [e, ha] at h0; cases h0
        · rw [List.mem_singleton.mp hz, upd_ne hrD, upd_same]
      · rw [List.map_append, hlm, take_snoc hpt]
        rfl
    · rintro H' ⟨acc, ha, hl, k2, l, rfl, hx, hlm⟩
      rw [hl0, List.take_length] at hlm
      have kZ : Kp T.cF T.T [] Ha H' := (Kp.of s0).trans k2
      refine ⟨g, wtg, cd2, ed2, D, ws, cm, ee2, l, rfl, hGa.kp kZ (by simp) (by simp), hDa.kp kZ (by simp), ⟨SqL.of ha, hx⟩, fun wd hwd => ?_, kZ.tb hTba, fun H9 _ => k H9⟩
      rw [hlm]
      exact hSta.si.wdOk hGa.wok hSta.hz hTa.srt hSta.bd hTa.len heea hwd
end
end Tg
/-! TgH1 -/
set_option Elab.async false
set_option linter.all false
set_option maxRecDepth 100000
set_option maxHeartbeats 4000000
/-! the head: facts by names, and Ev of them (printed by genh.py) -/
namespace Tg
open PySem PySem.Spec PyProof.Rows L2 LamX
def dD (x : Str) (st : Stmt) : He.DefD := ⟨(x, none), x, x, defArgs st, defBody st, defScope st, [], []⟩
def dM (C m q : Str) (st : Stmt) : He.DefD := ⟨(C, some m), m, q, defArgs st, defBody st, defScope st, [], []⟩
def dvF : List (Str × He.Dv) := [("count", .int 0), ("total", .int 0), ("squares", .int 0), ("least", .non), ("greatest", .non), ("first", .non), ("last", .non), ("rise", .int 0), ("held", .int 0)]
def dvS : List (Str × He.Dv) := [("rise", .int 0), ("held", .int 0), ("first", .non), ("last", .non)]
def fn : List He.DefD := [⟨("Fold", some "__init__"), "__init__", "Fold.__init__", defArgs s_Finit, defBody s_Finit, defScope s_Finit, [], dvF⟩,
  ⟨("Grains", some "__init__"), "__init__", "Grains.__init__", defArgs s_Ginit, defBody s_Ginit, defScope s_Ginit, [], []⟩,
  ⟨("Keeping", some "__init__"), "__init__", "Keeping.__init__", defArgs s_Kinit, defBody s_Kinit, defScope s_Kinit, [], [("horizons", .non)]⟩,
  ⟨("Edges", some "__init__"), "__init__", "Edges.__init__", defArgs s_Einit, defBody s_Einit, defScope s_Einit, [], []⟩,
  ⟨("summed", none), "summed", "summed", defArgs s_summed, defBody s_summed, defScope s_summed, [], dvS⟩,
  dD "_law_renewed" s_law_renewed,
  dM "Edges" "moved" "Edges.moved" s_moved,
  dD "fields" s_fields,
  dD "copied" s_copied,
  dD "step" s_step,
  dD "chosen" s_chosen,
  dD "together" s_together,
  dD "fold_of" s_fold_of,
  dD "cell_of" s_cell_of,
  dD "right_widths" s_right_widths,
  dD "check_keeps" s_check_keeps,
  dD "_law_mixed" s_law_mixed,
  dD "_law_purse" s_law_purse,
  dD "_law_draw" s_law_draw,
  dD "_law_fold" s_law_fold,
  dD "_law_read" s_law_read,
  dD "_law_points" s_law_points,
  dD "_law_cell" s_law_cell,
  dD "_law_widths" s_law_widths,
  dD "_law_base" s_law_base,
  dD "_law_time" s_law_time,
  dD "_law_worth" s_law_worth,
  dD "_law_news" s_law_news,
  dD "_law_changed" s_law_changed,
  dD "_law_due" s_law_due,
  dD "_law_keeps" s_law_keeps,
  dD "_law_horizons" s_law_horizons,
  dD "_law_told" s_law_told,
  dD "_law_expired" s_law_expired,
  dD "_law_stands" s_law_stands,
  dD "_law_finest_right" s_law_finest_right,
  dD "_law_deed_right" s_law_deed_right,
  dM "Fold" "__eq__" "Fold.__eq__" s_Feq,
  dM "Grains" "look" "Grains.look" s_look,
  dM "Grains" "fold_at" "Grains.fold_at" s_fold_at,
  dM "Grains" "cells_of" "Grains.cells_of" s_cells_of,
  dM "Grains" "renew" "Grains.renew" s_renew,
  dM "Grains" "made_anew" "Grains.made_anew" s_made_anew,
  dM "Grains" "whole_of" "Grains.whole_of" s_whole_of,
  dM "Grains" "let_go" "Grains.let_go" s_let_go,
  dM "Grains" "right" "Grains.right" s_right,
  dM "Grains" "right_by" "Grains.right_by" s_right_by,
  dM "Keeping" "moved_to" "Keeping.moved_to" s_moved_to,
  dM "Keeping" "expire" "Keeping.expire" s_expire,
  dM "Keeping" "finest" "Keeping.finest" s_finest,
  dM "Edges" "edge_of" "Edges.edge_of" s_edge_of,
  dD "law" s_law]
def fa : List He.Fa := [.cls "Fold", .cls "Grains", .cls "Keeping", .cls "Edges", .glo "Fold", .noat "Edges" "by_place", .mkr "Fold", .mkr "Grains", .glo "Grains", .mkr "Keeping", .glo "Keeping", .mkr "Edges", .glo "Edges", .glo "summed", .glo "_law_renewed", .meth "Edges" "moved", .glo "fields", .glo "copied", .glo "step", .glo "chosen", .glo "together", .glo "fold_of", .glo "cell_of", .glo "right_widths", .glo "check_keeps", .glo "_law_mixed", .glo "_law_purse", .glo "_law_draw", .glo "_law_fold", .glo "_law_read", .glo "_law_points", .glo "_law_cell", .glo "_law_widths", .glo "_law_base", .glo "_law_time", .glo "_law_worth", .glo "_law_news", .glo "_law_changed", .glo "_law_due", .glo "_law_keeps", .glo "_law_horizons", .glo "_law_told", .glo "_law_expired", .glo "_law_stands", .glo "_law_finest_right", .glo "_law_deed_right", .meth "Fold" "__eq__", .meth "Grains" "look", .meth "Grains" "fold_at", .meth "Grains" "cells_of", .meth "Grains" "renew", .meth "Grains" "made_anew", .meth "Grains" "whole_of", .meth "Grains" "let_go", .meth "Grains" "right", .meth "Grains" "right_by", .meth "Keeping" "moved_to", .meth "Keeping" "expire", .meth "Keeping" "finest", .meth "Edges" "edge_of", .free "isinstance", .free "max", .free "min", .free "len", .free "enumerate", .free "sorted", .free "set", .free "tuple", .free "zip", .free "all", .free "sum", .free "range", .free "dict", .glo "law"]
def tf : List He.Defn := [("summed", none), ("Edges", some "moved"), ("_law_renewed", none)]
def exL (K : PySem.W.Frag) : List Bool := [He.eqO (PySem.W.findIn K (.ref (He.ga K "Fold")) "__class__") (some (some (.builtin "object.__class__"))),
  He.eqO (PySem.W.specialIn K (.builtin "object.__class__") "__get__") (some (some (.builtin "getset_descriptor.__get__"))),
  decide (PySem.W.takesIn K (.builtin "object.__class__") = some true),
  decide (PySem.W.mroIn K (He.ga K "Fold") (.type "object") = some true),
  decide (PySem.W.kitOne K (.ref (He.ga K "Fold")) (.ref (He.ga K "Fold")) = some true),
  He.eqO (PySem.W.findIn K (.ref (He.ga K "Fold")) "__ne__") (some (some (.builtin "object.__ne__"))),
  decide (PySem.W.subIn K (.ref (He.ga K "Fold")) (.type "object") = some true),
  (["count", "total", "squares", "least", "greatest", "first", "last", "rise", "held"] : List Str).all fun f => (He.Fa.noat "Fold" f).ok K,
  (["widths", "cells_kept", "ends", "busy"] : List Str).all fun f => (He.Fa.noat "Grains" f).ok K,
  (["widths", "keeps", "horizons"] : List Str).all fun f => (He.Fa.noat "Keeping" f).ok K,
  decide (He.ga K "Fold" ≠ He.ga K "Grains"),
  decide (He.ga K "Fold" ≠ He.ga K "Keeping"),
  decide (He.ga K "Fold" ≠ He.ga K "Edges"),
  decide ((He.cT K ("summed", none)).2 ≠ (He.cT K ("Edges", some "moved")).2),
  decide ((He.cT K ("summed", none)).2 ≠ (He.cT K ("_law_renewed", none)).2),
  decide ((He.cT K ("Edges", some "moved")).2 ≠ (He.cT K ("_law_renewed", none)).2)]
def exB (K : PySem.W.Frag) : Bool := (exL K).all id
theorem exAt {K : PySem.W.Frag} (h : exB K = true) (i : Nat) {b : Bool} (e : (exL K)[i]? = some b) : b = true := List.all_eq_true.mp h b (List.mem_of_getElem? e)
section
variable {K : PySem.W.Frag} {h : Heap} {mg : Str → Option Value}
theorem codeE {x q : Str} {ps : Arguments} {bd : List Stmt} {sc : Scope} {dv : List V} {kw : List (Str × V)} {p : Str × Option Str} {fd : FuncData} (F : FunD K x q ps bd sc dv kw (He.fAd K p) fd) : fd.code = .ref (He.cT K p).1 := by
  obtain ⟨oc, od, dV, kV, doc, pm, an, cdv, ct, osl, rfl, lk, hcd, _, _⟩ := F.ex
  obtain ⟨c, rfl⟩ := He.codeIn_ref hcd
  exact congrArg Value.ref (He.codeOf_eq lk rfl).symm
theorem defIn (c : He.SaysD fa fn K) (X : K.In h) (G : h.Ns mainGlobals mg) (i j : Nat) {x : Str} {st : Stmt} (hi : fn[i]? = some (dD x st)) (hj : fa[j]? = some (.glo x)) : DefIn K mg x st :=
  let ⟨fd, F⟩ := c.def_ i hi
  ⟨_, fd, F, He.glo_ok X G (c.fact j hj)⟩
theorem defInC (c : He.SaysD fa fn K) (X : K.In h) (G : h.Ns mainGlobals mg) (i j : Nat) {x : Str} {st : Stmt} (hi : fn[i]? = some (dD x st)) (hj : fa[j]? = some (.glo x)) : DefInC K mg x st (He.cT K (x, none)).1 :=
  let ⟨fd, F⟩ := c.def_ i hi
  ⟨_, fd, F, He.glo_ok X G (c.fact j hj), codeE (p := (x, none)) F⟩
theorem metIn (c : He.SaysD fa fn K) (i j : Nat) {C m q : Str} {st : Stmt} (hi : fn[i]? = some (dM C m q st)) (hj : fa[j]? = some (.meth C m)) : MetIn K (He.ga K C) m q st :=
  let ⟨fd, F⟩ := c.def_ i hi
  ⟨_, fd, F, He.meth_ok (c.fact j hj)⟩
theorem metInC (c : He.SaysD fa fn K) (i j : Nat) {C m q : Str} {st : Stmt} (hi : fn[i]? = some (dM C m q st)) (hj : fa[j]? = some (.meth C m)) : MetInC K (He.ga K C) m q st (He.cT K (C, some m)).1 :=
  let ⟨fd, F⟩ := c.def_ i hi
  ⟨_, fd, F, He.meth_ok (c.fact j hj), codeE (p := (C, some m)) F⟩
theorem makIn (c : He.SaysD fa fn K) (X : K.In h) (G : h.Ns mainGlobals mg) (i j k : Nat) {C q : Str} {st : Stmt} {kw : List (Str × He.Dv)} (hi : fn[i]? = some ⟨(C, some "__init__"), "__init__", q, defArgs st, defBody st, defScope st, [], kw⟩) (hj : fa[j]? = some (.mkr C)) (hk : fa[k]? = some (.glo C)) :
    MakIn K mg C (He.ga K C) q st (kw.map fun z => (z.1, z.2.v K)) :=
  let ⟨fd, F⟩ := c.def_ i hi
  ⟨_, fd, F, He.mkr_ok (c.fact j hj), He.glo_ok X G (c.fact k hk)⟩
def evOf {w : World} {h0 : Heap} (X : K.In h) (G : h.Ns mainGlobals mg) (c : He.SaysX fa fn [] tf exB w h0 K) (tb : ∀ p ∈ tf.map (He.cT K), TabB h mg p.1 p.2) : Ev K mg h where
  cF := He.ga K "Fold"
  cG := He.ga K "Grains"
  cK := He.ga K "Keeping"
  cE := He.ga K "Edges"
  tS := He.cT K ("summed", none)
  tM := He.cT K ("Edges", some "moved")
  tR := He.cT K ("_law_renewed", none)
  clF := He.cls_ok (c.t.d.fact 0 (f := .cls "Fold") rfl)
  clG := He.cls_ok (c.t.d.fact 1 (f := .cls "Grains") rfl)
  clK := He.cls_ok (c.t.d.fact 2 (f := .cls "Keeping") rfl)
  clE := He.cls_ok (c.t.d.fact 3 (f := .cls "Edges") rfl)
  isF := ⟨He.cls_ok (c.t.d.fact 0 (f := .cls "Fold") rfl), He.eqO_ok (exAt c.more 0 rfl), He.eqO_ok (exAt c.more 1 rfl), of_decide_eq_true (exAt c.more 2 rfl), of_decide_eq_true (exAt c.more 3 rfl), of_decide_eq_true (exAt c.more 4 rfl)⟩
  gF := He.glo_ok X G (c.t.d.fact 4 (f := .glo "Fold") rfl)
  neF := He.eqO_ok (exAt c.more 5 rfl)
  obF := of_decide_eq_true (exAt c.more 6 rfl)
  naF := fun x hx => He.noat_ok (x := "Fold") (f := x) (List.all_eq_true.mp (exAt c.more 7 rfl) x hx)
  naG := fun x hx => He.noat_ok (x := "Grains") (f := x) (List.all_eq_true.mp (exAt c.more 8 rfl) x hx)
  naK := fun x hx => He.noat_ok (x := "Keeping") (f := x) (List.all_eq_true.mp (exAt c.more 9 rfl) x hx)
  naE := He.noat_ok (c.t.d.fact 5 (f := .noat "Edges" "by_place") rfl)
  FG := of_decide_eq_true (exAt c.more 10 rfl)
  FK := of_decide_eq_true (exAt c.more 11 rfl)
  FE := of_decide_eq_true (exAt c.more 12 rfl)
  mF := makIn c.t.d X G 0 6 4 rfl rfl rfl
  mG := makIn c.t.d X G 1 7 8 rfl rfl rfl
  mK := makIn c.t.d X G 2 9 10 rfl rfl rfl
  mE := makIn c.t.d X G 3 11 12 rfl rfl rfl
  d_summed := let ⟨fd, F⟩ := c.t.d.def_ 4 rfl; ⟨_, fd, F, He.glo_ok X G (c.t.d.fact 13 (f := .glo "summed") rfl), codeE (p := ("summed", none)) F⟩
  d_law_renewed := defInC c.t.d X G 5 14 rfl rfl
  e_moved := metInC c.t.d 6 15 rfl rfl
  bS := tb _ (List.mem_cons_self)
  bM := tb _ (List.mem_cons_of_mem _ List.mem_cons_self)
  bR := tb _ (List.mem_cons_of_mem _ (List.mem_cons_of_mem _ List.mem_cons_self))
  nSM := of_decide_eq_true (exAt c.more 13 rfl)
  nSR := of_decide_eq_true (exAt c.more 14 rfl)
  nMR := of_decide_eq_true (exAt c.more 15 rfl)
  d_fields := defIn c.t.d X G 7 16 rfl rfl
  d_copied := defIn c.t.d X G 8 17 rfl rfl
  d_step := defIn c.t.d X G 9 18 rfl rfl
  d_chosen := defIn c.t.d X G 10 19 rfl rfl
  d_together := defIn c.t.d X G 11 20 rfl rfl
  d_fold_of := defIn c.t.d X G 12 21 rfl rfl
  d_cell_of := defIn c.t.d X G 13 22 rfl rfl
  d_right_widths := defIn c.t.d X G 14 23 rfl rfl
  d_check_keeps := defIn c.t.d X G 15 24 rfl rfl
  d_law_mixed := defIn c.t.d X G 16 25 rfl rfl
  d_law_purse := defIn c.t.d X G 17 26 rfl rfl
  d_law_draw := defIn c.t.d X G 18 27 rfl rfl
  d_law_fold := defIn c.t.d X G 19 28 rfl rfl
  d_law_read := defIn c.t.d X G 20 29 rfl rfl
  d_law_points := defIn c.t.d X G 21 30 rfl rfl
  d_law_cell := defIn c.t.d X G 22 31 rfl rfl
  d_law_widths := defIn c.t.d X G 23 32 rfl rfl
  d_law_base := defIn c.t.d X G 24 33 rfl rfl
  d_law_time := defIn c.t.d X G 25 34 rfl rfl
  d_law_worth := defIn c.t.d X G 26 35 rfl rfl
  d_law_news := defIn c.t.d X G 27 36 rfl rfl
  d_law_changed := defIn c.t.d X G 28 37 rfl rfl
  d_law_due := defIn c.t.d X G 29 38 rfl rfl
  d_law_keeps := defIn c.t.d X G 30 39 rfl rfl
  d_law_horizons := defIn c.t.d X G 31 40 rfl rfl
  d_law_told := defIn c.t.d X G 32 41 rfl rfl
  d_law_expired := defIn c.t.d X G 33 42 rfl rfl
  d_law_stands := defIn c.t.d X G 34 43 rfl rfl
  d_law_finest_right := defIn c.t.d X G 35 44 rfl rfl
  d_law_deed_right := defIn c.t.d X G 36 45 rfl rfl
  e_Feq := metIn c.t.d 37 46 rfl rfl
  e_look := metIn c.t.d 38 47 rfl rfl
  e_fold_at := metIn c.t.d 39 48 rfl rfl
  e_cells_of := metIn c.t.d 40 49 rfl rfl
  e_renew := metIn c.t.d 41 50 rfl rfl
  e_made_anew := metIn c.t.d 42 51 rfl rfl
  e_whole_of := metIn c.t.d 43 52 rfl rfl
  e_let_go := metIn c.t.d 44 53 rfl rfl
  e_right := metIn c.t.d 45 54 rfl rfl
  e_right_by := metIn c.t.d 46 55 rfl rfl
  e_moved_to := metIn c.t.d 47 56 rfl rfl
  e_expire := metIn c.t.d 48 57 rfl rfl
  e_finest := metIn c.t.d 49 58 rfl rfl
  e_edge_of := metIn c.t.d 50 59 rfl rfl
  b_isinstance := He.free_ok X G (c.t.d.fact 60 (f := .free "isinstance") rfl)
  b_max := He.free_ok X G (c.t.d.fact 61 (f := .free "max") rfl)
  b_min := He.free_ok X G (c.t.d.fact 62 (f := .free "min") rfl)
  b_len := He.free_ok X G (c.t.d.fact 63 (f := .free "len") rfl)
  b_enumerate := He.free_ok X G (c.t.d.fact 64 (f := .free "enumerate") rfl)
  b_sorted := He.free_ok X G (c.t.d.fact 65 (f := .free "sorted") rfl)
  b_set := He.free_ok X G (c.t.d.fact 66 (f := .free "set") rfl)
  b_tuple := He.free_ok X G (c.t.d.fact 67 (f := .free "tuple") rfl)
  b_zip := He.free_ok X G (c.t.d.fact 68 (f := .free "zip") rfl)
  b_all := He.free_ok X G (c.t.d.fact 69 (f := .free "all") rfl)
  b_sum := He.free_ok X G (c.t.d.fact 70 (f := .free "sum") rfl)
  b_range := He.free_ok X G (c.t.d.fact 71 (f := .free "range") rfl)
  b_dict := He.free_ok X G (c.t.d.fact 72 (f := .free "dict") rfl)
end
theorem lawD {K : PySem.W.Frag} (c : He.SaysD fa fn K) : ∃ fd, FunD K "law" "law" (defArgs s_law) (defBody s_law) (defScope s_law) [] [] (He.ga K "law") fd := c.def_ 51 (d := dD "law" s_law) rfl
theorem lawG {K : PySem.W.Frag} {h : Heap} {mg : Str → Option Value} (X : K.In h) (G : h.Ns mainGlobals mg) (c : He.SaysD fa fn K) : mg "law" = some (.ref (He.ga K "law")) := He.glo_ok X G (c.fact 73 (f := .glo "law") rfl)
end Tg
/-! TgH2 -/
set_option Elab.async false
set_option linter.all false
set_option maxRecDepth 100000
set_option maxHeartbeats 0
/-! the head's run, the end -/
namespace Tg
open PySem PySem.Spec PyProof.Rows L2 LamX
abbrev R : PySem.W.OpenRow := PySem.W.OpenLaw.row PySem.Challenge.rw_timegranary_k63_whole_kept_folds
abbrev hk : PySem.W.Hook := He.hookX 7 fa fn [] tf exB
def ob (s : PySem.W.SharedT) : He.AlX := He.obsX 7 fa fn [] tf exB (HandSHeadRun.getT s)
theorem ob_eq (s : PySem.W.SharedT) : ob s = hk.obs s.abs := He.obsX_eq (HandSHeadRun.getT_eq s)
def loose1 : List Str := ["NoOrder", "NoGrain", "NoKeep", "NoDeed", "Fold", "fields", "copied", "step", "chosen", "summed", "together", "fold_of", "cell_of", "right_widths", "Grains", "check_keeps", "Keeping", "Edges"]
def loose2 : List Str := ["_wall", "_law_mixed", "_law_purse", "_law_draw", "_law_fold", "_law_read", "_law_points", "_law_cell", "_law_widths", "_law_base", "_law_time", "_law_worth", "_law_news", "_law_changed", "_law_due", "_law_keeps", "_law_horizons", "_law_told", "_law_renewed", "_law_expired", "_law_stands", "_law_finest_right", "_law_deed_right"]
def loose : List Str := loose1 ++ loose2
theorem run (w : World) : HandSHeadRun.RunEq R (PySem.W.view R.prog [47]) hk ob 4000 loose w := by
  intro os
  kernel_rfl
end Tg
/-! TgH3 -/
set_option Elab.async false
set_option linter.all false
set_option maxRecDepth 100000
set_option maxHeartbeats 0
/-! the end -/
namespace Tg
open PySem PySem.Spec PyProof.Rows L2 LamX
theorem law_at {w : World} {K : PySem.W.Frag} {mg : Str → Option Value} {fa0 : Addr} {h : Heap} (X : K.In h) (G : h.Ns mainGlobals mg) (c : He.SaysX fa fn [] tf exB w h K) (hmg : mg ("law" : Str) = some (.ref fa0)) :
    LawAtS PySem.Challenge.rw_timegranary_k63_whole_kept_folds w K CX0 10 63 "_law_script" mg fa0 h := by
  have e := hmg.symm.trans (lawG X G c.t.d)
  cases e
  obtain ⟨fd, F⟩ := lawD c.t.d
  refine ⟨fd, tf.map (He.cT K), fun vs H Q _ => ∃ (sa : Addr) (ns : List Int), vs = [.ref sa] ∧ SqL K H sa (ns.map V.int) ∧ ns.length ≤ 63 ∧
    Tabs [((He.cT K ("summed", none)).2, "summed.<locals>.<lambda>"), ((He.cT K ("Edges", some "moved")).2, "Edges.moved.<locals>.<lambda>"), ((He.cT K ("_law_renewed", none)).2, "_law_renewed.<locals>.<lambda>")] H ∧ ∀ H', Q (.bl true) H', ?_, ?_, ?_, ?_, ?_, ?_⟩
  · intro p hp
    obtain ⟨q, hq, rfl⟩ := List.mem_map.mp hp
    exact c.empty q hq
  · intro p hp
    obtain ⟨q, hq, rfl⟩ := List.mem_map.mp hp
    exact c.out q hq
  · intro p hp
    obtain ⟨q, hq, rfl⟩ := List.mem_map.mp hp
    exact PySem.W.codeHd_of_K X (c.hd q hq)
  · intro s u
    exact FunD.bindsA (ps := ["_law_script"]) F (fun _ _ _ _ _ _ us hl => match us, hl with | [_], _ => rfl) s [u] rfl
  · intro H a ns hl _ hT hS
    refine ⟨a, ns, rfl, hS, hl, fun p hp => ?_, fun _ => rfl⟩
    have h0 := hT _ (List.mem_map.mpr ⟨("summed", none), List.mem_cons_self, rfl⟩)
    have h1 := hT _ (List.mem_map.mpr ⟨("Edges", some "moved"), List.mem_cons_of_mem _ List.mem_cons_self, rfl⟩)
    have h2 := hT _ (List.mem_map.mpr ⟨("_law_renewed", none), List.mem_cons_of_mem _ (List.mem_cons_of_mem _ List.mem_cons_self), rfl⟩)
    rcases List.mem_cons.mp hp with z | hp
    · subst z
      exact TabS.nil h0
    rcases List.mem_cons.mp hp with z | hp
    · subst z
      exact TabS.nil h1
    rcases List.mem_cons.mp hp with z | hp
    · subst z
      exact TabS.nil h2
    · cases hp
  · intro base KB GB tb
    exact k_law (evOf KB GB c tb) F
end Tg
open PySem PySem.W PySem.Calls PyProof.Rows
theorem PySem.Challenge.cw_timegranary_k63_whole_kept_folds_holds : PySem.Challenge.rw_timegranary_k63_whole_kept_folds.Holds := by
  w_on; o_law
  refine HandSHeadRun.head_any (r := OpenLaw.row PySem.Challenge.rw_timegranary_k63_whole_kept_folds) (q := view (OpenLaw.row PySem.Challenge.rw_timegranary_k63_whole_kept_folds).prog [47]) (H := Tg.hk) (ob := Tg.ob) (M := 4000) (loose := Tg.loose) (d := HandSHeadRun.topDef (OpenLaw.row PySem.Challenge.rw_timegranary_k63_whole_kept_folds).prog 47) (kwd := []) Tg.ob_eq
    (by kernel_rfl) (fun s => by kernel_rfl) Tg.run (by kernel_rfl) (by kernel_rfl) (by kernel_rfl) (by rfl) (by first | assumption | decide +kernel) (by decide +kernel) ⟨rfl, rfl, rfl, rfl, rfl, by decide +kernel⟩ ?hw ?hc
  case hw => w_witness2
  case hc =>
    refine LamX.walk_ofTsE (l := PySem.Challenge.rw_timegranary_k63_whole_kept_folds) (n := 63) (k := 10) (x := "_law_script") (CX := fun _ => L2.CX0) rfl (by decide) (by kernel_rfl) ⟨rfl, by decide, by decide⟩ ?F (fun _ _ _ _ _ z => z)
    intro w mg fa h Y G hmg0
    obtain ⟨K, KX, c⟩ := Y
    have hmg : mg ("law" : PySem.Str) = some (.ref fa) := by
      have e : (HandSHeadRun.topDef (OpenLaw.row PySem.Challenge.rw_timegranary_k63_whole_kept_folds).prog 47).name = ("law" : PySem.Str) := by kernel_rfl
      rw [← e]
      exact hmg0
    exact ⟨K, KX, Tg.law_at KX G c hmg⟩
