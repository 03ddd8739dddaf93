import PyProof.Rows.All
import Wide.All
import OpenK.AllK
import Wide.FinOn
import HandS.ForMost
import HandS.SetFor
import HandS.Strs
import HandS.Star
import HandS.Conv
import HandS.Style
import HandS.IsInst
import HandS.Small
import HandS.TupAny
import HandS.Walk
import KE.DataMinMax
import KE.SortData
import KE.GoesEnum
import PySem.Challenge.RW_introducers_k75_whole_chains_compared
set_option Elab.async false
set_option linter.all false
set_option maxRecDepth 100000
set_option maxHeartbeats 4000000
/-! Rules that the layer lacks: set of ints out of a list or a tuple, its len, min of a list of int tuples, sorted of a list of int tuples, enumerate of a tuple. -/
namespace K75
open PySem PySem.Spec PyProof.Rows L2

/-- the new set's object -/
abbrev setob (w : World) : Obj := { cls := .type "set", dict := none, data := .set #[] 0 (.fresh 0 0 (!w.params.followText "set-order")) }
section
variable {P : Program} {w : World} {A : Around} {E : Value → Shared → Prop} {s : Shared}
theorem call_set_lstI {l : Addr} {items : Array Value} (ns : List Int) {Q : Value → Shared → Prop} (hh : A.handled = none) (hl : s.heap.IsList l items) (hit : IntsAre items.toList ns) (hb : ns.length + 1 < scanBound)
    (h : ∀ (h' : Heap) (tk c : Nat), SetR w h' s.heap.objs.size (fun j => decide (j ∈ ns)) c → c ≤ ns.length → (∀ b o, s.heap.get? b = some o → h'.get? b = some o) → Q (.ref s.heap.objs.size) { s with heap := h', toks := tk }) :
    wpAny (model P w) A (call (.type "set") [.ref l]) Q E s := by
  have hisz : items.size = ns.length := by rw [← Array.length_toList]; exact IntsAre.length hit
  obtain ⟨c, tl, hmro⟩ := F.called_set.mro
  have hmade := F.called_set.made
  have hsub := F.called_set.sub
  refine wpAny_call (codeAny_of_tree ?_)
  show wpAny _ _ (callAny (.type "set") _) _ _ _
  refine wpAny_pure ⟨Code.quiet_builtin _ (by decide +kernel), codeAny_builtin F.entry_type_call ?_⟩
  rw [Around.under_plain (weight_type_call_type "set" [.ref l] []) rfl]
  have h1 := F.called_set.notType
  have h2 := F.called_set.canCreate
  have hct := F.typeCall_set_1 (.ref l)
  repeat (any_goals (first | assumption | wp_step))
  refine codeAny_mono (code_set_led1 (.ref l) (E := E) (Q₁ := fun ob z => ob = .ref s.heap.objs.size ∧ z = { s with heap := s.heap.push (setob w) }) ⟨rfl, rfl⟩) fun r z hr => ?_
  cases r with
  | error e => exact hr
  | ok fl =>
    cases fl with
    | ret ob =>
      obtain ⟨rfl, rfl⟩ := hr
      have hS : (s.heap.push (setob w)).get? s.heap.objs.size = some (setob w) := Heap.get?_push_size _ rfl
      have hT : Shared.TypeIs { s with heap := s.heap.push (setob w) } (.ref s.heap.objs.size) "set" := ⟨_, hS, rfl⟩
      have hli := F.called_set.init.lookup
      have hbi := F.called_set.init.bind (.ref s.heap.objs.size)
      repeat (any_goals (first | assumption | wp_step))
      refine codeAny_mono (codeAny_call_builtin (R := wants (fun r y => r = .none ∧ ∃ h' tk c, y = { s with heap := h', toks := tk } ∧ SetR w h' s.heap.objs.size (fun j => decide (j ∈ ns)) c ∧ c ≤ ns.length ∧
          (∀ b o, s.heap.get? b = some o → h'.get? b = some o)) E) F.called_set.init.plain F.entry_set_init (check_set_init_1 hT ?_)) fun r2 y hy => ?_
      · obtain ⟨ol, hol, hcl, nl, hdl⟩ := hl
        obtain ⟨ocls, odict, odata, oslots⟩ := ol
        simp only at hcl hdl
        subst hcl; subst hdl
        have hol' : (s.heap.push (setob w)).get? l = some { cls := .type "list", dict := odict, data := .seq items nl, slots := oslots } := Heap.get?_push_of_some _ hol
        have hsls := F.sub_list_set
        have hslf := F.sub_list_frozenset
        have hne : (Value.type "list" == Value.type "dict") = false := by decide
        have hl1 : (s.heap.push (setob w)).IsList l items := ⟨_, hol', rfl, nl, rfl⟩
        unfold Builtin.«set.__init__» noKeywords Builtin.Frozenset.updateFrom
        generalize hPI : pyIter = PI
        wp_walk
        subst hPI
        refine wpAny_pyIter_list hl1 ?_
        refine wpAny_bind (wpAny_runValue ?_)
        have hlS : l < s.heap.objs.size := Heap.lt_size hol
        have hh3 : A.in1.in1.in1.handled = none := by simp [hh]
        have hneI : l ≠ (s.heap.push (setob w)).objs.size := by
          rw [Heap.size_push]; exact Nat.ne_of_lt (Nat.lt_succ_of_lt hlS)
        have hSf : s.heap.objs.size ∉ [(s.heap.push (setob w)).objs.size, l] := by
          rw [Heap.size_push]; simp only [List.mem_cons, List.mem_singleton, List.not_mem_nil, or_false, not_or]
          exact ⟨Nat.ne_of_lt (Nat.lt_succ_self _), Nat.ne_of_gt hlS⟩
        have hval : ∀ (i : Nat) (v : Value), items[i]? = some v → ∃ k t, ns[i]? = some k ∧ v = .int k t := fun i v hv => by
          have hi : i < ns.length := by rw [← hisz]; exact (Array.getElem?_eq_some_iff.mp hv).1
          obtain ⟨t, e⟩ := PyProof.Rows.IntsAre.int_at hit i v (by rw [Array.getElem?_toList]; exact hv)
          refine ⟨ns[i], t, List.getElem?_eq_getElem hi, ?_⟩
          rw [e, List.getD_eq_getElem?_getD, List.getElem?_eq_getElem hi] <;> rfl
        refine set_update_ints ((Walks.list hh3 _ l hneI items).toS) s.heap.objs.size
          hSf ns hisz hb hval (items.size - 0) 0 _ (by omega) (Nat.zero_le _)
          ⟨⟨_, Heap.get?_push_size _ rfl, rfl, rfl⟩, (hl1.push _)⟩ ?hS0 ?hR
        case hS0 =>
          have hget : ((s.heap.push (setob w)).push { cls := .type "list_iterator", data := .fields #[.ref l, .int 0 0] }).get? s.heap.objs.size = some (setob w) := Heap.get?_push_of_some _ hS
          exact ⟨0, Nat.le_refl 0, setR_new_at hget⟩
        case hR =>
          intro s' c' hm hc' hS'
          obtain ⟨h', g2, d', tk', os'⟩ := s'
          have eg : g2 = s.gens := hm.gens
          have ed : d' = s.drawn := hm.drawn
          have eo : os' = s.os := hm.os
          subst eg; subst ed; subst eo
          show wpAny _ _ _ _ _ _
          refine wpAny_pure ?_
          show wpAny _ _ (ret Value.none) _ _ _
          rw [hisz] at hc'
          refine wpAny_pure ⟨rfl, h', tk', c', rfl, hS', hc', fun b o e => ?_⟩
          have hb0 : b < s.heap.objs.size := Heap.lt_size e
          have hb1 : b ≠ s.heap.objs.size := Nat.ne_of_lt hb0
          have hb2 : b ≠ (s.heap.push (setob w)).objs.size := by
            rw [Heap.size_push]; exact Nat.ne_of_lt (Nat.lt_succ_of_lt hb0)
          exact hm.heap b o (by simp only [List.mem_cons, List.mem_singleton, List.not_mem_nil, or_false, not_or]; exact ⟨hb1, hb2⟩) (Heap.get?_push_of_some _ (Heap.get?_push_of_some _ e))
      · cases r2 with
        | error e => exact hy
        | ok fl2 =>
          cases fl2 with
          | ret r =>
            obtain ⟨rfl, h', tk, c', rfl, hS', hc', hk'⟩ := hy
            repeat (any_goals (first | assumption | wp_step))
            exact h _ _ _ hS' hc' hk'
          | _ => exact hy.elim
    | _ => exact hr.elim
end

section
variable {X : Cx}
theorem ints_vals : ∀ {ns : List Int} {us : List Value}, Vals (ns.map V.int) us → PyProof.Rows.IntsAre us ns
  | [], _, .nil => .nil
  | n :: ns, _, .cons r t => by
    obtain ⟨k, rfl⟩ := r
    exact .cons n k (ints_vals t)
/-- set(xs), xs a list or a tuple of fewer than 64 ints -/
def rSetI (w : World) : List V → Hp → VK → Prop := fun xs H Q => ∃ (l : Addr) (ns : List Int), xs = [.ref l] ∧ (H l = some (.lst (ns.map V.int)) ∨ H l = some (.tup (ns.map V.int))) ∧ ns.length ≤ 1000 ∧
  ∀ (p : Addr) (ks : List Int), H p = none → ks.Nodup → (∀ k, k ∈ ks ↔ k ∈ ns) → ks.length ≤ ns.length → Q (.ref p) (upd H p (SetO w p (fun j => decide (j ∈ ns)) ks.length))
theorem setR_keys {w : World} {h : Heap} {a : Addr} {ns : List Int} {c : Nat} (R : SetR w h a (fun j => decide (j ∈ ns)) c) : ∃ ks : List Int, ks.Nodup ∧ (∀ k, k ∈ ks ↔ k ∈ ns) ∧ ks.length = c := by
  obtain ⟨o, es, ep, t, ho, hx, hd, g, nd, hm, hb, hf, hn, _⟩ := R
  refine ⟨es.toList.map keyOf, nd, fun k => ?_, ?_⟩
  · rw [← hm k]; simp
  · rw [List.length_map, Array.length_toList]; exact hn
theorem cr_setI (hc : X.calm = true) : CallR X (.type "set") (rSetI X.w) := by
  intro pins s σ H vs us Q I r h
  obtain ⟨l, ns, rfl, hs, h64, q⟩ := h
  rw [Vals.ref1 r]
  have fin : ∀ (h' : Heap) (tk c : Nat), SetR X.w h' s.heap.objs.size (fun j => decide (j ∈ ns)) c → c ≤ ns.length → (∀ b o, s.heap.get? b = some o → h'.get? b = some o) → EP X pins σ Q (.ref s.heap.objs.size) { s with heap := h', toks := tk } := by
    intro h' tk c R hle hk
    obtain ⟨ks, nd, hm, hl⟩ := setR_keys R
    subst hl
    exact ⟨.ref _, upd H s.heap.objs.size (SetO X.w s.heap.objs.size (fun j => decide (j ∈ ns)) ks.length), I.laid (t' := tk) hk (Nat.le_refl _) (setO_new R), rfl, q _ ks (I.hok.fresh (Nat.le_refl _)) nd hm hle⟩
  have hbd : ns.length + 1 < scanBound := by unfold scanBound; omega
  rcases hs with hs | hs
  · obtain ⟨its, rv, pl, _⟩ := I.list (SqL.of hs)
    exact call_set_lstI ns (I.ok.hd hc) pl.isList (by simpa using ints_vals rv) hbd fin
  · obtain ⟨its, rv, pl, _⟩ := I.tuple (SqT.of (K := X.K) hs)
    exact call_set_tupI ns (I.ok.hd hc) (show s.heap.IsTuple l its.toArray from pl) (by simpa using ints_vals rv) hbd fin
/-- len of such a set -/
def rLenSet (w : World) : List V → Hp → VK → Prop := fun xs H Q => ∃ (a : Addr) (S : Int → Bool) (n : Nat), xs = [.ref a] ∧ H a = some (SetO w a S n) ∧ n < 64 ∧ Q (.int (n : Nat)) H
theorem cr_lenSet : CallR X (.builtin "len") (rLenSet X.w) := by
  intro pins s σ H vs us Q I r h
  obtain ⟨a, S, n, rfl, ha, hn64, q⟩ := h
  rw [Vals.ref1 r]
  obtain ⟨o, es, ep, t, ho, hex, hd, _, _, _, _, hf, hn, _⟩ := setO_get I ha
  exact call_len_set ho hex hd hf (by rw [hn] <;> omega) ⟨.int (n : Nat), H, I.tok _, ⟨_, by rw [hn]⟩, q⟩

/-! ### tuples of ints -/
/-- v is a tracked tuple of these ints -/
def IL (H : Hp) (v : V) (ns : List Int) : Prop := ∃ a, v = .ref a ∧ H a = some (.tup (ns.map V.int))
def pyI (ns : List Int) : PyData := .tuple (ns.map .int)
theorem dpInts {K : PySem.W.Frag} {H : Hp} : ∀ ns : List Int, DpAll K H (ns.map V.int) (ns.map .int)
  | [] => .nil
  | n :: ns => .cons (.int n) (dpInts ns)
theorem IL.dp {K : PySem.W.Frag} {H : Hp} {v : V} {ns : List Int} (h : IL H v ns) : Dp K H v (pyI ns) := by
  obtain ⟨a, rfl, h⟩ := h
  exact .tup (SqT.of h) (dpInts ns)
theorem dpTups {K : PySem.W.Frag} {H : Hp} : ∀ {vs : List V} {rows : List (List Int)}, Paired (IL H) vs rows → DpAll K H vs (rows.map pyI)
  | _, _, .nil => .nil
  | _, _, .cons h t => .cons h.dp (dpTups t)
theorem depthI (ns : List Int) : (pyI ns).depth = 1 := by
  have := PySem.W.depth_ints ns
  unfold pyI PyData.depth
  rw [this]
theorem depthAllI : ∀ rows : List (List Int), PyData.depthAll (rows.map pyI) ≤ 1
  | [] => by
    show PyData.depthAll [] ≤ 1
    unfold PyData.depthAll
    omega
  | r :: rows => by
    have ih := depthAllI rows
    show PyData.depthAll (pyI r :: rows.map pyI) ≤ 1
    unfold PyData.depthAll
    rw [depthI]
    omega
theorem alikeI (a b : List Int) : PySem.W.alike (pyI a) (pyI b) = true := by
  unfold pyI PySem.W.alike
  exact PySem.W.alike_ints a b
/-- min(xs), xs a list of tuples of ints: one of them -/
def rMinT : List V → Hp → VK → Prop := fun xs H Q => ∃ (l : Addr) (vs : List V) (rows : List (List Int)), xs = [.ref l] ∧ H l = some (.lst vs) ∧ Paired (IL H) vs rows ∧ vs ≠ [] ∧ ∀ v ∈ vs, Q v H
theorem cr_minT (hc : X.calm = true) (hu : X.A.units + 64 < cLine) : CallR X (.builtin "min") rMinT := by
  intro pins s σ H ws us Q I r h
  obtain ⟨l, vs, rows, rfl, hl, hp, hne, q⟩ := h
  rw [Vals.ref1 r]
  obtain ⟨its, rv, pl, _⟩ := I.list (SqL.of (K := X.K) hl)
  obtain ⟨as, hr⟩ := Dp.readsAll I _ _ its (dpTups (K := X.K) hp) rv
  cases hp with
  | nil => exact absurd rfl hne
  | @cons v0 r0 vs0 rows0 h0 t0 =>
    have hal : PySem.W.AlikeAll (pyI r0 :: rows0.map pyI) := by
      have one : ∀ d ∈ pyI r0 :: rows0.map pyI, ∃ a, d = pyI a := by
        intro d hd
        rcases List.mem_cons.mp hd with e | e
        · exact ⟨_, e⟩
        · obtain ⟨a, _, e⟩ := List.mem_map.mp e; exact ⟨a, e.symm⟩
      refine ⟨fun d hd d' hd' => ?_, fun d hd => ?_⟩
      · obtain ⟨a, rfl⟩ := one d hd
        obtain ⟨b, rfl⟩ := one d' hd'
        exact alikeI a b
      · obtain ⟨a, rfl⟩ := one d hd
        exact fun z => nomatch z
    refine PySem.W.min_list_data (I.ok.hd hc) pl.isList (x := pyI r0) (xs := rows0.map pyI) (by simpa using hr) hal ?_ fun i v h' tk bs hv hrd hk => ?_
    · have := depthAllI (r0 :: rows0)
      have e : PyData.depthAll (pyI r0 :: rows0.map pyI) ≤ 1 := this
      omega
    · have hv' : its[i]? = some v := by simpa using hv
      have hlt : i < its.length := (List.getElem?_eq_some_iff.mp hv').1
      have hln := rv.length
      have hx : ∃ x, (v0 :: vs0)[i]? = some x := ⟨_, List.getElem?_eq_getElem (by omega)⟩
      obtain ⟨x, hx⟩ := hx
      obtain ⟨u, hu', ru⟩ := rv.get hx
      rw [hv'] at hu'
      cases hu'
      exact ⟨x, H, I.kept (t' := tk) hk, ru, q x (List.mem_of_getElem? hx)⟩
/-- sorted(xs), xs a list of tuples of ints, none empty: some arrangement -/
def rSortTs : List V → Hp → VK → Prop := fun xs H Q => ∃ (l : Addr) (vs : List V) (rows : List (List Int)), xs = [.ref l] ∧ H l = some (.lst vs) ∧ Paired (IL H) vs rows ∧ (∀ r ∈ rows, r ≠ []) ∧
  ∀ (p : Addr) (ys : List V) (zs : List (List Int)), H p = none → zs.Perm rows → Paired (IL H) ys zs → Q (.ref p) (upd H p (.lst ys))
theorem each_of {H : Hp} : ∀ {vs : List V} {us : List Value} {rows : List (List Int)}, Vals vs us → Paired (IL H) vs rows → PySem.W.EachIs (fun u r => ∃ x, RelV x u ∧ IL H x r) us rows
  | _, _, _, .nil, .nil => .nil
  | _, _, _, .cons r t, .cons h t' => .cons ⟨_, r, h⟩ (each_of t t')
theorem of_each {H : Hp} : ∀ {us : List Value} {rows : List (List Int)}, PySem.W.EachIs (fun u r => ∃ x, RelV x u ∧ IL H x r) us rows → ∃ vs : List V, Vals vs us ∧ Paired (IL H) vs rows
  | _, _, .nil => ⟨[], .nil, .nil⟩
  | _, _, .cons h t => by
    obtain ⟨x, r, q⟩ := h
    obtain ⟨vs, a, b⟩ := of_each t
    exact ⟨x :: vs, .cons r a, .cons q b⟩
theorem cr_sortTs (hu : X.A.units + 64 < cLine) : CallR X (.builtin "sorted") rSortTs := by
  intro pins s σ H ws us Q I r h
  obtain ⟨l, vs, rows, rfl, hl, hp, hne, q⟩ := h
  rw [Vals.ref1 r]
  obtain ⟨its, rv, pl, hz⟩ := I.list (SqL.of (K := X.K) hl)
  have hlen := Paired.length hp
  have one : ∀ d ∈ rows.map pyI, ∃ a ∈ rows, d = pyI a := by
    intro d hd
    obtain ⟨a, h1, e⟩ := List.mem_map.mp hd
    exact ⟨a, h1, e.symm⟩
  refine PySem.W.sorted_data (R := fun u r => ∃ x, RelV x u ∧ IL H x r) (enc := pyI) (bs := rows) (vs := its) (by simpa using pl.isList) (each_of rv hp) ?_ ?_ ?_ (by omega) ?_ ?_
  · refine (each_of rv hp).mono fun u r h => ?_
    obtain ⟨x, rx, hx⟩ := h
    exact Dp.reads I _ x u hx.dp rx
  · intro d hd d' hd'
    obtain ⟨a, _, rfl⟩ := one d hd
    obtain ⟨b, _, rfl⟩ := one d' hd'
    exact alikeI a b
  · refine .inl fun d hd => ?_
    obtain ⟨a, ha, rfl⟩ := one d hd
    cases a with
    | nil => exact absurd rfl (hne _ ha)
    | cons x r => exact ⟨.int x, r.map .int, rfl⟩
  · intro b _
    rw [depthI]
    omega
  · intro out ho he
    obtain ⟨ys, r1, r2⟩ := of_each he
    obtain ⟨ep, hget⟩ := PyProof.Rows.sortedAll_at s.heap its (List.toArray out)
    have hys : ys.length ≤ sizeLine := by
      have := r1.length
      omega
    exact ⟨.ref _, upd H (s.heap.objs.size + 1) (.lst ys), I.laid (t' := s.toks) (fun _ _ => PyProof.Rows.sortedAll_old) (Nat.le_succ _) ⟨hys, out, ep, r1, hget⟩, rfl, q _ ys _ (I.hok.fresh (Nat.le_succ _)) (List.mergeSort_perm _ _) r2⟩
end

/-! ### enumerate(tuple) -/
theorem call_enum_tup {prog : Program} {w : World} {A : Around} {E : Value → Shared → Prop} {s : Shared} {l : Addr} {items : Array Value} {Q : Value → Shared → Prop} (hL : s.heap.IsTuple l items)
    (h : ∀ h', IsEnum h' (s.heap.objs.size + 1) s.heap.objs.size 0 .none → h'.IsTupleIter s.heap.objs.size l 0 → h'.objs.size = s.heap.objs.size + 2 →
      (∀ b o, s.heap.get? b = some o → h'.get? b = some o) → Q (.ref (s.heap.objs.size + 1)) { s with heap := h' }) :
    wpAny (model prog w) A (call (.type "enumerate") [.ref l]) Q E s := by
  obtain ⟨⟨c, dct, dt, sl⟩, hl, hc, n, hd⟩ := hL
  replace hc : c = .type "tuple" := hc
  replace hd : dt = .seq items n := hd
  subst hc hd
  have meets : Meets (Builtin.«enumerate.__new__» ⟨[.type "enumerate", .ref l], []⟩) (fun _ R s => s.heap.get? l = some { cls := .type "tuple", dict := dct, data := .seq items n, slots := sl } ∧
      R (.ok (.ret (.ref (s.heap.push { cls := .type "tuple_iterator", data := .fields #[.ref l, .int 0 0] }).objs.size)))
        { s with heap := (s.heap.push { cls := .type "tuple_iterator", data := .fields #[.ref l, .int 0 0] }).push { cls := .type "enumerate", data := .fields #[.none, .bool false, .ref s.heap.objs.size, rawInt 0, .none, .none] } }) := by
    refine .of_wp fun prog w A R s h => ?_
    obtain ⟨hp, g, d, tk, os⟩ := s
    obtain ⟨hl, h⟩ := h
    have hsub := sub_enumerate
    have hT : Heap.IsTuple (Shared.heap ⟨hp, g, d, tk, os⟩) l items := ⟨_, hl, rfl, n, rfl⟩
    wp_walk using AutoSeq1.wpAny_loadPart' hl
    refine wpAny_stack_any fun st => wpAny_pure ?_
    split
    · rename_i c _ _ _ _ _
      cases (c == Value.type "enumerate")
      · wp_walk using AutoSeq1.wpAny_loadPart' hl, wpAny_pyIter_tuple hT
        exact ⟨_, rfl, h⟩
      · wp_walk using AutoSeq1.wpAny_loadPart' hl, wpAny_pyIter_tuple hT
        exact ⟨_, rfl, h⟩
    · wp_walk using AutoSeq1.wpAny_loadPart' hl, wpAny_pyIter_tuple hT
      exact ⟨_, rfl, h⟩
  refine callType_new F.called_enumerate (by decide) (F.typeCall_enumerate_1 _) (F.newCall_enumerate_1 _) (fun obj => F.args_object_init_2 obj _) F.entry_enumerate_new meets ⟨hl, ?_⟩
  have hz : (s.heap.push { cls := .type "tuple_iterator", data := .fields #[.ref l, .int 0 0] }).objs.size = s.heap.objs.size + 1 := Heap.size_push ..
  show _ ∧ _
  rw [hz]
  have he : IsEnum ((s.heap.push { cls := .type "tuple_iterator", data := .fields #[.ref l, .int 0 0] }).push
      { cls := .type "enumerate", data := .fields #[.none, .bool false, .ref s.heap.objs.size, rawInt 0, .none, .none] }) (s.heap.objs.size + 1) s.heap.objs.size 0 .none := by
    have q := Heap.get?_push_size (s.heap.push { cls := .type "tuple_iterator", data := .fields #[.ref l, .int 0 0] })
      (o := { cls := .type "enumerate", data := .fields #[.none, .bool false, .ref s.heap.objs.size, rawInt 0, .none, .none] }) rfl
    rw [hz] at q; exact q
  refine ⟨⟨_, he, rfl⟩, h _ he ⟨_, Heap.get?_push_of_some _ (Heap.get?_push_size _ rfl), rfl, rfl⟩ (by rw [Heap.size_push, hz]) fun b o x => Heap.get?_push_of_some _ (Heap.get?_push_of_some _ x)⟩

/-- the tuple at a, each item in a new pair -/
def IteT (a : Addr) : It :=
  ⟨fun i H => ∃ (xs : List V) (x : V), H a = some (.tup xs) ∧ xs[i]? = some x, fun i H v H' => ∃ T x, v = .ref T ∧ H T = none ∧ H' = upd H T (.tup [.int (i : Nat), x]) ∧ ∀ xs, H a = some (.tup xs) → xs[i]? = some x, fun i H => ∃ xs : List V, H a = some (.tup xs) ∧ xs.length ≤ i⟩
theorem turn_enumT {P : Program} {w : World} {K : PySem.W.Frag} {elts : List Expr} {kk : Nat} {tpos : Pos} (a e it : Addr) :
    Turn P w K (.Tuple elts kk tpos) (IteT a) [e, it] e (fun i h => (∃ old, IsEnum h e it ((i : Nat) : Int) old) ∧ h.IsTupleIter it a i ∧ e ≠ it) where
  mem := by simp
  obj := fun i h st b hb => by
    obtain ⟨⟨old, he⟩, ⟨o, ho, hc, hd⟩, _⟩ := st
    have e' : b = e ∨ b = it := by simpa using hb
    rcases e' with z | z
    · rw [z]; exact ⟨_, he, fun v q => nomatch q⟩
    · rw [z]; exact ⟨o, ho, fun v q => by rw [hd] at q; cases q⟩
  keep := fun i h h' st k => let ⟨⟨old, he⟩, hi, hne⟩ := st; ⟨⟨old, k e (by simp) _ he⟩, hi.at fun o q => k it (by simp) o q, hne⟩
  item := by
    intro X hP hw hK hc i pins s σ H E I hf st hg
    subst hP hw hK
    obtain ⟨⟨old, he⟩, hit, hne⟩ := st
    obtain ⟨xs, x, hq, hx⟩ := hg
    obtain ⟨its, rv, p, hz⟩ := I.tuple (SqT.of (K := X.K) hq)
    have hel : e < s.heap.objs.size := Heap.lt_size he
    have hil : it < s.heap.objs.size := by obtain ⟨_, q, _⟩ := hit; exact Heap.lt_size q
    have hea : e ≠ a := fun z => by
      have := (hf e (by simp)).1
      rw [z, hq] at this
      cases this
    have hai : a ≠ it := fun z => by
      have := (hf it (by simp)).1
      rw [← z, hq] at this
      cases this
    have hlen := rv.length
    have hilt : i < its.toArray.size := by
      have := (List.getElem?_eq_some_iff.mp hx).1
      simp; omega
    have hh : X.A.in1.handled = none := by simpa using I.ok.hd hc
    refine wpAny_pyNext_enum_itemD (Draws.tuple hh it a hai its.toArray) he ⟨hit, p⟩ hilt hne (by simp [hne, hea]) fun u' h' tk hPu ho hst' hT hsz hk => ?_
    obtain ⟨u, hu, ru⟩ := rv.get hx
    have eu : u' = u := by
      have : its[i]? = some u' := by simpa using hPu
      rw [this] at hu
      exact Option.some.inj hu
    subst eu
    refine ⟨_, rfl, wpAny_letOwnedTupleGo_enum (s := { s with heap := h', toks := tk + 1 }) ho fun h'' he' sb => ?_⟩
    have hT2 : h''.get? s.heap.objs.size = some { cls := .type "tuple", data := .seq #[.int i tk, u'] } := (sb.2 _ (Nat.ne_of_gt hel)).trans hT
    have new : ObjOk X.prog X.w (upd H s.heap.objs.size (.tup [.int (i : Nat), x])) h'' s.heap.objs.size (.tup [.int (i : Nat), x]) :=
      ⟨by show 2 ≤ sizeLine; decide, [.int i tk, u'], .cons ⟨_, rfl⟩ (.cons ru .nil), ⟨_, hT2, rfl, _, rfl⟩⟩
    have I1 : Inv X pins σ (upd H s.heap.objs.size (.tup [.int (i : Nat), x])) { s with heap := h'', toks := tk + 1 } :=
      I.turnedNew (ch := [e, it]) (fun b ob hb q => (sb.2 b (fun z => hb (by simp [z]))).trans (hk b ob (fun z => hb (by simp [z])) (fun z => hb (by simp [z])) q)) hf (Nat.le_refl _) new
    refine ⟨.ref s.heap.objs.size, _, I1, rfl, ⟨_, x, rfl, I.hok.fresh (Nat.le_refl _), rfl, fun ys hy => by rw [hq] at hy; cases hy; exact hx⟩, ⟨⟨u', ?_⟩, hst'.1.at fun o q => (sb.2 it (Ne.symm hne)).trans q, hne⟩, fun b hb => ?_⟩
    · have e1 : ((i + 1 : Nat) : Int) = (i : Int) + 1 := by omega
      rw [e1]; exact he'
    · have hb' : b < s.heap.objs.size := by
        have e' : b = e ∨ b = it := by simpa using hb
        rcases e' with z | z
        · rw [z]; exact hel
        · rw [z]; exact hil
      rw [upd_ne (Nat.ne_of_lt hb')]
      exact (hf b hb).1
  done := by
    intro X hP hw hK hc i pins s σ H E I hf st hg
    subst hP hw hK
    obtain ⟨⟨old, he⟩, hit, hne⟩ := st
    obtain ⟨xs, hq, hx⟩ := hg
    obtain ⟨its, rv, p, hz⟩ := I.tuple (SqT.of (K := X.K) hq)
    obtain ⟨f0, f1, f2, f3, f4, f5⟩ := hf it (by simp)
    have hl := rv.length
    have hh : X.A.in1.handled = none := by simpa using I.ok.hd hc
    have hT : s.TypeIs (.ref e) "enumerate" := ⟨_, he, rfl⟩
    unfold pyNext
    refine wpAny_bind (wpAny_attempt (wpAny_callSpecial?_slot (name := Str.ofString "__next__") hT F.slot_enumerate_next
      (wpAny_call_entry F.slot_enumerate_next hT F.entry_enumerate_next ?_ (F.args_enumerate_next_1 _))))
    show wpAny _ _ (field (.ref e) 2 >>= _) _ _ _
    refine wpAny_bind (wpAny_field he rfl (x := .ref it) rfl ?_)
    refine wpAny_bind (wpAny_nextOf_tuple_end hh hit p (by simp; omega) fun h' x he' hx' => ?_)
    obtain ⟨o, ho, hc'⟩ := hx'
    refine wpAny_bind (wpAny_isInstance (T := "StopIteration") (b := true) ⟨o, ho, hc'⟩ isSubtype_stop ?_)
    exact wpAny_pure ⟨rfl, I.turned (t' := s.toks) (fun b o hb q => he' b o hb q) f0 f1 f3 f4 f5⟩
  self := fun A i s Q E st h => let ⟨⟨_, he⟩, _⟩ := st; wpAny_pyIter_enum he h
def iEnumT (ta : TA) : TI := fun σ H R => ta σ H fun vs H1 => ∃ a xs, vs = [.ref a] ∧ H1 a = some (.tup xs) ∧ R (IteT a) H1
theorem pi_enumT {X : Cx} {e : Expr} {ta : TA} {p pos tpos : Pos} {elts : List Expr} {kk : Nat} (hg : Gl X "enumerate") (hm : X.mg "enumerate" = none) (ha : PA X [e] ta) (hs : starEach [e] X.env = [(false, eval e X.env)] := by rfl) :
    PI X (.Tuple elts kk tpos) (.Call (.Name "enumerate" p) [e] [] pos) (iEnumT ta) := by
  refine ⟨fun pins s σ H R I h => ?_⟩
  refine Call_ (ld_blt I hg hm boot_enumerate (PyProof.Rows.callWith_type1 (thn (ha.run pos pins s σ H _ I h) fun us s1 ⟨vs, H1, I1, r1, q1⟩ => ?_) hs rfl))
  obtain ⟨a, xs, ex, hq, q⟩ := q1
  subst ex
  cases r1 with
  | cons r rr =>
    cases rr
    cases r
    obtain ⟨its, rv, p', hz⟩ := I1.tuple (SqT.of (K := X.K) hq)
    refine call_enum_tup (items := its.toArray) p' fun h' he hit hsz hk => wpAny_pyIter_enum he ?_
    have I2 : Inv X pins σ H1 { s1 with heap := h' } := I1.kept (t' := s1.toks) hk
    refine ⟨s1.heap.objs.size + 1, [s1.heap.objs.size + 1, s1.heap.objs.size], _, _, H1, rfl, I2, turn_enumT a (s1.heap.objs.size + 1) s1.heap.objs.size, ⟨⟨.none, he⟩, hit, Nat.succ_ne_self _⟩, fun b hb => ?_, q⟩
    have e' : b = s1.heap.objs.size + 1 ∨ b = s1.heap.objs.size := by simpa using hb
    have hle : s1.heap.objs.size ≤ b := by
      rcases e' with z | z
      · rw [z]; exact Nat.le_add_right _ _
      · rw [z]; exact Nat.le_refl _
    exact I1.fpOk hle (I1.hok.fresh hle)
theorem walk_enumT {a : Addr} {xs : List V} : Walk (IteT a) xs.length (fun H => H a = some (.tup xs)) (YPair (fun i => some (.int (i : Nat))) (fun i => xs[i]?)) := by
  refine ⟨fun i _ hi q => ⟨xs, xs[i], q, by simp [hi]⟩, fun _ q => ⟨xs, q, Nat.le_refl _⟩, fun i H v H' _ q y => ?_⟩
  obtain ⟨T, x, h1, h2, h3, h4⟩ := y
  exact ⟨T, .int (i : Nat), x, h1, h2, h3, rfl, h4 xs q⟩
end K75
/-! The mathematics: webs, chains, prices, told webs, what the law asks. -/
namespace K75
abbrev Web := List (List Int)
def adj (W : Web) (p : Int) : List Int := W.getD p.toNat []
def InW (W : Web) (p : Int) : Prop := 0 ≤ p ∧ p < (W.length : Int)
structure Ok (W : Web) : Prop where
  lo : 1 ≤ W.length
  hi : W.length ≤ 8
  asc : ∀ p, InW W p → (adj W p).Pairwise (· < ·)
  inn : ∀ p, InW W p → ∀ x ∈ adj W p, InW W x ∧ x ≠ p
  sym : ∀ p, InW W p → ∀ x ∈ adj W p, p ∈ adj W x

/-- a chain of m steps from a to b, whose inner people are of C -/
inductive Ch (W : Web) (C : Int → Prop) (a : Int) : Int → Nat → Prop
  | one {b : Int} : b ∈ adj W a → Ch W C a b 1
  | more {x b : Int} {m : Nat} : Ch W C a x m → C x → b ∈ adj W x → Ch W C a b (m + 1)
section
variable {W : Web} {C D : Int → Prop} {a b x y : Int} {m k : Nat}
theorem Ch.pos (h : Ch W C a b m) : 1 ≤ m := by cases h <;> omega
theorem Ch.inw (ok : Ok W) (ha : InW W a) (h : Ch W C a b m) : InW W b := by
  induction h with
  | one h => exact (ok.inn _ ha _ h).1
  | more _ _ h ih => exact (ok.inn _ ih _ h).1
theorem Ch.mono (h : Ch W C a b m) (f : ∀ x, C x → D x) : Ch W D a b m := by
  induction h with
  | one h => exact .one h
  | more _ c h ih => exact .more ih (f _ c) h
theorem Ch.cons (h1 : x ∈ adj W a) (hx : C x) (h : Ch W C x b m) : Ch W C a b (m + 1) := by
  induction h with
  | one h => exact .more (.one h1) hx h
  | more _ c h ih => exact .more ih c h
theorem Ch.symm (ok : Ok W) (ha : InW W a) (h : Ch W C a b m) : Ch W C b a m := by
  induction h with
  | one h => exact .one (ok.sym _ ha _ h)
  | more h1 c h ih => exact ih.cons (ok.sym _ (h1.inw ok ha) _ h) c
theorem Ch.trans (h1 : Ch W C a x m) (hx : C x) (h2 : Ch W C x b k) : Ch W C a b (m + k) := by
  induction h2 with
  | one h => exact .more h1 hx h
  | more _ c h ih => exact .more ih c h
end

/-! ### prices -/
inductive Pc (W : Web) (w : Int → Nat) (a : Int) : Int → Nat → Prop
  | zero : Pc W w a a 0
  | step {x y : Int} {k : Nat} : Pc W w a x k → y ∈ adj W x → Pc W w a y (k + w x)
structure IsD (W : Web) (w : Int → Nat) (a : Int) (f : Int → Option Nat) : Prop where
  zero : f a = some 0
  sound : ∀ x k, f x = some k → Pc W w a x k
  closed : ∀ x k, f x = some k → ∀ y ∈ adj W x, ∃ k', f y = some k' ∧ k' ≤ k + w x
theorem IsD.least {W : Web} {w : Int → Nat} {a : Int} {f : Int → Option Nat} (h : IsD W w a f) {x : Int} {k : Nat} (p : Pc W w a x k) : ∃ k', f x = some k' ∧ k' ≤ k := by
  induction p with
  | zero => exact ⟨0, h.zero, Nat.le_refl _⟩
  | step _ hy ih =>
    obtain ⟨k1, e1, l1⟩ := ih
    obtain ⟨k2, e2, l2⟩ := h.closed _ _ e1 _ hy
    exact ⟨k2, e2, by omega⟩
theorem IsD.none_iff {W : Web} {w : Int → Nat} {a : Int} {f : Int → Option Nat} (h : IsD W w a f) {x : Int} : f x = none ↔ ∀ k, ¬ Pc W w a x k := by
  constructor
  · intro e k p
    obtain ⟨k', e', _⟩ := h.least p
    rw [e] at e'; cases e'
  · intro g
    cases e : f x with
    | none => rfl
    | some k => exact absurd (h.sound _ _ e) (g k)

/-- the inner cost of a walk of a step or more -/
inductive Inn (W : Web) (u : Int → Nat) (a : Int) : Int → Nat → Prop
  | one {y : Int} : y ∈ adj W a → Inn W u a y 0
  | more {x y : Int} {k : Nat} : Inn W u a x k → y ∈ adj W x → Inn W u a y (k + u x)
section
variable {W : Web} {u : Int → Nat} {a b x y : Int} {k : Nat}
theorem Inn.inw (ok : Ok W) (ha : InW W a) (h : Inn W u a b k) : InW W b := by
  induction h with
  | one h => exact (ok.inn _ ha _ h).1
  | more _ h ih => exact (ok.inn _ ih _ h).1
theorem Inn.cons (h1 : x ∈ adj W a) (h : Inn W u x b k) : Inn W u a b (k + u x) := by
  induction h with
  | one h =>
    have := Inn.more (u := u) (.one h1) h
    exact this
  | @more z y k _ h ih =>
    have := Inn.more ih h
    rw [show k + u z + u x = k + u x + u z by omega]
    exact this
theorem Inn.symm (ok : Ok W) (ha : InW W a) (h : Inn W u a b k) : Inn W u b a k := by
  induction h with
  | one h => exact .one (ok.sym _ ha _ h)
  | more h1 h ih => exact ih.cons (ok.sym _ (h1.inw ok ha) _ h)
theorem Inn.mono {v : Int → Nat} (h : Inn W u a b k) (f : ∀ x, v x ≤ u x) : ∃ k', k' ≤ k ∧ Inn W v a b k' := by
  induction h with
  | one h => exact ⟨0, Nat.le_refl _, .one h⟩
  | @more z _ _ _ h ih =>
    obtain ⟨k', l, p⟩ := ih
    have := f z
    exact ⟨k' + v z, by omega, .more p h⟩
/-- a chain costs nothing -/
theorem Ch.inn {C : Int → Prop} {m : Nat} (h : Ch W C a b m) (f : ∀ x, C x → u x = 0) : Inn W u a b 0 := by
  induction h with
  | one h => exact .one h
  | @more z _ _ _ c h ih =>
    have := Inn.more ih h
    rw [f z c] at this
    exact this
theorem Inn.chain {C : Int → Prop} {m : Nat} (h : Inn W u a x k) (h2 : Ch W C x b m) (f : ∀ x, C x → u x = 0) : Inn W u a b (k + u x) := by
  induction h2 with
  | one h2 => exact .more h h2
  | @more z _ _ _ c h2 ih =>
    have := Inn.more ih h2
    rw [f z c] at this
    exact this
end
/-- who is not called -/
def uc (c : List Int) (x : Int) : Nat := if x ∈ c then 0 else 1
def wF (a : Int) (c : List Int) (x : Int) : Nat := if x ≠ a ∧ x ∉ c then 1 else 0
theorem pc_inn {W : Web} {a : Int} {c : List Int} {b : Int} {k : Nat} (h : Pc W (wF a c) a b k) : b = a ∨ ∃ k', k' ≤ k ∧ Inn W (uc c) a b k' := by
  induction h with
  | zero => exact .inl rfl
  | @step x y k _ hy ih =>
    right
    by_cases hx : x = a
    · exact ⟨0, Nat.zero_le _, .one (hx ▸ hy)⟩
    · rcases ih with e | ⟨k', l, p⟩
      · exact absurd e hx
      · refine ⟨k' + uc c x, ?_, .more p hy⟩
        have : uc c x = wF a c x := by
          unfold uc wF
          by_cases hc : x ∈ c <;> simp [hc, hx]
        omega
theorem inn_pc {W : Web} {a : Int} {c : List Int} {b : Int} {k : Nat} (h : Inn W (uc c) a b k) : ∃ k', k' ≤ k ∧ Pc W (wF a c) a b k' := by
  induction h with
  | one h =>
    refine ⟨0 + wF a c a, ?_, .step .zero h⟩
    unfold wF
    simp
  | @more x y k _ hy ih =>
    obtain ⟨k', l, p⟩ := ih
    refine ⟨k' + wF a c x, ?_, .step p hy⟩
    have : wF a c x ≤ uc c x := by
      unfold uc wF
      by_cases hc : x ∈ c <;> simp [hc]
      split <;> omega
    omega

/-! ### the told web -/
structure Told (W : Web) (c : List Int) (T : Web) : Prop where
  len : T.length = W.length
  asc : ∀ p, InW W p → (adj T p).Pairwise (· < ·)
  mem : ∀ p, InW W p → ∀ x, x ∈ adj T p ↔ x ≠ p ∧ ∃ m, Ch W (· ∈ c) p x m
theorem Told.ok {W : Web} {c : List Int} {T : Web} (ok : Ok W) (t : Told W c T) : Ok T := by
  have iw : ∀ p, InW T p ↔ InW W p := fun p => by unfold InW; rw [t.len]
  refine ⟨by rw [t.len]; exact ok.lo, by rw [t.len]; exact ok.hi, fun p hp => t.asc p ((iw p).1 hp), fun p hp x hx => ?_, fun p hp x hx => ?_⟩
  · obtain ⟨ne, m, h⟩ := (t.mem p ((iw p).1 hp) x).1 hx
    exact ⟨(iw x).2 (h.inw ok ((iw p).1 hp)), ne⟩
  · obtain ⟨ne, m, h⟩ := (t.mem p ((iw p).1 hp) x).1 hx
    exact (t.mem x (h.inw ok ((iw p).1 hp)) p).2 ⟨fun e => ne e.symm, m, h.symm ok ((iw p).1 hp)⟩
/-- each two of a list are friends, as is_table asks it -/
def Tab (T : Web) (l : List Int) : Prop := ∀ y ∈ l, ∀ z ∈ l, y < z → z ∈ adj T y
structure Full (W : Web) (T : Web) (F : List Int) : Prop where
  asc : F.Pairwise (· < ·)
  mem : ∀ x, x ∈ F ↔ InW W x ∧ Tab T (adj T x)
section
variable {W T : Web} {c F : List Int} {a b : Int} {k : Nat}
theorem Told.sub (ok : Ok W) (t : Told W c T) (f : Full W T F) (hc : ∀ x ∈ c, InW W x) : ∀ x ∈ c, x ∈ F := by
  intro x hx
  have ix := hc x hx
  refine (f.mem x).2 ⟨ix, fun y hy z hz l => ?_⟩
  obtain ⟨_, m, h1⟩ := (t.mem x ix y).1 hy
  obtain ⟨_, n, h2⟩ := (t.mem x ix z).1 hz
  exact (t.mem y (h1.inw ok ix) z).2 ⟨by omega, _, (h1.symm ok ix).trans hx h2⟩
/-- by a simplicial one two friends of it are one, or a chain of called ones leads from one to the other -/
theorem by_full (ok : Ok W) (t : Told W c T) (f : Full W T F) {x y z : Int} (hx : x ∈ F) (hz : x ∈ adj W z) (iz : InW W z) (hy : y ∈ adj W x) : z = y ∨ ∃ m, Ch W (· ∈ c) z y m := by
  obtain ⟨ix, tab⟩ := (f.mem x).1 hx
  have iy := (ok.inn _ ix _ hy)
  by_cases e : z = y
  · exact .inl e
  · right
    have h1 : y ∈ adj T x := (t.mem x ix y).2 ⟨iy.2, 1, .one hy⟩
    have h2 : z ∈ adj T x := (t.mem x ix z).2 ⟨fun q => (ok.inn _ iz _ hz).2 q.symm, 1, .one (ok.sym _ iz _ hz)⟩
    rcases Int.lt_or_gt_of_ne e with l | l
    · exact ((t.mem z iz y).1 (tab z h2 y h1 l)).2
    · obtain ⟨m, h⟩ := ((t.mem y iy.1 z).1 (tab y h1 z h2 l)).2
      exact ⟨m, h.symm ok iy.1⟩
theorem full_inn (ok : Ok W) (t : Told W c T) (f : Full W T F) (ia : InW W a) (h : Inn W (uc F) a b k) : b = a ∨ ∃ k', k' ≤ k ∧ Inn W (uc c) a b k' := by
  have z0 : ∀ x, x ∈ c → uc c x = 0 := fun x h => by unfold uc; simp [h]
  induction h with
  | one h => exact .inr ⟨0, Nat.le_refl _, .one h⟩
  | @more x y k h hy ih =>
    rcases ih with e | ⟨k', l, p⟩
    · exact .inr ⟨0, Nat.zero_le _, .one (e ▸ hy)⟩
    · by_cases hc : x ∈ c
      · refine .inr ⟨k' + uc c x, ?_, .more p hy⟩
        rw [z0 x hc]
        omega
      · by_cases hF : x ∈ F
        · cases p with
          | one hx =>
            rcases by_full ok t f hF hx ia hy with e | ⟨m, q⟩
            · exact .inl e.symm
            · exact .inr ⟨0, Nat.zero_le _, q.inn z0⟩
          | @more z _ k'' p hx =>
            rcases by_full ok t f hF hx (p.inw ok ia) hy with e | ⟨m, q⟩
            · subst e
              exact .inr ⟨k'', by omega, p⟩
            · exact .inr ⟨k'' + uc c z, by omega, p.chain q z0⟩
        · refine .inr ⟨k' + uc c x, ?_, .more p hy⟩
          have : uc c x = uc F x := by unfold uc; simp [hc, hF]
          omega
/-- the fewest uncalled, there with the set and back with the full one -/
theorem fewest_eq (ok : Ok W) (t : Told W c T) (fu : Full W T F) (hc : ∀ x ∈ c, InW W x) (ia : InW W a) (ib : InW W b) {f g : Int → Option Nat} (hf : IsD W (wF a c) a f) (hg : IsD W (wF b F) b g) : f b = g a := by
  by_cases e : a = b
  · subst e
    rw [hf.zero, hg.zero]
  have sub := t.sub ok fu hc
  have one : ∀ k, Pc W (wF a c) a b k → ∃ k', k' ≤ k ∧ Pc W (wF b F) b a k' := by
    intro k h
    rcases pc_inn h with q | ⟨k1, l1, p1⟩
    · exact absurd q.symm e
    · obtain ⟨k2, l2, p2⟩ := (p1.symm ok ia).mono (v := uc F) fun x => by
        unfold uc
        by_cases h : x ∈ c
        · simp [h, sub x h]
        · simp [h]; split <;> omega
      obtain ⟨k3, l3, p3⟩ := inn_pc p2
      exact ⟨k3, by omega, p3⟩
  have two : ∀ k, Pc W (wF b F) b a k → ∃ k', k' ≤ k ∧ Pc W (wF a c) a b k' := by
    intro k h
    rcases pc_inn h with q | ⟨k1, l1, p1⟩
    · exact absurd q e
    · rcases full_inn ok t fu ib p1 with q | ⟨k2, l2, p2⟩
      · exact absurd q e
      · obtain ⟨k3, l3, p3⟩ := inn_pc (p2.symm ok ib)
        exact ⟨k3, by omega, p3⟩
  cases e1 : f b with
  | none =>
    cases e2 : g a with
    | none => rfl
    | some k =>
      obtain ⟨k', _, p⟩ := two k (hg.sound _ _ e2)
      exact absurd p (hf.none_iff.1 e1 k')
  | some k =>
    obtain ⟨k1, l1, p1⟩ := one k (hf.sound _ _ e1)
    obtain ⟨k2, e2, l2⟩ := hg.least p1
    obtain ⟨k3, l3, p3⟩ := two k2 (hg.sound _ _ e2)
    obtain ⟨k4, e4, l4⟩ := hf.least p3
    rw [e1] at e4
    cases e4
    rw [e2]
    congr 1
    omega
theorem pc_zero {C : List Int} (h : Pc W (wF a C) a b 0) : b = a ∨ ∃ m, Ch W (· ∈ C) a b m := by
  generalize hk : (0 : Nat) = k at h
  induction h with
  | zero => exact .inl rfl
  | @step x y k h hy ih =>
    have hk0 : 0 = k := by omega
    have hw : wF a C x = 0 := by omega
    right
    by_cases hx : x = a
    · exact ⟨1, .one (hx ▸ hy)⟩
    · rcases ih hk0 with e | ⟨m, q⟩
      · exact absurd e hx
      · refine ⟨m + 1, .more q ?_ hy⟩
        unfold wF at hw
        by_cases hc : x ∈ C
        · exact hc
        · simp [hc, hx] at hw
theorem ch_pc {C : List Int} {m : Nat} (h : Ch W (· ∈ C) a b m) : Pc W (wF a C) a b 0 := by
  induction h with
  | one h =>
    have := Pc.step (Pc.zero (W := W) (w := wF a C) (a := a)) h
    have e : wF a C a = 0 := by unfold wF; simp
    rw [e] at this
    exact this
  | @more x y m _ c h ih =>
    have := Pc.step ih h
    have c' : x ∈ C := c
    have e : wF a C x = 0 := by unfold wF; simp [c']
    rw [e] at this
    exact this
theorem fewest_zero {f : Int → Option Nat} {C : List Int} (hf : IsD W (wF a C) a f) : f b = some 0 ↔ (a = b ∨ ∃ m, Ch W (· ∈ C) a b m) := by
  constructor
  · intro e
    rcases pc_zero (hf.sound _ _ e) with h | h
    · exact .inl h.symm
    · exact .inr h
  · rintro (rfl | ⟨m, h⟩)
    · exact hf.zero
    · obtain ⟨k, e, l⟩ := hf.least (ch_pc h)
      rw [e]
      congr 1
      omega
/-! steps -/
theorem pc_ch {C : Int → Prop} (ok : Ok W) (ia : InW W a) (hC : ∀ x, InW W x → C x) (h : Pc W (fun _ => 1) a b k) : InW W b ∧ ((k = 0 ∧ b = a) ∨ Ch W C a b k) := by
  induction h with
  | zero => exact ⟨ia, .inl ⟨rfl, rfl⟩⟩
  | @step x y k h hy ih =>
    refine ⟨(ok.inn _ ih.1 _ hy).1, .inr ?_⟩
    rcases ih.2 with ⟨rfl, rfl⟩ | q
    · exact .one hy
    · exact .more q (hC _ ih.1) hy
theorem ch_pc1 {C : Int → Prop} {m : Nat} (h : Ch W C a b m) : Pc W (fun _ => 1) a b m := by
  induction h with
  | one h => exact Pc.step .zero h
  | more _ _ h ih => exact Pc.step ih h
theorem pc1_zero {k : Nat} {x : Int} (h : Pc T (fun _ => 1) a x k) (e : k = 0) : x = a := by
  cases h with
  | zero => rfl
  | step => omega
theorem pc1_one {k : Nat} {x : Int} (h : Pc T (fun _ => 1) a x k) (e : k = 1) : x ∈ adj T a := by
  cases h with
  | zero => omega
  | @step z _ k h hy =>
    have := pc1_zero h (by omega)
    subst this
    exact hy
theorem steps_one {f : Int → Option Nat} (hf : IsD T (fun _ => 1) a f) (ne : a ≠ b) : f b = some 1 ↔ b ∈ adj T a := by
  constructor
  · intro e
    exact pc1_one (hf.sound _ _ e) rfl
  · intro h
    obtain ⟨k, e, l⟩ := hf.least (Pc.step (.zero (W := T) (w := fun _ => 1) (a := a)) h)
    rw [e]
    have : k ≠ 0 := fun z => ne (pc1_zero (hf.sound _ _ e) z).symm
    congr 1
    omega
end

/-! ### chains as lists -/
structure Way (W : Web) (c : List Int) (a b : Int) (P : List Int) : Prop where
  two : 2 ≤ P.length
  hd : P.getD 0 0 = a
  lst : P.getD (P.length - 1) 0 = b
  step : ∀ i, i + 1 < P.length → P.getD (i + 1) 0 ∈ adj W (P.getD i 0)
  inner : ∀ i, 0 < i → i + 1 < P.length → P.getD i 0 ∈ c
  nd : P.Nodup
  least : ∀ m, Ch W (· ∈ c) a b m → P.length ≤ m + 1
section
variable {W : Web} {c : List Int} {a b : Int} {P : List Int}
theorem Way.pre (h : Way W c a b P) : ∀ i, 1 ≤ i → i < P.length → Ch W (· ∈ c) a (P.getD i 0) i := by
  intro i
  induction i with
  | zero => intro h; omega
  | succ i ih =>
    intro _ hl
    by_cases h0 : i = 0
    · subst h0
      have := h.step 0 hl
      rw [h.hd] at this
      exact .one this
    · exact .more (ih (by omega) (by omega)) (h.inner i (by omega) (by omega)) (h.step i hl)
theorem Way.ch (h : Way W c a b P) : Ch W (· ∈ c) a b (P.length - 1) := by
  have := h.two
  have q := h.pre (P.length - 1) (by omega) (by omega)
  rw [h.lst] at q
  exact q
theorem Way.on (h : Way W c a b P) {i m : Nat} (hi : 1 ≤ i) (hl : i < P.length) (q : Ch W (· ∈ c) a (P.getD i 0) m) : ∀ d, i + d < P.length → Ch W (· ∈ c) a (P.getD (i + d) 0) (m + d) := by
  intro d
  induction d with
  | zero => intro _; exact q
  | succ d ih =>
    intro hd
    exact .more (ih (by omega)) (h.inner (i + d) (by omega) (by omega)) (h.step (i + d) hd)
/-- no short cut over one -/
theorem Way.chordless (h : Way W c a b P) {i : Nat} (hi : 2 ≤ i) (hl : i < P.length) : P.getD i 0 ∉ adj W (P.getD (i - 2) 0) := by
  intro hc
  have q : Ch W (· ∈ c) a (P.getD i 0) (i - 1) := by
    by_cases h2 : i = 2
    · subst h2
      have hc' : P.getD 2 0 ∈ adj W (P.getD 0 0) := hc
      rw [h.hd] at hc'
      exact .one hc'
    · have := Ch.more (h.pre (i - 2) (by omega) (by omega)) (h.inner (i - 2) (by omega) (by omega)) hc
      rw [show i - 1 = i - 2 + 1 by omega]
      exact this
  have r := h.on (by omega) hl q (P.length - 1 - i) (by omega)
  rw [show i + (P.length - 1 - i) = P.length - 1 by omega, h.lst] at r
  have := h.least _ r
  omega
theorem Way.len_eq (ok : Ok W) (ia : InW W a) (ib : InW W b) {R : List Int} (h : Way W c a b P) (h' : Way W c b a R) : P.length = R.length := by
  have h1 := h.least _ (h'.ch.symm ok ib)
  have h2 := h'.least _ (h.ch.symm ok ia)
  have := h.two
  have := h'.two
  omega
/-- what chain hands back -/
def ChainRes (W : Web) (c : List Int) (a b : Int) (o : Option (List Int)) : Prop :=
  (a = b ∧ o = some [a]) ∨ (a ≠ b ∧ ((o = none ∧ ∀ m, ¬ Ch W (· ∈ c) a b m) ∨ ∃ P, o = some P ∧ Way W c a b P))
theorem ChainRes.none_iff {o : Option (List Int)} (h : ChainRes W c a b o) : o = none ↔ (a ≠ b ∧ ∀ m, ¬ Ch W (· ∈ c) a b m) := by
  rcases h with ⟨e, rfl⟩ | ⟨ne, ⟨rfl, h⟩ | ⟨P, rfl, h⟩⟩
  · simp [e]
  · simp [ne]; exact h
  · simp only [reduceCtorEq, false_iff, not_and]
    intro _ g
    exact g _ h.ch
/-! the law's tests -/
section
variable {T : Web} {o p : Option (List Int)}
theorem law1 (ok : Ok W) (t : Told W c T) (ia : InW W a) (h : ChainRes W c a b o) : o ≠ none ↔ (a = b ∨ b ∈ adj T a) := by
  rw [Ne, h.none_iff]
  by_cases e : a = b
  · simp [e]
  · simp only [e, ne_eq, not_false_eq_true, true_and, false_or]
    rw [t.mem a ia b]
    constructor
    · intro g
      refine ⟨fun z => e z.symm, ?_⟩
      exact Classical.byContradiction fun z => g fun m q => z ⟨m, q⟩
    · rintro ⟨_, m, q⟩ g
      exact g m q
theorem law2 (ok : Ok W) (ia : InW W a) (ib : InW W b) (h : ChainRes W c a b o) (h' : ChainRes W c b a p) : o = none ↔ p = none := by
  rw [h.none_iff, h'.none_iff]
  constructor
  · rintro ⟨ne, g⟩
    exact ⟨fun e => ne e.symm, fun m q => g m (q.symm ok ib)⟩
  · rintro ⟨ne, g⟩
    exact ⟨fun e => ne e.symm, fun m q => g m (q.symm ok ia)⟩
theorem law10 {f : Int → Option Nat} (hf : IsD W (wF a c) a f) (h : ChainRes W c a b o) : f b = some 0 ↔ o ≠ none := by
  rw [fewest_zero hf, Ne, h.none_iff]
  by_cases e : a = b
  · simp [e]
  · simp only [e, false_or, ne_eq, not_false_eq_true, true_and]
    constructor
    · rintro ⟨m, q⟩ g
      exact g m q
    · intro g
      exact Classical.byContradiction fun z => g fun m q => z ⟨m, q⟩
theorem law12 {f : Int → Option Nat} (t : Told W c T) (ia : InW W a) (hf : IsD T (fun _ => 1) a f) (h : ChainRes W c a b o) (ne : a ≠ b) : f b = some 1 ↔ o ≠ none := by
  rw [steps_one hf ne, t.mem a ia b]
  show _ ↔ ¬ (o = none)
  rw [h.none_iff]
  constructor
  · rintro ⟨_, m, q⟩ ⟨_, g⟩
    exact g m q
  · intro g
    exact ⟨fun z => ne z.symm, Classical.byContradiction fun z => g ⟨ne, fun m q => z ⟨m, q⟩⟩⟩
theorem law8 {f : Int → Option Nat} (ok : Ok W) (ia : InW W a) (hc : ∀ x, InW W x → x ∈ c) (hf : IsD W (fun _ => 1) a f) (h : ChainRes W c a b o) : o = none ↔ f b = none := by
  rw [h.none_iff, hf.none_iff]
  constructor
  · rintro ⟨ne, g⟩ k q
    rcases (pc_ch ok ia hc q).2 with ⟨_, e⟩ | q
    · exact ne e.symm
    · exact g k q
  · intro g
    refine ⟨fun e => g 0 (e ▸ .zero), fun m q => g m (ch_pc1 q)⟩
theorem law9 {f : Int → Option Nat} {d : Nat} (ok : Ok W) (ia : InW W a) (hc : ∀ x, InW W x → x ∈ c) (hf : IsD W (fun _ => 1) a f) (h : ChainRes W c a b o) (e : f b = some d) : ∃ P, o = some P ∧ P.length = d + 1 := by
  rcases h with ⟨q, rfl⟩ | ⟨ne, ⟨rfl, h⟩ | ⟨P, rfl, h⟩⟩
  · subst q
    rw [hf.zero] at e
    cases e
    exact ⟨_, rfl, rfl⟩
  · rcases (pc_ch ok ia hc (hf.sound _ _ e)).2 with ⟨_, q⟩ | q
    · exact absurd q.symm ne
    · exact absurd q (h _)
  · refine ⟨P, rfl, ?_⟩
    have := h.two
    rcases (pc_ch ok ia hc (hf.sound _ _ e)).2 with ⟨_, q⟩ | q
    · exact absurd q.symm ne
    · have h1 := h.least _ q
      obtain ⟨k, e2, l⟩ := hf.least (ch_pc1 h.ch)
      rw [e] at e2
      cases e2
      omega
/-- the round tables: for each called one a closed piece and a table with all its friends -/
def Tables (W : Web) (c : List Int) (TT : List (List Int)) : Prop :=
  ∀ x ∈ c, ∃ t ∈ TT, ∃ P : List Int, x ∈ P ∧ (∀ y ∈ P, ∀ z ∈ adj W y, z ∈ c → z ∈ P) ∧ ∀ y ∈ P, ∀ z ∈ adj W y, z ∈ t
theorem law7 (ok : Ok W) (ia : InW W a) {TT : List (List Int)} (ht : Tables W c TT) (hP : Way W c a b P) (l : 2 < P.length) : ∃ t ∈ TT, a ∈ t ∧ b ∈ t := by
  have i1 := hP.inner 1 (by omega) (by omega)
  obtain ⟨t, ht, Q, h1, h2, h3⟩ := ht _ i1
  have all : ∀ i, 1 ≤ i → i + 1 < P.length → P.getD i 0 ∈ Q := by
    intro i
    induction i with
    | zero => intro h; omega
    | succ i ih =>
      intro _ hl
      by_cases h0 : i = 0
      · subst h0
        exact h1
      · exact h2 _ (ih (by omega) (by omega)) _ (hP.step i (by omega)) (hP.inner (i + 1) (by omega) hl)
  refine ⟨t, ht, h3 _ h1 _ ?_, ?_⟩
  · have := hP.step 0 (by omega)
    rw [hP.hd] at this
    exact ok.sym _ ia _ this
  · have q := h3 _ (all (P.length - 2) (by omega) (by omega)) _ (hP.step (P.length - 2) (by omega))
    rw [show P.length - 2 + 1 = P.length - 1 by omega, hP.lst] at q
    exact q
end
end
end K75
/-! The mathematics of the loops. -/
namespace K75
theorem nodup_len : ∀ (n : Nat) (l : List Int), l.Nodup → (∀ x ∈ l, 0 ≤ x ∧ x < (n : Int)) → l.length ≤ n
  | 0, l, _, h => by
    cases l with
    | nil => exact Nat.le_refl _
    | cons x r =>
      have := h x (by simp)
      omega
  | n + 1, l, nd, h => by
    by_cases hn : (n : Int) ∈ l
    · have ih := nodup_len n (l.erase (n : Int)) (nd.erase _) fun x hx => by
        obtain ⟨h1, h2⟩ := (List.Nodup.mem_erase_iff nd).1 hx
        have := h x h2
        omega
      rw [List.length_erase_of_mem hn] at ih
      omega
    · have ih := nodup_len n l nd fun x hx => by
        have h1 := h x hx
        have h2 : x ≠ n := fun e => hn (e ▸ hx)
        omega
      omega
section
variable {W : Web}
/-! ### worklists -/
def push (p q : Int → Bool) (s : List Int × List Int) (y : Int) : List Int × List Int :=
  if y ∈ s.1 then s else if p y = true then (s.1 ++ [y], if q y = true then s.2 ++ [y] else s.2) else s
structure PF (p q : Int → Bool) (ys F L F' L' : List Int) : Prop where
  nd : F'.Nodup
  old : ∀ x ∈ F, x ∈ F'
  oldL : ∀ x ∈ L, x ∈ L'
  new : ∀ x ∈ F', x ∈ F ∨ (x ∈ ys ∧ p x = true)
  all : ∀ y ∈ ys, p y = true → y ∈ F'
  newL : ∀ x ∈ L', x ∈ L ∨ (x ∈ F' ∧ q x = true)
  inL : ∀ x ∈ F', x ∉ F → q x = true → x ∈ L'
  len : L'.length + F.length ≤ L.length + F'.length
  lenF : F.length ≤ F'.length
theorem push_fold (p q : Int → Bool) : ∀ (ys F L : List Int), F.Nodup → PF p q ys F L (ys.foldl (push p q) (F, L)).1 (ys.foldl (push p q) (F, L)).2
  | [], F, L, nd => ⟨nd, fun _ h => h, fun _ h => h, fun _ h => .inl h, fun _ h => (nomatch h), fun _ h => .inl h, fun x h n => absurd h n, Nat.le_refl _, Nat.le_refl _⟩
  | y :: ys, F, L, nd => by
    show PF p q (y :: ys) F L (ys.foldl (push p q) (push p q (F, L) y)).1 (ys.foldl (push p q) (push p q (F, L) y)).2
    by_cases hy : y ∈ F
    · have e : push p q (F, L) y = (F, L) := by unfold push; simp [hy]
      rw [e]
      have ih := push_fold p q ys F L nd
      exact ⟨ih.nd, ih.old, ih.oldL, fun x h => (ih.new x h).imp id fun z => ⟨List.mem_cons_of_mem _ z.1, z.2⟩, fun z h hz => (List.mem_cons.1 h).elim (fun e => ih.old _ (e ▸ hy)) fun h => ih.all z h hz, ih.newL, ih.inL, ih.len, ih.lenF⟩
    · by_cases py : p y = true
      · have e : push p q (F, L) y = (F ++ [y], if q y = true then L ++ [y] else L) := by unfold push; simp [hy, py]
        rw [e]
        have nd' : (F ++ [y]).Nodup := by
          rw [List.nodup_append]
          exact ⟨nd, by simp, fun a ha b hb => by
            have : b = y := by simpa using hb
            subst this
            exact fun e => hy (e ▸ ha)⟩
        have ih := push_fold p q ys (F ++ [y]) (if q y = true then L ++ [y] else L) nd'
        refine ⟨ih.nd, fun x h => ih.old x (List.mem_append_left _ h), fun x h => ih.oldL x ?_, fun x h => ?_, fun z h hz => ?_, fun x h => ?_, fun x h n qx => ?_, ?_, ?_⟩
        · split
          · exact List.mem_append_left _ h
          · exact h
        · rcases ih.new x h with h | h
          · rcases List.mem_append.1 h with h | h
            · exact .inl h
            · have : x = y := by simpa using h
              subst this
              exact .inr ⟨List.mem_cons_self, py⟩
          · exact .inr ⟨List.mem_cons_of_mem _ h.1, h.2⟩
        · rcases List.mem_cons.1 h with e | h
          · subst e
            exact ih.old _ (by simp)
          · exact ih.all z h hz
        · rcases ih.newL x h with h | h
          · split at h
            · rename_i hq
              rcases List.mem_append.1 h with h | h
              · exact .inl h
              · have : x = y := by simpa using h
                subst this
                exact .inr ⟨ih.old _ (by simp), hq⟩
            · exact .inl h
          · exact .inr h
        · by_cases hx : x = y
          · subst hx
            refine ih.oldL _ ?_
            rw [if_pos qx]
            simp
          · exact ih.inL x h (by simp [n, hx]) qx
        · have q1 := ih.len
          have hl : (if q y = true then L ++ [y] else L).length ≤ L.length + 1 := by split <;> simp
          rw [List.length_append, List.length_singleton] at q1
          omega
        · have q1 := ih.lenF
          rw [List.length_append, List.length_singleton] at q1
          omega
      · have e : push p q (F, L) y = (F, L) := by unfold push; simp [hy, py]
        rw [e]
        have ih := push_fold p q ys F L nd
        refine ⟨ih.nd, ih.old, ih.oldL, fun x h => (ih.new x h).imp id fun z => ⟨List.mem_cons_of_mem _ z.1, z.2⟩, fun z h hz => (List.mem_cons.1 h).elim (fun e => ?_) fun h => ih.all z h hz, ih.newL, ih.inL, ih.len, ih.lenF⟩
        subst e
        exact absurd hz py
structure WI (W : Web) (p q : Int → Bool) (s0 : Int) (R : Int → Prop) (F L : List Int) : Prop where
  nd : F.Nodup
  inw : ∀ x ∈ F, InW W x
  st : s0 ∈ F
  sub : ∀ x ∈ L, x ∈ F ∧ (x = s0 ∨ q x = true)
  sound : ∀ x ∈ F, R x
  closed : ∀ x ∈ F, (x = s0 ∨ q x = true) → x ∈ L ∨ ∀ y ∈ adj W x, p y = true → y ∈ F
variable {p q : Int → Bool} {s0 : Int} {R : Int → Prop} {F L : List Int}
theorem WI.start (is0 : InW W s0) (r : R s0) : WI W p q s0 R [s0] [s0] := by
  have one : ∀ x ∈ [s0], x = s0 := fun x h => by simpa using h
  exact ⟨by simp, fun x h => (one x h) ▸ is0, by simp, fun x h => ⟨h, .inl (one x h)⟩, fun x h => (one x h) ▸ r, fun x h _ => .inl h⟩
def wmu (W : Web) (F L : List Int) : Nat := 2 * (W.length - F.length) + L.length
theorem WI.flen (h : WI W p q s0 R F L) : F.length ≤ W.length := nodup_len _ _ h.nd fun x hx => h.inw x hx
theorem WI.turn (ok : Ok W) {t : Int} (h : WI W p q s0 R F (L ++ [t])) (hR : ∀ x y, R x → InW W x → (x = s0 ∨ q x = true) → y ∈ adj W x → p y = true → R y) :
    WI W p q s0 R ((adj W t).foldl (push p q) (F, L)).1 ((adj W t).foldl (push p q) (F, L)).2 ∧ wmu W ((adj W t).foldl (push p q) (F, L)).1 ((adj W t).foldl (push p q) (F, L)).2 < wmu W F (L ++ [t]) := by
  have f := push_fold p q (adj W t) F L h.nd
  obtain ⟨tF, tq⟩ := h.sub t (by simp)
  have it := h.inw t tF
  have key : WI W p q s0 R ((adj W t).foldl (push p q) (F, L)).1 ((adj W t).foldl (push p q) (F, L)).2 := by
    refine ⟨f.nd, fun x hx => ?_, f.old _ h.st, fun x hx => ?_, fun x hx => ?_, fun x hx hq => ?_⟩
    · rcases f.new x hx with z | z
      · exact h.inw x z
      · exact (ok.inn _ it _ z.1).1
    · rcases f.newL x hx with z | z
      · obtain ⟨a, b⟩ := h.sub x (List.mem_append_left _ z)
        exact ⟨f.old _ a, b⟩
      · exact ⟨z.1, .inr z.2⟩
    · rcases f.new x hx with z | z
      · exact h.sound x z
      · exact hR t x (h.sound _ tF) it tq z.1 z.2
    · by_cases hF : x ∈ F
      · rcases h.closed x hF hq with z | z
        · rcases List.mem_append.1 z with z | z
          · exact .inl (f.oldL _ z)
          · have : x = t := by simpa using z
            subst this
            exact .inr fun y hy py => f.all y hy py
        · exact .inr fun y hy py => f.old _ (z y hy py)
      · rcases hq with e | hq
        · exact absurd (e ▸ h.st) hF
        · exact .inl (f.inL x hx hF hq)
  refine ⟨key, ?_⟩
  have l1 := key.flen
  have l2 := f.len
  have l3 := h.flen
  have l4 := f.lenF
  unfold wmu
  rw [List.length_append, List.length_singleton]
  omega
theorem WI.done (h : WI W p q s0 R F []) : ∀ x ∈ F, (x = s0 ∨ q x = true) → ∀ y ∈ adj W x, p y = true → y ∈ F := fun x hx hq => (h.closed x hx hq).elim (fun z => nomatch z) id
/-- the ends of all chains -/
def RC (W : Web) (c : List Int) (s0 x : Int) : Prop := x = s0 ∨ ∃ m, Ch W (· ∈ c) s0 x m
theorem RC.step {c : List Int} (x y : Int) (h : RC W c s0 x) (hx : x = s0 ∨ decide (x ∈ c) = true) (hy : y ∈ adj W x) : RC W c s0 y := by
  right
  rcases hx with e | hx
  · exact ⟨1, .one (e ▸ hy)⟩
  · rcases h with e | ⟨m, h⟩
    · exact ⟨1, .one (e ▸ hy)⟩
    · exact ⟨m + 1, .more h (by simpa using hx) hy⟩
theorem ends_all {c : List Int} (h : WI W (fun _ => true) (fun x => decide (x ∈ c)) s0 (RC W c s0) F []) (x : Int) : x ∈ F ↔ RC W c s0 x := by
  refine ⟨h.sound x, ?_⟩
  rintro (rfl | ⟨m, hc⟩)
  · exact h.st
  · induction hc with
    | one hy => exact h.done _ h.st (.inl rfl) _ hy rfl
    | @more z y m _ hz hy ih => exact h.done _ ih (.inr (by simpa using hz)) _ hy rfl

/-! ### prices -/
def put (f : Int → Option Nat) (y : Int) (k : Nat) : Int → Option Nat := fun x => if x = y then some k else f x
theorem put_self {f : Int → Option Nat} {y : Int} {k : Nat} : put f y k y = some k := if_pos rfl
theorem put_ne {f : Int → Option Nat} {x y : Int} {k : Nat} (h : x ≠ y) : put f y k x = f x := if_neg h
structure RI (W : Web) (w : Int → Nat) (a : Int) (f : Int → Option Nat) (Pn : Int → Prop) : Prop where
  zero : f a = some 0
  inw : ∀ x k, f x = some k → InW W x
  sound : ∀ x k, f x = some k → Pc W w a x k
  closed : ∀ x k, f x = some k → Pn x ∨ ∀ y ∈ adj W x, ∃ k', f y = some k' ∧ k' ≤ k + w x
variable {w : Int → Nat} {a : Int} {f : Int → Option Nat} {Pn : Int → Prop}
theorem RI.start (ia : InW W a) : RI W w a (put (fun _ => none) a 0) (· = a) := by
  refine ⟨put_self, fun x k h => ?_, fun x k h => ?_, fun x k h => ?_⟩
  all_goals
    by_cases e : x = a
    · subst e
      rw [put_self] at h
      cases h
      first
        | exact ia
        | exact .zero
        | exact .inl rfl
    · rw [put_ne e] at h
      cases h
theorem RI.mono {Pn' : Int → Prop} (h : RI W w a f Pn) (g : ∀ x, Pn x → Pn' x) : RI W w a f Pn' := ⟨h.zero, h.inw, h.sound, fun x k e => (h.closed x k e).imp (g x) id⟩
theorem RI.put {y : Int} {k : Nat} (h : RI W w a f Pn) (hy : Pc W w a y k) (iy : InW W y) (lt : ∀ k0, f y = some k0 → k < k0) : RI W w a (put f y k) (fun x => Pn x ∨ x = y) := by
  have ya : a ≠ y := fun e => by
    have := lt 0 (e ▸ h.zero)
    omega
  have low : ∀ x k0, f x = some k0 → ∃ k1, K75.put f y k x = some k1 ∧ k1 ≤ k0 := by
    intro x k0 e
    by_cases hx : x = y
    · subst hx
      exact ⟨k, put_self, Nat.le_of_lt (lt _ e)⟩
    · exact ⟨k0, by rw [put_ne hx]; exact e, Nat.le_refl _⟩
  refine ⟨by rw [put_ne ya]; exact h.zero, fun x k0 e => ?_, fun x k0 e => ?_, fun x k0 e => ?_⟩
  · by_cases hx : x = y
    · exact hx ▸ iy
    · rw [put_ne hx] at e
      exact h.inw _ _ e
  · by_cases hx : x = y
    · subst hx
      rw [put_self] at e
      cases e
      exact hy
    · rw [put_ne hx] at e
      exact h.sound _ _ e
  · by_cases hx : x = y
    · exact .inl (.inr hx)
    · rw [put_ne hx] at e
      rcases h.closed _ _ e with z | z
      · exact .inl (.inl z)
      · refine .inr fun v hv => ?_
        obtain ⟨k1, e1, l1⟩ := z v hv
        obtain ⟨k2, e2, l2⟩ := low _ _ e1
        exact ⟨k2, e2, by omega⟩
/-- here is closed now -/
theorem RI.close {t : Int} {k : Nat} (h : RI W w a f (fun x => Pn x ∨ x = t)) (e : f t = some k) (g : ∀ y ∈ adj W t, ∃ k', f y = some k' ∧ k' ≤ k + w t) : RI W w a f Pn :=
  ⟨h.zero, h.inw, h.sound, fun x k0 e0 => by
    rcases h.closed x k0 e0 with (z | z) | z
    · exact .inl z
    · subst z
      rw [e] at e0
      cases e0
      exact .inr g
    · exact .inr z⟩
theorem RI.isD (h : RI W w a f (fun _ => False)) : IsD W w a f := ⟨h.zero, h.sound, fun x k e => (h.closed x k e).elim False.elim id⟩
theorem sum_upd (g g' : Nat → Nat) {j : Nat} (h : ∀ i, i ≠ j → g' i = g i) : ∀ n : Nat, (j < n → ((List.range n).map g').sum + g j = ((List.range n).map g).sum + g' j) ∧ (n ≤ j → ((List.range n).map g').sum = ((List.range n).map g).sum)
  | 0 => ⟨fun h => absurd h (Nat.not_lt_zero _), fun _ => rfl⟩
  | n + 1 => by
    obtain ⟨h1, h2⟩ := sum_upd g g' h n
    rw [List.range_succ, List.map_append, List.map_append, List.sum_append, List.sum_append]
    simp only [List.map_cons, List.map_nil, List.sum_cons, List.sum_nil, Nat.add_zero]
    refine ⟨fun hj => ?_, fun hj => ?_⟩
    · by_cases e : j = n
      · subst e
        have := h2 (Nat.le_refl _)
        omega
      · have := h1 (by omega)
        have := h n (fun z => e z.symm)
        omega
    · have := h2 (by omega)
      have := h n (by omega)
      omega
def cI (f : Int → Option Nat) (i : Nat) : Nat := if (f (i : Int)).isSome then 1 else 0
def pI (f : Int → Option Nat) (i : Nat) : Nat := (f (i : Int)).getD 8
def cnt (n : Nat) (f : Int → Option Nat) : Nat := ((List.range n).map (cI f)).sum
def phi (n : Nat) (f : Int → Option Nat) : Nat := ((List.range n).map (pI f)).sum
theorem cnt_le (f : Int → Option Nat) : ∀ n, cnt n f ≤ n
  | 0 => Nat.le_refl _
  | n + 1 => by
    have := cnt_le f n
    unfold cnt at *
    rw [List.range_succ, List.map_append, List.sum_append]
    simp only [List.map_cons, List.map_nil, List.sum_cons, List.sum_nil, Nat.add_zero]
    have : cI f n ≤ 1 := by unfold cI; split <;> omega
    omega
theorem put_nat {f : Int → Option Nat} {y : Int} {k : Nat} (h0 : 0 ≤ y) (i : Nat) (h : i ≠ y.toNat) : put f y k (i : Int) = f (i : Int) := put_ne (by omega)
theorem cnt_new {n : Nat} {y : Int} {k : Nat} (h0 : 0 ≤ y) (h1 : y < (n : Int)) (e : f y = none) : cnt n (put f y k) = cnt n f + 1 := by
  have q := (sum_upd (cI f) (cI (put f y k)) (j := y.toNat) (fun i hi => by unfold cI; rw [put_nat h0 i hi]) n).1 (by omega)
  have c1 : cI f y.toNat = 0 := by unfold cI; rw [Int.toNat_of_nonneg h0, e]; rfl
  have c2 : cI (put f y k) y.toNat = 1 := by unfold cI; rw [Int.toNat_of_nonneg h0, put_self]; rfl
  unfold cnt
  omega
theorem cnt_old {n : Nat} {y : Int} {k k0 : Nat} (h0 : 0 ≤ y) (h1 : y < (n : Int)) (e : f y = some k0) : cnt n (put f y k) = cnt n f := by
  have q := (sum_upd (cI f) (cI (put f y k)) (j := y.toNat) (fun i hi => by unfold cI; rw [put_nat h0 i hi]) n).1 (by omega)
  have c1 : cI f y.toNat = 1 := by unfold cI; rw [Int.toNat_of_nonneg h0, e]; rfl
  have c2 : cI (put f y k) y.toNat = 1 := by unfold cI; rw [Int.toNat_of_nonneg h0, put_self]; rfl
  unfold cnt
  omega
theorem phi_put {n : Nat} {y : Int} {k : Nat} (h0 : 0 ≤ y) (h1 : y < (n : Int)) (lt : ∀ k0, f y = some k0 → k < k0) (hn : f y = none → k < 8) : phi n (put f y k) < phi n f := by
  have q := (sum_upd (pI f) (pI (put f y k)) (j := y.toNat) (fun i hi => by unfold pI; rw [put_nat h0 i hi]) n).1 (by omega)
  have c2 : pI (put f y k) y.toNat = k := by unfold pI; rw [Int.toNat_of_nonneg h0, put_self]; rfl
  have c1 : k < pI f y.toNat := by
    unfold pI
    rw [Int.toNat_of_nonneg h0]
    cases e : f y with
    | none => exact hn e
    | some k0 => exact lt k0 e
  unfold phi
  omega
theorem cnt_one {n : Nat} {a : Int} {k : Nat} (h0 : 0 ≤ a) (h1 : a < (n : Int)) : cnt n (put (fun _ => none) a k) = 1 := by
  rw [cnt_new h0 h1 rfl]
  have : ∀ n, cnt n (fun _ => none) = 0 := by
    intro n
    induction n with
    | zero => rfl
    | succ n ih =>
      unfold cnt at *
      rw [List.range_succ, List.map_append, List.sum_append]
      simp only [List.map_cons, List.map_nil, List.sum_cons, List.sum_nil, Nat.add_zero]
      rw [ih]
      rfl
  rw [this]

/-! ### rows -/
def lastI (r : List Int) : Int := r.getD (r.length - 1) 0
structure Row (W : Web) (c : List Int) (a : Int) (r : List Int) : Prop where
  ne : r ≠ []
  hd : r.getD 0 0 = a
  step : ∀ i, i + 1 < r.length → r.getD (i + 1) 0 ∈ adj W (r.getD i 0) ∧ r.getD (i + 1) 0 ∈ c
  nd : r.Nodup
variable {c : List Int} {b : Int} {r : List Int}
theorem getD_app (r : List Int) (x : Int) (i : Nat) (h : i < r.length) : (r ++ [x]).getD i 0 = r.getD i 0 := by
  rw [List.getD_eq_getElem?_getD, List.getD_eq_getElem?_getD, List.getElem?_append_left h]
theorem getD_end (r : List Int) (x : Int) : (r ++ [x]).getD r.length 0 = x := by
  rw [List.getD_eq_getElem?_getD, List.getElem?_append_right (Nat.le_refl _)]
  simp
theorem getD_take (r : List Int) (k i : Nat) (h : i < k) : (r.take k).getD i 0 = r.getD i 0 := by
  rw [List.getD_eq_getElem?_getD, List.getD_eq_getElem?_getD, List.getElem?_take, if_pos h]
theorem Row.take (h : Row W c a r) {k : Nat} (hk : 1 ≤ k) (hl : k ≤ r.length) : Row W c a (r.take k) := by
  have len : (r.take k).length = k := by rw [List.length_take]; omega
  refine ⟨fun e => ?_, by rw [getD_take r k 0 (by omega)]; exact h.hd, fun i hi => ?_, h.nd.sublist (List.take_sublist _ _)⟩
  · rw [e] at len
    simp at len
    omega
  · rw [len] at hi
    rw [getD_take r k i (by omega), getD_take r k (i + 1) hi]
    exact h.step i (by omega)
theorem Row.snoc (h : Row W c a r) {x : Int} (hx : x ∈ adj W (lastI r)) (hc : x ∈ c) (hr : x ∉ r) : Row W c a (r ++ [x]) := by
  have l0 : 0 < r.length := List.length_pos_iff.2 h.ne
  refine ⟨by simp, by rw [getD_app _ _ _ l0]; exact h.hd, fun i hi => ?_, ?_⟩
  · rw [List.length_append, List.length_singleton] at hi
    by_cases e : i + 1 = r.length
    · rw [e, getD_end, getD_app _ _ _ (by omega)]
      have : i = r.length - 1 := by omega
      rw [this]
      exact ⟨hx, hc⟩
    · rw [getD_app _ _ _ (by omega), getD_app _ _ _ (by omega)]
      exact h.step i (by omega)
  · rw [List.nodup_append]
    exact ⟨h.nd, by simp, fun p hp q hq => by
      have : q = x := by simpa using hq
      subst this
      exact fun e => hr (e ▸ hp)⟩
theorem Row.inw (ok : Ok W) (ia : InW W a) (h : Row W c a r) : ∀ i, i < r.length → InW W (r.getD i 0) := by
  intro i
  induction i with
  | zero => intro _; rw [h.hd]; exact ia
  | succ i ih => intro hl; exact (ok.inn _ (ih (by omega)) _ (h.step i hl).1).1
theorem mem_getD {r : List Int} {x : Int} (h : x ∈ r) : ∃ i, i < r.length ∧ r.getD i 0 = x := by
  obtain ⟨i, hi, e⟩ := List.getElem_of_mem h
  exact ⟨i, hi, by rw [List.getD_eq_getElem?_getD, List.getElem?_eq_getElem hi]; exact e⟩
theorem getD_mem {r : List Int} {i : Nat} (h : i < r.length) : r.getD i 0 ∈ r := by
  rw [List.getD_eq_getElem?_getD, List.getElem?_eq_getElem h]
  exact List.getElem_mem h
theorem Row.len (ok : Ok W) (ia : InW W a) (h : Row W c a r) : r.length ≤ W.length := nodup_len _ _ h.nd fun x hx => by
  obtain ⟨i, hi, e⟩ := mem_getD hx
  exact e ▸ h.inw ok ia i hi
theorem Row.lastIn (ok : Ok W) (ia : InW W a) (h : Row W c a r) : InW W (lastI r) := h.inw ok ia _ (by have := List.length_pos_iff.2 h.ne; omega)
theorem ch_row (h : Ch W (· ∈ c) a b m) : ∃ r, Row W c a r ∧ r.length ≤ m ∧ b ∈ adj W (lastI r) := by
  induction h with
  | one h => exact ⟨[a], ⟨by simp, rfl, fun i hi => absurd hi (by simp), by simp⟩, Nat.le_refl _, h⟩
  | @more x b m _ hx hb ih =>
    obtain ⟨r, hr, hl, ha⟩ := ih
    have l0 : 0 < r.length := List.length_pos_iff.2 hr.ne
    by_cases hm : x ∈ r
    · obtain ⟨i, hi, e⟩ := mem_getD hm
      refine ⟨r.take (i + 1), hr.take (by omega) (by omega), by rw [List.length_take]; omega, ?_⟩
      have : lastI (r.take (i + 1)) = x := by
        unfold lastI
        rw [List.length_take, show min (i + 1) r.length - 1 = i by omega, getD_take _ _ _ (by omega)]
        exact e
      rw [this]
      exact hb
    · refine ⟨r ++ [x], hr.snoc ha hx hm, by rw [List.length_append, List.length_singleton]; omega, ?_⟩
      have : lastI (r ++ [x]) = x := by
        unfold lastI
        rw [List.length_append, List.length_singleton, Nat.add_sub_cancel, getD_end]
      rw [this]
      exact hb
def nextsOf (W : Web) (c r : List Int) : List (List Int) := ((adj W (lastI r)).filter fun x => decide (x ∈ c) && !decide (x ∈ r)).map fun x => r ++ [x]
def nexts (W : Web) (c : List Int) (rows : List (List Int)) : List (List Int) := rows.flatMap (nextsOf W c)
def endsOf (W : Web) (b : Int) (rows : List (List Int)) : List (List Int) := (rows.filter fun r => decide (b ∈ adj W (lastI r))).map fun r => r ++ [b]
structure RowsI (W : Web) (c : List Int) (a b : Int) (k : Nat) (rows : List (List Int)) : Prop where
  mem : ∀ r, r ∈ rows ↔ Row W c a r ∧ r.length = k + 1
  no : ∀ r, Row W c a r → r.length ≤ k → b ∉ adj W (lastI r)
  len : rows.length ≤ 7 ^ k
theorem RowsI.start : RowsI W c a b 0 [[a]] := by
  refine ⟨fun r => ?_, fun r h hl => ?_, by simp⟩
  · constructor
    · intro h
      have : r = [a] := by simpa using h
      subst this
      exact ⟨⟨by simp, rfl, fun i hi => absurd hi (by simp), by simp⟩, rfl⟩
    · rintro ⟨h, hl⟩
      match r, hl with
      | [x], _ =>
        have : x = a := h.hd
        subst this
        simp
  · have := List.length_pos_iff.2 h.ne
    omega
theorem adj_len (ok : Ok W) {x : Int} (ix : InW W x) : (adj W x).length ≤ 7 := by
  have nd : (adj W x).Nodup := (ok.asc x ix).imp fun h => Int.ne_of_lt h
  have hx : x ∉ adj W x := fun h => (ok.inn x ix x h).2 rfl
  have := nodup_len W.length (x :: adj W x) (List.nodup_cons.2 ⟨hx, nd⟩) fun y hy => by
    rcases List.mem_cons.1 hy with e | h
    · exact e ▸ ix
    · exact (ok.inn x ix y h).1
  have := ok.hi
  simp at *
  omega
theorem flat_len {α β : Type} (g : α → List β) (n : Nat) : ∀ l : List α, (∀ x ∈ l, (g x).length ≤ n) → (l.flatMap g).length ≤ n * l.length
  | [], _ => by simp
  | x :: l, h => by
    have ih := flat_len g n l fun y hy => h y (List.mem_cons_of_mem _ hy)
    have := h x List.mem_cons_self
    rw [List.flatMap_cons, List.length_append, List.length_cons, Nat.mul_succ]
    omega
theorem nextsOf_len (ok : Ok W) (ia : InW W a) (h : Row W c a r) : (nextsOf W c r).length ≤ 7 := by
  unfold nextsOf
  rw [List.length_map]
  exact Nat.le_trans (List.length_filter_le _ _) (adj_len ok (h.lastIn ok ia))
theorem RowsI.next {k : Nat} {rows : List (List Int)} (ok : Ok W) (ia : InW W a) (h : RowsI W c a b k rows) (e : endsOf W b rows = []) : RowsI W c a b (k + 1) (nexts W c rows) := by
  have nob : ∀ r ∈ rows, b ∉ adj W (lastI r) := by
    intro r hr hb
    have : r ++ [b] ∈ endsOf W b rows := List.mem_map.2 ⟨r, List.mem_filter.2 ⟨hr, by simpa using hb⟩, rfl⟩
    rw [e] at this
    cases this
  refine ⟨fun r => ?_, fun r hr hl => ?_, ?_⟩
  · constructor
    · intro hr
      obtain ⟨s, hs, hr⟩ := List.mem_flatMap.1 hr
      obtain ⟨x, hx, rfl⟩ := List.mem_map.1 hr
      obtain ⟨hx1, hx2⟩ := List.mem_filter.1 hx
      simp only [Bool.and_eq_true, decide_eq_true_eq, Bool.not_eq_true', decide_eq_false_iff_not] at hx2
      obtain ⟨h1, h2⟩ := (h.mem s).1 hs
      exact ⟨h1.snoc hx1 hx2.1 hx2.2, by rw [List.length_append, List.length_singleton, h2]⟩
    · rintro ⟨hr, hl⟩
      have hs := hr.take (k := k + 1) (by omega) (by omega)
      have ls : (r.take (k + 1)).length = k + 1 := by rw [List.length_take]; omega
      have split : r = r.take (k + 1) ++ [r.getD (k + 1) 0] := by
        have : r.take (k + 1 + 1) = r := List.take_of_length_le (by omega)
        rw [List.take_add_one, List.getElem?_eq_getElem (show k + 1 < r.length by omega)] at this
        rw [List.getD_eq_getElem?_getD, List.getElem?_eq_getElem (show k + 1 < r.length by omega)]
        exact this.symm
      have hst := hr.step k (by omega)
      have lst : lastI (r.take (k + 1)) = r.getD k 0 := by
        unfold lastI
        rw [ls, Nat.add_sub_cancel, getD_take _ _ _ (by omega)]
      refine List.mem_flatMap.2 ⟨r.take (k + 1), (h.mem _).2 ⟨hs, ls⟩, List.mem_map.2 ⟨r.getD (k + 1) 0, List.mem_filter.2 ⟨?_, ?_⟩, split.symm⟩⟩
      · rw [lst]; exact hst.1
      · simp only [Bool.and_eq_true, decide_eq_true_eq, Bool.not_eq_true', decide_eq_false_iff_not]
        refine ⟨hst.2, fun hm => ?_⟩
        have nd := hr.nd
        rw [split, List.nodup_append] at nd
        exact nd.2.2 _ hm _ (by simp) rfl
  · by_cases hk : r.length ≤ k
    · exact h.no r hr hk
    · exact nob r ((h.mem r).2 ⟨hr, by omega⟩)
  · have := flat_len (nextsOf W c) 7 rows fun r hr => nextsOf_len ok ia ((h.mem r).1 hr).1
    have l := h.len
    unfold nexts
    rw [Nat.pow_succ]
    omega
theorem RowsI.bound {k : Nat} {rows : List (List Int)} (ok : Ok W) (ia : InW W a) (h : RowsI W c a b k rows) (ne : rows ≠ []) : k + 1 ≤ W.length := by
  cases rows with
  | nil => exact absurd rfl ne
  | cons r rows =>
    obtain ⟨h1, h2⟩ := (h.mem r).1 List.mem_cons_self
    have := h1.len ok ia
    omega
theorem RowsI.none {k : Nat} {rows : List (List Int)} (h : RowsI W c a b k rows) (e : rows = []) : ∀ m, ¬ Ch W (· ∈ c) a b m := by
  intro m hc
  obtain ⟨r, hr, _, hb⟩ := ch_row hc
  by_cases hk : r.length ≤ k
  · exact h.no r hr hk hb
  · have ls : (r.take (k + 1)).length = k + 1 := by rw [List.length_take]; omega
    have : r.take (k + 1) ∈ rows := (h.mem _).2 ⟨hr.take (by omega) (by omega), ls⟩
    rw [e] at this
    cases this
theorem RowsI.found {k : Nat} {rows : List (List Int)} (h : RowsI W c a b k rows) (ne : a ≠ b) {P : List Int} (hP : P ∈ endsOf W b rows) : Way W c a b P := by
  obtain ⟨r, hr, rfl⟩ := List.mem_map.1 hP
  obtain ⟨hr, hb⟩ := List.mem_filter.1 hr
  have hb : b ∈ adj W (lastI r) := by simpa using hb
  obtain ⟨row, hl⟩ := (h.mem r).1 hr
  have len : (r ++ [b]).length = k + 2 := by rw [List.length_append, List.length_singleton, hl]
  have nb : b ∉ r := by
    intro hm
    obtain ⟨i, hi, e⟩ := mem_getD hm
    have i0 : i ≠ 0 := by
      rintro rfl
      exact ne (row.hd.symm.trans e)
    have := row.step (i - 1) (by omega)
    rw [show i - 1 + 1 = i by omega, e] at this
    have pre := row.take (k := i) (by omega) (by omega)
    have ls : (r.take i).length = i := by rw [List.length_take]; omega
    refine h.no _ pre (by omega) ?_
    have lst : lastI (r.take i) = r.getD (i - 1) 0 := by
      unfold lastI
      rw [ls, getD_take _ _ _ (by omega)]
    rw [lst]
    exact this.1
  refine ⟨by omega, by rw [getD_app _ _ _ (by omega)]; exact row.hd, ?_, fun i hi => ?_, fun i h0 hi => ?_, ?_, fun m hc => ?_⟩
  · rw [List.length_append, List.length_singleton, Nat.add_sub_cancel, getD_end]
  · rw [len] at hi
    by_cases e : i + 1 = r.length
    · rw [e, getD_end, getD_app _ _ _ (by omega)]
      have : i = r.length - 1 := by omega
      rw [this]
      exact hb
    · rw [getD_app _ _ _ (by omega), getD_app _ _ _ (by omega)]
      exact (row.step i (by omega)).1
  · rw [len] at hi
    rw [getD_app _ _ _ (by omega)]
    have := (row.step (i - 1) (by omega)).2
    rw [show i - 1 + 1 = i by omega] at this
    exact this
  · rw [List.nodup_append]
    exact ⟨row.nd, by simp, fun p hp q hq => by
      have : q = b := by simpa using hq
      subst this
      exact fun e => nb (e ▸ hp)⟩
  · obtain ⟨s, hs, hsl, hsb⟩ := ch_row hc
    by_cases hk : s.length ≤ k
    · exact absurd hsb (h.no s hs hk)
    · omega
end
end K75
/-! The text by places, heaps, the small defs. -/
namespace K75
open PySem L2
def top (i : Nat) : Stmt := PySem.Challenge.pw_introducers_k75_whole_chains_compared.main.body.getD i (.Pass ⟨0, 0, 0, 0⟩)
/-! ### heaps -/
theorem smUpd {H0 H : Hp} {p : Addr} {o : HO} (s : Same H0 H) (h : H0 p = none) : Same H0 (upd H p o) := fun b u e => by
  rw [upd_ne (ne_of_none e h)]
  exact s b u e
theorem smNew {H0 H : Hp} {p : Addr} {o : HO} (s : Same H0 H) (h : H p = none) : Same H0 (upd H p o) := smUpd s (s.free h)
/-- tuples stay -/
def Tp (H H' : Hp) : Prop := ∀ a xs, H a = some (.tup xs) → H' a = some (.tup xs)
theorem Tp.refl (H : Hp) : Tp H H := fun _ _ h => h
theorem Tp.trans {H H1 H2 : Hp} (a : Tp H H1) (b : Tp H1 H2) : Tp H H2 := fun p xs h => b p xs (a p xs h)
theorem sTp {H H' : Hp} (s : Same H H') : Tp H H' := fun a xs h => s a _ h
theorem tpNew {H : Hp} {p : Addr} {o : HO} (h : H p = none) : Tp H (upd H p o) := fun a xs e => by
  rw [upd_ne (ne_of_none e h)]
  exact e
theorem tpLst {H : Hp} {p : Addr} {o : HO} {xs : List V} (h : H p = some (.lst xs)) : Tp H (upd H p o) := fun a ys e => by
  rw [upd_ne (ne_of e h (fun z => nomatch z))]
  exact e
theorem tpDk {H : Hp} {p : Addr} {o : HO} {kvs : List (Key × V)} (h : H p = some (.dK kvs)) : Tp H (upd H p o) := fun a ys e => by
  rw [upd_ne (ne_of e h (fun z => nomatch z))]
  exact e
theorem IL.tp {H H' : Hp} {v : V} {ns : List Int} (h : IL H v ns) (t : Tp H H') : IL H' v ns := by
  obtain ⟨a, e, h⟩ := h
  exact ⟨a, e, t _ _ h⟩
theorem ilsTp {H H' : Hp} (t : Tp H H') : ∀ {vs : List V} {rows : List (List Int)}, Paired (IL H) vs rows → Paired (IL H') vs rows
  | _, _, .nil => .nil
  | _, _, .cons h r => .cons (h.tp t) (ilsTp t r)
/-- a web stands at v -/
def WA (H : Hp) (v : V) (W : Web) : Prop := ∃ a vs, v = .ref a ∧ H a = some (.tup vs) ∧ Paired (IL H) vs W
theorem WA.tp {H H' : Hp} {v : V} {W : Web} (h : WA H v W) (t : Tp H H') : WA H' v W := by
  obtain ⟨a, vs, e, h, p⟩ := h
  exact ⟨a, vs, e, t _ _ h, ilsTp t p⟩
theorem paired_at {α β : Type} {F : α → β → Prop} : ∀ {l : List α} {r : List β}, Paired F l r → ∀ (i : Nat) (x : α), l[i]? = some x → ∃ y, r[i]? = some y ∧ F x y
  | _, _, .nil, i, x, h => by simp at h
  | _, _, .cons f t, 0, x, h => by
    simp at h
    subst h
    exact ⟨_, rfl, f⟩
  | _, _, .cons f t, i + 1, x, h => by
    obtain ⟨y, h1, h2⟩ := paired_at t i x (by simpa using h)
    exact ⟨y, by simpa using h1, h2⟩
theorem paired_to {α β : Type} {F : α → β → Prop} : ∀ {l : List α} {r : List β}, Paired F l r → ∀ (i : Nat) (y : β), r[i]? = some y → ∃ x, l[i]? = some x ∧ F x y
  | _, _, .nil, i, x, h => by simp at h
  | _, _, .cons f t, 0, x, h => by
    simp at h
    subst h
    exact ⟨_, rfl, f⟩
  | _, _, .cons f t, i + 1, x, h => by
    obtain ⟨y, h1, h2⟩ := paired_to t i x (by simpa using h)
    exact ⟨y, by simpa using h1, h2⟩
theorem paired_app {α β : Type} {F : α → β → Prop} : ∀ {l l' : List α} {r r' : List β}, Paired F l r → Paired F l' r' → Paired F (l ++ l') (r ++ r')
  | _, _, _, _, .nil, q => q
  | _, _, _, _, .cons f t, q => .cons f (paired_app t q)
theorem paired_one {α β : Type} {F : α → β → Prop} {x : α} {y : β} (h : F x y) : Paired F [x] [y] := .cons h .nil
theorem WA.len {H : Hp} {vs : List V} {W : Web} (p : Paired (IL H) vs W) : vs.length = W.length := Paired.length p
/-- the item of a person -/
theorem wa_at {H : Hp} {vs : List V} {W : Web} (p : Paired (IL H) vs W) {x : Int} (ix : InW W x) : ∃ a, vs[x.toNat]? = some (.ref a) ∧ H a = some (.tup ((adj W x).map V.int)) := by
  have hl : x.toNat < W.length := by
    obtain ⟨h1, h2⟩ := ix
    omega
  obtain ⟨v, h1, a, rfl, h2⟩ := paired_to p x.toNat W[x.toNat] (List.getElem?_eq_getElem hl)
  refine ⟨a, h1, ?_⟩
  unfold adj
  rw [List.getD_eq_getElem?_getD, List.getElem?_eq_getElem hl]
  exact h2
theorem atI_int {α : Type} {xs : List α} {i : Int} {v : α} (h0 : 0 ≤ i) (h : xs[i.toNat]? = some v) : atI xs i = some v := by
  have := atI_nat h
  rw [Int.toNat_of_nonneg h0] at this
  exact this
theorem flat_ints (ns : List Int) : (ns.map V.int).all flatV = true := by
  induction ns with
  | nil => rfl
  | cons n r ih => exact ih
theorem inV_ints (k : Int) : ∀ ns : List Int, inV (.int k) (ns.map V.int) = decide (k ∈ ns)
  | [] => rfl
  | n :: r => by
    have e : inV (.int k) ((n :: r).map V.int) = ((n == k) || inV (.int k) (r.map V.int)) := rfl
    rw [e, inV_ints k r]
    by_cases h : n = k
    · subst h
      simp
    · have h1 : (n == k) = false := by simpa using h
      have h2 : (k ∈ n :: r) ↔ k ∈ r := by
        rw [List.mem_cons]
        exact ⟨fun z => z.elim (fun q => absurd q.symm h) id, .inr⟩
      rw [h1, Bool.false_or]
      exact (decide_eq_decide.2 h2).symm
theorem bne_list (a b : List Int) : PyData.eqv (.list (a.map .int)) (.list (b.map .int)) = decide (a = b) := by
  show PyData.eqvAll (a.map .int) (b.map .int) = decide (a = b)
  induction a generalizing b with
  | nil =>
    cases b with
    | nil => rfl
    | cons y r => rfl
  | cons x l ih =>
    cases b with
    | nil => rfl
    | cons y r =>
      have : PyData.eqvAll ((x :: l).map .int) ((y :: r).map .int) = (PyData.eqv (.int x) (.int y) && PyData.eqvAll (l.map .int) (r.map .int)) := PySem.W.eqv_all_cons _ _ _ _
      rw [this, ih]
      have e : PyData.eqv (.int x) (.int y) = (x == y) := rfl
      rw [e, Bool.eq_iff_iff]
      simp
theorem layInts : ∀ a : List Int, PyData.canLayAll0 (a.map .int) = true
  | [] => rfl
  | x :: l => layInts l
theorem layTups : ∀ a : List (List Int), PyData.canLayAll0 (a.map pyI) = true
  | [] => rfl
  | x :: l => by
    show (PyData.canLayAll0 (x.map .int) && PyData.canLayAll0 (l.map pyI)) = true
    rw [layInts, layTups l]
    rfl
theorem shapedInts (a : List Int) : SeqAt.shaped (.list (a.map .int)) = true := by
  unfold SeqAt.shaped
  rw [Bool.and_eq_true]
  refine ⟨layInts a, decide_eq_true ?_⟩
  have h := PySem.W.depth_ints a
  unfold PyData.depth
  rw [h]
  omega
theorem shapedTup (a : List Int) : SeqAt.shaped (pyI a) = true := by
  unfold SeqAt.shaped
  rw [Bool.and_eq_true]
  refine ⟨layInts a, decide_eq_true ?_⟩
  rw [depthI]
  omega
theorem shapedTups (a : List (List Int)) : SeqAt.shaped (.list (a.map pyI)) = true := by
  unfold SeqAt.shaped
  rw [Bool.and_eq_true]
  refine ⟨layTups a, decide_eq_true ?_⟩
  have h := depthAllI a
  unfold PyData.depth
  omega
theorem bne_nil (a : List (List Int)) : PyData.eqv (.list (a.map pyI)) (.list []) = decide (a = []) := by
  cases a with
  | nil => rfl
  | cons x l => rfl
/-! ### tests whose answer is known -/
theorem iteB {c : Bool} {A B : Prop} (hc : c = true) (h : A) : if c = true then A else B := by
  rw [if_pos hc]
  exact h
theorem iteC {c : Bool} {A B : Prop} (hc : c = false) (h : B) : if c = true then A else B := by
  rw [hc, if_neg Bool.false_ne_true]
  exact h
theorem iteBC {c : Bool} {A B : Prop} (h1 : c = true → A) (h2 : c = false → B) : if c = true then A else B := by
  cases c with
  | true => exact iteB rfl (h1 rfl)
  | false => exact iteC rfl (h2 rfl)
theorem toBl {Q : VK} {H : Hp} {b c : Bool} (e : b = c) (k : Q (.bl c) H) : Q (.bl b) H := e ▸ k
theorem toInt {Q : VK} {H : Hp} {b c : Int} (e : b = c) (k : Q (.int c) H) : Q (.int b) H := e ▸ k
/-! ### callees, names -/
/-- the def named x keeps the promise sp -/
structure Cl (P : Program) (w : World) (K : PySem.W.Frag) (mg : Str → Option Value) (base : Heap) (k : Nat) (x : Str) (ps : List Str) (sp : Sp) : Prop where
  ex : ∃ (f : Addr) (fd : FuncData), mg x = some (.ref f) ∧ PySem.W.keepIn K (.ref f) = true ∧ FnOk P w K mg base CX0 k f fd ps sp ∧ Binds K fd ps []
theorem pe_cl {X : Cx} {k : Nat} {x : Str} {ps : List Str} {sp : Sp} {e : Expr} {es : List Expr} {p pos : Pos} {t : TA} (C : Cl X.prog X.w X.K X.mg X.base k x ps sp) (hr : Room k X.A) (ha : PA X (e :: es) t) (hg : Gl X x := by rfl)
    (hdb : (x == ("__debug__" : Str)) = false := by decide) (he : starEach (e :: es) X.env = (false, eval e X.env) :: starEach es X.env := by rfl) (hpl : (backTo pos (starEach es X.env)).any (·.1) = false := by rfl) :
    PE X (.Call (.Name x p) (e :: es) [] pos) (tCall sp [] E0 t) := by
  obtain ⟨f, fd, hm, hk, G, b⟩ := C.ex
  exact pe_call G hr hg hm hk b .nil pass0 ha hdb he hpl
theorem Cl.of {P : Program} {w : World} {K : PySem.W.Frag} {mg : Str → Option Value} {base : Heap} {k : Nat} {x : Str} {ps : List Str} {sp : Sp} {st : Stmt} {f : Addr} {fd : FuncData} (F : Fun K x x st f fd) (hm : mg x = some (.ref f)) (G : FnOk P w K mg base CX0 k f fd ps sp) (b : Binds K fd ps []) : Cl P w K mg base k x ps sp := ⟨f, fd, hm, F.kp, G, b⟩
/-- the built-in names are the built-ins -/
structure Bt (mg : Str → Option Value) : Prop where
  isi : mg "isinstance" = none
  int : mg "int" = none
  bool : mg "bool" = none
  tuple : mg "tuple" = none
  len : mg "len" = none
  all : mg "all" = none
  any : mg "any" = none
  list : mg "list" = none
  sorted : mg "sorted" = none
  set : mg "set" = none
  enum : mg "enumerate" = none
  range : mg "range" = none
  min : mg "min" = none
  most : ∃ t, mg "MOST_PEOPLE" = some (.int 8 t)
section
variable {P : Program} {w : World} {K : PySem.W.Frag} {mg : Str → Option Value} {base : Heap} {f : Addr} {fd : FuncData}
/-! ### is_integer, is_in, is_list -/
def spIsInt : Sp := fun vs H Q _ => ∃ i : Int, vs = [.int i] ∧ Q (.bl true) H
theorem sc1 : FnScope ["value"] ["value"] (defScope (top 1)) := ⟨rfl, rfl, rfl, by decide +kernel, rfl, by decide +kernel, by decide +kernel⟩
theorem ok_is_integer (F : Fun K "is_integer" "is_integer" (top 1) f fd) (T : Bt mg) : FnOk P w K mg base CX0 1 f fd ["value"] spIsInt := by
  refine F.ok sc1 (fun vs H Q E h => ?_) (fun cdv A outer s H vs Q E hr h => ?_)
  · obtain ⟨i, rfl, _⟩ := h; rfl
  · obtain ⟨i, rfl, k⟩ := h
    refine ⟨_, pss_one (ps_ret (pe_and (pe_callB call_isi (by rfl) T.isi (by decide +kernel) (pa_cons (pv 0) (pa_cons (pe_bltn (v := .ty "int") (by rfl) T.int (by decide +kernel) rfl) pa_nil)))
      (pe_one (pe_not (pe_callB call_isi (by rfl) T.isi (by decide +kernel) (pa_cons (pv 0) (pa_cons (pe_bltn (v := .ty "bool") (by rfl) T.bool (by decide +kernel) rfl) pa_nil))))))), ?_⟩
    refine ⟨_, rfl, _, _, _, _, true, rfl, .ty "int", .base (.int i), kit_ty (by decide +kernel), _, rfl, ?_⟩
    exact iteT ⟨_, rfl, _, _, _, _, false, rfl, .ty "bool", .base (.int i), kit_ty (by decide +kernel), _, rfl, k⟩
def spIsIn : Sp := fun vs H Q _ => ∃ i lo hi : Int, vs = [.int i, .int lo, .int hi] ∧ lo ≤ i ∧ i ≤ hi ∧ Q (.bl true) H
theorem sc2 : FnScope ["value", "least", "most"] ["value", "least", "most"] (defScope (top 2)) := ⟨rfl, rfl, rfl, by decide +kernel, rfl, by decide +kernel, by decide +kernel⟩
theorem ok_is_in (F : Fun K "is_in" "is_in" (top 2) f fd) (T : Bt mg) (CI : Cl P w K mg base 1 "is_integer" ["value"] spIsInt) : FnOk P w K mg base CX0 2 f fd ["value", "least", "most"] spIsIn := by
  refine F.ok sc2 (fun vs H Q E h => ?_) (fun cdv A outer s H vs Q E hr h => ?_)
  · obtain ⟨i, lo, hi, rfl, _⟩ := h; rfl
  · obtain ⟨i, lo, hi, rfl, h1, h2, k⟩ := h
    refine ⟨_, pss_one (ps_ret (pe_and (pe_cl CI hr (pa_cons (pv 0) pa_nil)) (pe_one (pe_chain op_le op_le (pv 1) (pv 0) (pv 2))))), ?_⟩
    refine ⟨_, rfl, i, rfl, _, rfl, iteT ⟨_, rfl, _, rfl, _, _, rfl, rfl, _, rfl, ?_⟩⟩
    exact iteB (decide_eq_true h1) ⟨_, rfl, _, _, rfl, rfl, toBl (Q := Q) (decide_eq_true h2) k⟩
def spIsList : Sp := fun vs H Q _ => ∃ (a : Addr) (xs : List V) (lo hi : Int), vs = [.ref a, .int lo, .int hi] ∧ H a = some (.tup xs) ∧ lo ≤ (xs.length : Int) ∧ (xs.length : Int) ≤ hi ∧ Q (.bl true) H
theorem sc3 : FnScope ["value", "least", "most"] ["value", "least", "most"] (defScope (top 3)) := ⟨rfl, rfl, rfl, by decide +kernel, rfl, by decide +kernel, by decide +kernel⟩
theorem ok_is_list (F : Fun K "is_list" "is_list" (top 3) f fd) (T : Bt mg) : FnOk P w K mg base CX0 1 f fd ["value", "least", "most"] spIsList := by
  refine F.ok sc3 (fun vs H Q E h => ?_) (fun cdv A outer s H vs Q E hr h => ?_)
  · obtain ⟨a, xs, lo, hi, rfl, _⟩ := h; rfl
  · obtain ⟨a, xs, lo, hi, rfl, ha, h1, h2, k⟩ := h
    refine ⟨_, pss_one (ps_ret (pe_and (pe_callB call_isi (by rfl) T.isi (by decide +kernel) (pa_cons (pv 0) (pa_cons (pe_bltn (v := .ty "tuple") (by rfl) T.tuple (by decide +kernel) rfl) pa_nil)))
      (pe_one (pe_chain op_le op_le (pv 1) (pe_callB call_len_seq (by rfl) T.len PySem.boot_len (pa_cons (pv 0) pa_nil)) (pv 2))))), ?_⟩
    refine ⟨_, rfl, _, _, _, _, true, rfl, .ty "tuple", .base (.tup ha), kit_ty (by decide +kernel), _, rfl, iteT ⟨_, rfl, _, rfl, a, _, rfl, .inr (SqT.of ha), _, _, rfl, rfl, _, rfl, ?_⟩⟩
    exact iteB (decide_eq_true h1) ⟨_, rfl, _, _, rfl, rfl, toBl (Q := Q) (decide_eq_true h2) k⟩
/-! ### need_person -/
def spPerson : Sp := fun vs H Q _ => ∃ (v : V) (W : Web) (p : Int), vs = [v, .int p] ∧ WA H v W ∧ InW W p ∧ Q .non H
theorem sc12 : FnScope ["web", "person"] ["web", "person"] (defScope (top 12)) := ⟨rfl, rfl, rfl, by decide +kernel, rfl, by decide +kernel, by decide +kernel⟩
theorem ok_need_person (F : Fun K "need_person" "need_person" (top 12) f fd) (T : Bt mg) (CI : Cl P w K mg base 2 "is_in" ["value", "least", "most"] spIsIn) : FnOk P w K mg base CX0 3 f fd ["web", "person"] spPerson := by
  refine F.ok sc12 (fun vs H Q E h => ?_) (fun cdv A outer s H vs Q E hr h => ?_)
  · obtain ⟨v, W, p, rfl, _⟩ := h; rfl
  · obtain ⟨v, W, p, rfl, ⟨a, vs, rfl, ha, hp⟩, ⟨h1, h2⟩, k⟩ := h
    refine ⟨_, pss_one (ps_if (pt_not (pt_val (pe_cl CI hr (pa_cons (pv 1) (pa_cons pe_int (pa_cons (pe_op op_sub (pe_callB call_len_seq (by rfl) T.len PySem.boot_len (pa_cons (pv 0) pa_nil)) pe_int) pa_nil)))))) (pss_one ps_never) pss_nil), ?_⟩
    refine ⟨_, rfl, _, rfl, a, _, rfl, .inr (SqT.of ha), _, _, rfl, rfl, p, 0, _, rfl, h1, ?_, _, rfl, iteF k⟩
    rw [WA.len hp]
    omega
end
end K75
namespace K75
open PySem L2
/-- a loop of a comprehension over anything that is walked -/
theorem loop_it {J : It} {n : Nat} {G : Hp → Prop} {Y : Nat → Hp → V → Hp → Prop} (w : Walk J n G Y) {A : Hp → Prop} {B : (Hp → Prop) → V → Hp → Prop} {H1 : Hp} (Pv : Nat → Hp → Prop) (h0 : Pv 0 H1) (hG : ∀ i H, i ≤ n → Pv i H → G H)
    (hs : ∀ i x H H', i < n → Pv i H → Y i H x H' → B (Pv (i + 1)) x H') (hd : ∀ H, Pv n H → A H) :
    ∃ W : Nat → Nat → Hp → Prop, (∃ m, W 0 m H1) ∧ ∀ i m H, W i m H → (J.stop i H ∧ A H) ∨ (J.go i H ∧ ∃ Nx : Hp → Prop, (∀ H', Nx H' → ∃ m', m' < m ∧ W (i + 1) m' H') ∧ ∀ x H', J.yld i H x H' → B Nx x H') := by
  refine ⟨fun i m H => m = n - i ∧ i ≤ n ∧ Pv i H, ⟨n, by simp, Nat.zero_le _, h0⟩, ?_⟩
  rintro i m H ⟨rfl, hi, p⟩
  have q := hG i H hi p
  by_cases hlt : i < n
  · exact .inr ⟨w.goes i H hlt q, Pv (i + 1), fun H' p' => ⟨n - (i + 1), by omega, rfl, hlt, p'⟩, fun x H' y => hs i x H H' hlt p (w.yields i H x H' hlt q y)⟩
  · have e : i = n := by omega
    subst e
    exact .inl ⟨w.stops H q, hd H p⟩
/-! rules that name the written part (for blocks) -/
section
variable {X : Cx} (K : PySem.W.Frag)
theorem ixT (h : X.K = K := by rfl) : IxR X (rIxT K) := h ▸ ix_tup
theorem ixL (h : X.K = K := by rfl) : IxR X (rIxL K) := h ▸ ix_list
theorem inS (h : X.K = K := by rfl) : OpR X (compareOp .In) (rIn K false) := h ▸ op_in_seq
theorem notInS (h : X.K = K := by rfl) : OpR X (compareOp .NotIn) (rIn K true) := h ▸ op_notIn_seq
theorem callTupL (h : X.K = K := by rfl) : CallR X (.type "tuple") (fun xs H Q => ∃ p ys, xs = [.ref p] ∧ ((SqL K H p ys ∧ ∀ l, H l = none → Q (.ref l) (upd H l (.tup ys))) ∨ (SqT K H p ys ∧ Q (.ref p) H))) := h ▸ call_tuple_of
theorem callLstL (h : X.K = K := by rfl) : CallR X (.type "list") (fun xs H Q => ∃ p ys, xs = [.ref p] ∧ (SqL K H p ys ∨ SqT K H p ys) ∧ ∀ l, H l = none → Q (.ref l) (upd H l (.lst ys))) := h ▸ call_list_of
theorem crSetW (w : World) (hc : X.calm = true) (h : X.w = w := by rfl) : CallR X (.type "set") (rSetI w) := h ▸ cr_setI hc
theorem crSortSetW (w : World) (hc : X.calm = true) (h : X.w = w := by rfl) : CallR X (.builtin "sorted") (rSortedSet w) := h ▸ cr_sortedSet hc
theorem piT {tg l : Expr} {tl : TE} (hl : PE X l tl) (h : X.K = K := by rfl) : PI X tg l (iTup K tl) := h ▸ pi_tup hl
theorem piL {tg l : Expr} {tl : TE} (hl : PE X l tl) (h : X.K = K := by rfl) : PI X tg l (iList K tl) := h ▸ pi_list hl
end
theorem asc_ext : ∀ {a b : List Int}, a.Pairwise (· < ·) → b.Pairwise (· < ·) → (∀ k, k ∈ a ↔ k ∈ b) → a = b
  | [], [], _, _, _ => rfl
  | [], y :: r, _, _, h => absurd ((h y).2 List.mem_cons_self) (by simp)
  | x :: l, [], _, _, h => absurd ((h x).1 List.mem_cons_self) (by simp)
  | x :: l, y :: r, ha, hb, h => by
    obtain ⟨a1, a2⟩ := List.pairwise_cons.1 ha
    obtain ⟨b1, b2⟩ := List.pairwise_cons.1 hb
    have e : x = y := by
      rcases List.mem_cons.1 ((h x).1 List.mem_cons_self) with q | q
      · exact q
      · rcases List.mem_cons.1 ((h y).2 List.mem_cons_self) with q' | q'
        · exact q'.symm
        · have := a1 _ q'
          have := b1 _ q
          omega
    subst e
    have t : l = r := asc_ext a2 b2 fun k => by
      constructor
      · intro hk
        rcases List.mem_cons.1 ((h k).1 (List.mem_cons_of_mem _ hk)) with q | q
        · have := a1 _ hk
          omega
        · exact q
      · intro hk
        rcases List.mem_cons.1 ((h k).2 (List.mem_cons_of_mem _ hk)) with q | q
        · have := b1 _ hk
          omega
        · exact q
    rw [t]
theorem all_true (n : Nat) : (List.replicate n true).all id = true := by
  rw [List.all_replicate]
  cases n <;> rfl
theorem map_true (n : Nat) : (List.replicate n true).map V.bl = List.replicate n (V.bl true) := List.map_replicate
theorem lenI (ns : List Int) : (ns.map V.int).length = ns.length := List.length_map ..
theorem le64 {n : Nat} (h : n ≤ 64) : n ≤ sizeLine := Nat.le_trans h (by decide)
theorem lt64 {n : Nat} (h : n ≤ 64) : n < sizeLine := Nat.lt_of_le_of_lt h (by decide)
theorem get_int {ns : List Int} {i : Nat} {x : V} (h : (ns.map V.int)[i]? = some x) : ∃ k, ns[i]? = some k ∧ x = .int k := by
  rw [List.getElem?_map] at h
  cases e : ns[i]? with
  | none => rw [e] at h; cases h
  | some k => rw [e] at h; exact ⟨k, rfl, (Option.some.inj h).symm⟩
/-- the people of a set, ascending, all there -/
structure Set8 (W : Web) (c : List Int) : Prop where
  asc : c.Pairwise (· < ·)
  inw : ∀ x ∈ c, InW W x
theorem Set8.len {W : Web} {c : List Int} (h : Set8 W c) : c.length ≤ W.length := nodup_len _ _ (h.asc.imp fun q => Int.ne_of_lt q) fun x hx => h.inw x hx
section
variable {P : Program} {w : World} {K : PySem.W.Frag} {mg : Str → Option Value} {base : Heap} {f : Addr} {fd : FuncData}
/-! ### need_people -/
def spPeople : Sp := fun vs H Q _ => ∃ (v u : V) (W : Web) (c : List Int), vs = [v, u] ∧ WA H v W ∧ W.length ≤ 8 ∧ IL H u c ∧ Set8 W c ∧ ∀ H', Same H H' → Q .non H'
abbrev N13 : List Str := ["web", "people", "many", "person"]
theorem sc13 : FnScope N13 ["web", "people"] (defScope (top 13)) := ⟨rfl, rfl, rfl, by decide +kernel, rfl, by decide +kernel, by decide +kernel⟩
theorem ok_need_people (F : Fun K "need_people" "need_people" (top 13) f fd) (T : Bt mg) (CI : Cl P w K mg base 2 "is_in" ["value", "least", "most"] spIsIn) (CL : Cl P w K mg base 1 "is_list" ["value", "least", "most"] spIsList) : FnOk P w K mg base CX0 3 f fd ["web", "people"] spPeople := by
  refine F.ok sc13 (fun vs H Q E h => ?_) (fun cdv A outer s H vs Q E hr h => ?_)
  · obtain ⟨v, u, W, c, rfl, _⟩ := h; rfl
  · obtain ⟨v, u, W, c, rfl, ⟨a, vs, rfl, ha, hp⟩, hW, ⟨b, rfl, hb⟩, hc, k⟩ := h
    have hl := WA.len hp
    have hcl := hc.len
    have hr1 : Room 1 _ := hr.mono (by decide)
    refine ⟨_, pss_cons (ps_set (i := 2) sc13.nd rfl (Or.inr rfl) (pe_callB call_len_seq (by rfl) T.len PySem.boot_len (pa_cons (pv 0) pa_nil)))
      (pss_cons (ps_if (PW.pt (pw_or (pt_not (pt_val (pe_cl CL hr1 (pa_cons (pv 1) (pa_cons pe_int (pa_cons (pv 2) pa_nil))))))
          (pw_or1 (pt_not (pt_val (pe_callB (cr_all rfl) (by rfl) T.all (by decide +kernel) (pa_cons
            (pe_lc (own := [("person", 3)]) (g := gName 3) (tt := tYes) rfl sc13.nd (pi_tup (pv 1)) (blkOk_by (N := N13) (sc := defScope (top 13)) (by decide +kernel)) (fun _ _ _ _ _ => pg_name (i := 3) sc13.nd rfl (Or.inl rfl)) (fun _ _ _ _ _ => pts_nil)
              (fun _ _ _ _ _ => pe_cl CI hr (pa_cons (pv 3) (pa_cons pe_int (pa_cons (pe_op op_sub (pv 2) pe_int) pa_nil))))) pa_nil))))))) (pss_one ps_never) pss_nil)
      (pss_one (ps_if (pt_cmpR (op_neD hr.units) (pe_callTy call_list_of (by rfl) T.list (by decide +kernel) (pa_cons (pv 1) pa_nil)) (pe_callB (cr_sortedSet rfl) (by rfl) T.sorted (by decide +kernel) (pa_cons (pe_callTy (cr_setI rfl) (by rfl) T.set (by decide +kernel) (pa_cons (pv 1) pa_nil)) pa_nil)) (nomark _)) (pss_one ps_never) pss_nil))), ?_⟩
    refine ⟨_, rfl, a, _, rfl, .inr (SqT.of ha), ?_⟩
    refine ⟨_, rfl, _, rfl, b, _, 0, _, rfl, hb, by omega, by rw [lenI, hl]; omega, _, rfl, iteF ?_⟩
    refine ⟨_, rfl, b, rfl, ⟨_, SqT.of hb⟩, fun D hD => ?_⟩
    have nbD : b ≠ D := ne_of_none hb hD
    refine lc_tup (K := K) (a := b) (xs := c.map V.int) (fun i H' => H' = upd H D (.lst (List.replicate i (V.bl true)))) rfl (fun i H' _ e => by rw [e]; exact SqT.of (by rw [upd_ne nbD]; exact hb)) ?_ ?_
    · rintro i x H' hx rfl
      obtain ⟨p, hp', rfl⟩ := get_int hx
      have hi : i < c.length := (List.getElem?_eq_some_iff.1 hp').1
      have ip := hc.inw p (List.mem_of_getElem? hp')
      refine ⟨rfl, _, rfl, _, rfl, _, _, rfl, rfl, p, 0, _, rfl, ip.1, ?_, ?_⟩
      · have := ip.2
        rw [hl]
        omega
      · refine ⟨_, upd_same, by rw [List.length_replicate]; exact lt64 (by omega), ?_⟩
        show upd (upd H D _) D _ = _
        rw [upd_upd, List.replicate_succ']
    · rintro H' rfl
      refine ⟨D, List.replicate c.length true, rfl, SqL.of (by rw [upd_same, map_true, lenI]), _, rfl, iteC (by rw [all_true]; rfl) ?_⟩
      have s1 : Same H (upd H D (.lst (List.replicate (c.map V.int).length (V.bl true)))) := smNew (Same.refl H) hD
      generalize upd H D (.lst (List.replicate (c.map V.int).length (V.bl true))) = H1 at s1
      refine ⟨_, rfl, b, _, rfl, .inr (SqT.of (s1 _ _ hb)), fun l hl' => ?_⟩
      have s2 : Same H (upd H1 l (.lst (c.map V.int))) := smNew s1 hl'
      refine ⟨_, rfl, b, c, rfl, .inr (s2 _ _ hb), by omega, fun p ks hp' nd mem le => ?_⟩
      refine ⟨p, _, _, rfl, upd_same, by omega, fun ns q asc mem' _ hq => ?_⟩
      have e : ns = c := asc_ext asc hc.asc fun k => by
        rw [mem' k]
        simp
      subst e
      have npl : l ≠ p := ne_of_none (H := upd H1 l (.lst (ns.map V.int))) upd_same hp'
      have nql : l ≠ q := by
        rintro rfl
        rw [upd_ne npl, upd_same] at hq
        cases hq
      refine ⟨.list (ns.map .int), .list (ns.map .int), .lst (SqL.of (by rw [upd_ne nql, upd_ne npl, upd_same])) (dpInts _), .lst (SqL.of upd_same) (dpInts _), shapedInts _, shapedInts _, _, rfl, iteC (by rw [bne_list]; simp) ?_⟩
      exact k _ (smNew (smNew s2 hp') hq)
/-! ### friends, are_friends -/
def spNeedWeb : Sp := fun vs H Q _ => ∃ (v : V) (W : Web), vs = [v] ∧ WA H v W ∧ Ok W ∧ ∀ H', Same H H' → Q .non H'
def spFriends : Sp := fun vs H Q _ => ∃ (v : V) (W : Web) (p : Int), vs = [v, .int p] ∧ WA H v W ∧ Ok W ∧ InW W p ∧ ∀ u H', Same H H' → IL H' u (adj W p) → Q u H'
theorem sc14 : FnScope ["web", "person"] ["web", "person"] (defScope (top 14)) := ⟨rfl, rfl, rfl, by decide +kernel, rfl, by decide +kernel, by decide +kernel⟩
theorem ok_friends (F : Fun K "friends" "friends" (top 14) f fd) (T : Bt mg) (CW : Cl P w K mg base 3 "need_web" ["web"] spNeedWeb) (CP : Cl P w K mg base 3 "need_person" ["web", "person"] spPerson) : FnOk P w K mg base CX0 4 f fd ["web", "person"] spFriends := by
  refine F.ok sc14 (fun vs H Q E h => ?_) (fun cdv A outer s H vs Q E hr h => ?_)
  · obtain ⟨v, W, p, rfl, _⟩ := h; rfl
  · obtain ⟨v, W, p, rfl, hw, ok, ip, k⟩ := h
    refine ⟨_, pss_cons (ps_expr (pe_cl CW hr (pa_cons (pv 0) pa_nil))) (pss_cons (ps_expr (pe_cl CP hr (pa_cons (pv 0) (pa_cons (pv 1) pa_nil)))) (pss_one (ps_ret (pe_ix ix_tup (pv 0) (pv 1) (fun _ _ => rfl))))), ?_⟩
    refine ⟨_, rfl, v, W, rfl, hw, ok, fun H1 s1 => ?_⟩
    have hw1 := hw.tp (sTp s1)
    refine ⟨_, rfl, _, rfl, v, W, p, rfl, hw1, ip, ?_⟩
    obtain ⟨a, vs, rfl, ha, hp⟩ := hw1
    obtain ⟨x, h1, h2⟩ := wa_at hp ip
    exact ⟨_, rfl, _, rfl, a, vs, p, _, rfl, rfl, SqT.of ha, atI_int ip.1 h1, k _ _ s1 ⟨x, rfl, h2⟩⟩
def spAreFriends : Sp := fun vs H Q _ => ∃ (v : V) (W : Web) (p q : Int), vs = [v, .int p, .int q] ∧ WA H v W ∧ Ok W ∧ InW W p ∧ InW W q ∧ ∀ H', Same H H' → Q (.bl (decide (q ∈ adj W p))) H'
theorem sc15 : FnScope ["web", "one", "other"] ["web", "one", "other"] (defScope (top 15)) := ⟨rfl, rfl, rfl, by decide +kernel, rfl, by decide +kernel, by decide +kernel⟩
theorem ok_are_friends (F : Fun K "are_friends" "are_friends" (top 15) f fd) (T : Bt mg) (CW : Cl P w K mg base 3 "need_web" ["web"] spNeedWeb) (CP : Cl P w K mg base 3 "need_person" ["web", "person"] spPerson) : FnOk P w K mg base CX0 4 f fd ["web", "one", "other"] spAreFriends := by
  refine F.ok sc15 (fun vs H Q E h => ?_) (fun cdv A outer s H vs Q E hr h => ?_)
  · obtain ⟨v, W, p, q, rfl, _⟩ := h; rfl
  · obtain ⟨v, W, p, q, rfl, hw, ok, ip, iq, k⟩ := h
    refine ⟨_, pss_cons (ps_expr (pe_cl CW hr (pa_cons (pv 0) pa_nil))) (pss_cons (ps_expr (pe_cl CP hr (pa_cons (pv 0) (pa_cons (pv 1) pa_nil)))) (pss_cons (ps_expr (pe_cl CP hr (pa_cons (pv 0) (pa_cons (pv 2) pa_nil)))) (pss_one (ps_ret (pe_cmpR op_in_seq (pv 2) (pe_ix ix_tup (pv 0) (pv 1) (fun _ _ => rfl)) (by rfl)))))), ?_⟩
    refine ⟨_, rfl, v, W, rfl, hw, ok, fun H1 s1 => ?_⟩
    have hw1 := hw.tp (sTp s1)
    refine ⟨_, rfl, _, rfl, v, W, p, rfl, hw1, ip, ?_⟩
    refine ⟨_, rfl, _, rfl, v, W, q, rfl, hw1, iq, ?_⟩
    obtain ⟨a, vs, rfl, ha, hp⟩ := hw1
    obtain ⟨x, h1, h2⟩ := wa_at hp ip
    refine ⟨_, rfl, _, rfl, _, rfl, a, vs, p, _, rfl, rfl, SqT.of ha, atI_int ip.1 h1, x, _, rfl, .inr (SqT.of h2), rfl, flat_ints _, ?_⟩
    exact toBl (Q := Q) (inV_ints _ _) (k _ s1)
end
end K75
namespace K75
open PySem L2
theorem take_more {α : Type} {l : List α} {i : Nat} {x : α} (h : l[i]? = some x) : l.take (i + 1) = l.take i ++ [x] := by
  rw [List.take_add_one, h]
  rfl
theorem all_take {α : Type} {l : List α} {i : Nat} {x : α} (h : l[i]? = some x) (p : α → Prop) : (∀ y ∈ l.take (i + 1), p y) ↔ (∀ y ∈ l.take i, p y) ∧ p x := by
  rw [take_more h]
  constructor
  · intro g
    exact ⟨fun y hy => g y (List.mem_append_left _ hy), g x (by simp)⟩
  · rintro ⟨g1, g2⟩ y hy
    rcases List.mem_append.1 hy with hy | hy
    · exact g1 y hy
    · have : y = x := by simpa using hy
      exact this ▸ g2
theorem all_full {α : Type} {l : List α} (p : α → Prop) : (∀ y ∈ l.take l.length, p y) ↔ ∀ y ∈ l, p y := by rw [List.take_length]
section
variable {P : Program} {w : World} {K : PySem.W.Frag} {mg : Str → Option Value} {base : Heap} {f : Addr} {fd : FuncData}
/-! ### is_table -/
def spTable : Sp := fun vs H Q _ => ∃ (v u : V) (W : Web) (l : List Int), vs = [v, u] ∧ WA H v W ∧ IL H u l ∧ l.length ≤ 8 ∧ (∀ x ∈ l, InW W x) ∧ ∀ b H', Same H H' → (b = true ↔ Tab W l) → Q (.bl b) H'
abbrev N17 : List Str := ["web", "people", "one", "other"]
theorem sc17 : FnScope N17 ["web", "people"] (defScope (top 17)) := ⟨rfl, rfl, rfl, by decide +kernel, rfl, by decide +kernel, by decide +kernel⟩
theorem ok_is_table (F : Fun K "is_table" "is_table" (top 17) f fd) (T : Bt mg) : FnOk P w K mg base CX0 1 f fd ["web", "people"] spTable := by
  refine F.ok sc17 (fun vs H Q E h => ?_) (fun cdv A outer s H vs Q E hr h => ?_)
  · obtain ⟨v, u, W, l, rfl, _⟩ := h; rfl
  · obtain ⟨v, u, W, l, rfl, ⟨a, vs, rfl, ha, hp⟩, ⟨b, rfl, hb⟩, h8, hin, k⟩ := h
    refine ⟨_, pss_one (ps_ret (pe_callB (cr_all rfl) (by rfl) T.all (by decide +kernel) (pa_cons
      (pe_lc2 (own := [("one", 2), ("other", 3)]) (vs1 := [3]) (g := gName 2) (tt := tYes) (g1 := gName 3) rfl sc17.nd (pi_tup (pv 1)) (blkOk_by (N := N17) (sc := defScope (top 17)) (by decide +kernel)) (by decide)
        (fun _ _ _ _ _ => pg_name (i := 2) sc17.nd rfl (Or.inl rfl)) (fun _ _ _ _ _ => pts_nil) (fun _ _ _ _ _ => piT K (pv 1)) (fun _ _ _ _ _ => pg_name (i := 3) sc17.nd rfl (Or.inl rfl))
        (fun _ _ _ _ _ => pts_one (pt_cmpR op_lt (pv 2) (pv 3) (nomark _))) (fun _ _ _ _ _ => pe_cmpR (inS K) (pv 3) (pe_ix (ixT K) (pv 0) (pv 2) (fun _ _ => rfl)) (by rfl))) pa_nil))), ?_⟩
    refine ⟨_, rfl, b, rfl, ⟨_, SqT.of hb⟩, fun D hD => ?_⟩
    have nbD : b ≠ D := ne_of_none hb hD
    have naD : a ≠ D := ne_of_none ha hD
    refine loop_it (walk_tup (xs := l.map V.int)) (fun i H' => ∃ bs : List Bool, H' = upd H D (.lst (bs.map V.bl)) ∧ bs.length ≤ 8 * i ∧ (bs.all id = true ↔ ∀ y ∈ l.take i, ∀ z ∈ l, y < z → z ∈ adj W y)) ⟨[], rfl, by simp, by simp⟩
      (fun i H' _ ⟨bs, e, _⟩ => by rw [e]; exact SqT.of (by rw [upd_ne nbD]; exact hb)) ?_ ?_
    · rintro i x H1 H2 hi ⟨bs, rfl, hl, hbs⟩ ⟨rfl, hx⟩
      obtain ⟨y, hy, rfl⟩ := get_int hx
      have hil : i < l.length := (List.getElem?_eq_some_iff.1 hy).1
      have iy := hin y (List.mem_of_getElem? hy)
      obtain ⟨c, hc1, hc2⟩ := wa_at hp iy
      have ncD : c ≠ D := ne_of_none hc2 hD
      refine ⟨rfl, _, rfl, b, rfl, ⟨_, SqT.of (by rw [upd_ne nbD]; exact hb)⟩, ?_⟩
      refine loop_it (walk_tup (xs := l.map V.int)) (fun j H' => ∃ bs : List Bool, H' = upd H D (.lst (bs.map V.bl)) ∧ bs.length ≤ 8 * i + j ∧ (bs.all id = true ↔ (∀ y ∈ l.take i, ∀ z ∈ l, y < z → z ∈ adj W y) ∧ ∀ z ∈ l.take j, y < z → z ∈ adj W y)) ⟨bs, rfl, by omega, by rw [hbs]; simp⟩
        (fun i H' _ ⟨bs, e, _⟩ => by rw [e]; exact SqT.of (by rw [upd_ne nbD]; exact hb)) ?_ ?_
      · rintro j x H1 H2 hj ⟨bs, rfl, hl, hbs⟩ ⟨rfl, hx⟩
        obtain ⟨z, hz, rfl⟩ := get_int hx
        have hjl : j < l.length := (List.getElem?_eq_some_iff.1 hz).1
        refine ⟨rfl, _, rfl, _, rfl, _, _, rfl, rfl, _, rfl, iteBC (fun hlt => ?_) (fun hge => ?_)⟩
        · have hlt : y < z := of_decide_eq_true hlt
          refine ⟨_, rfl, _, rfl, _, rfl, a, vs, y, _, rfl, rfl, SqT.of (by rw [upd_ne naD]; exact ha), atI_int iy.1 hc1, c, _, rfl, .inr (SqT.of (by rw [upd_ne ncD]; exact hc2)), rfl, flat_ints _, _, upd_same, ?_, bs ++ [decide (z ∈ adj W y)], ?_, ?_, ?_⟩
          · rw [List.length_map]
            exact lt64 (by omega)
          · rw [upd_upd, List.map_append]
            show upd H D (.lst (bs.map V.bl ++ [.bl (inV (.int z) ((adj W y).map V.int))])) = _
            rw [inV_ints]
            rfl
          · rw [List.length_append, List.length_singleton]
            omega
          · rw [all_take hz, List.all_append, Bool.and_eq_true, hbs, and_assoc]
            simp [hlt]
        · have hge : ¬ y < z := of_decide_eq_false hge
          refine ⟨bs, rfl, by omega, ?_⟩
          rw [hbs, all_take hz]
          simp [hge]
      · rintro H1 ⟨bs, rfl, hl, hbs⟩
        rw [lenI] at hl hbs
        refine ⟨bs, rfl, by omega, ?_⟩
        rw [hbs, all_take hy, all_full]
    · rintro H1 ⟨bs, rfl, hl, hbs⟩
      rw [lenI] at hl hbs
      rw [all_full] at hbs
      exact ⟨D, bs, rfl, SqL.of upd_same, k _ _ (smNew (Same.refl H) hD) hbs⟩
/-! ### need_web -/
abbrev N11 : List Str := ["web", "people", "index", "friends", "other"]
theorem sc11 : FnScope N11 ["web"] (defScope (top 11)) := ⟨rfl, rfl, rfl, by decide +kernel, rfl, by decide +kernel, by decide +kernel⟩
theorem ok_need_web (F : Fun K "need_web" "need_web" (top 11) f fd) (T : Bt mg) (CI : Cl P w K mg base 2 "is_in" ["value", "least", "most"] spIsIn) (CL : Cl P w K mg base 1 "is_list" ["value", "least", "most"] spIsList) : FnOk P w K mg base CX0 3 f fd ["web"] spNeedWeb := by
  refine F.ok sc11 (fun vs H Q E h => ?_) (fun cdv A outer s H vs Q E hr h => ?_)
  · obtain ⟨v, W, rfl, _⟩ := h; rfl
  · obtain ⟨v, W, rfl, ⟨a, vs, rfl, ha, hp⟩, ok, k⟩ := h
    have hl := WA.len hp
    have h8 := ok.hi
    have h1 := ok.lo
    have hr1 : Room 1 _ := hr.mono (by decide)
    obtain ⟨tm, hm⟩ := T.most
    refine ⟨_, pss_cons (ps_if (pt_not (pt_val (pe_cl CL hr1 (pa_cons (pv 0) (pa_cons pe_int (pa_cons (pe_glob (v := .int 8) (by rfl) hm ⟨_, rfl⟩) pa_nil)))))) (pss_one ps_never) pss_nil)
      (pss_cons (ps_set (i := 1) sc11.nd rfl (Or.inr rfl) (pe_callB call_len_seq (by rfl) T.len PySem.boot_len (pa_cons (pv 0) pa_nil)))
      (pss_cons (ps_for PassesOwn.never rfl (pi_enumT (by rfl) T.enum (pa_cons (pv 0) pa_nil)) (pg_tup rfl (pgs_cons (pg_name (i := 2) sc11.nd rfl (Or.inr rfl)) (pgs_cons (pg_name (i := 3) sc11.nd rfl (Or.inl rfl)) pgs_nil)))
        (pss_cons (ps_if (PW.pt (pw_or (pt_not (pt_val (pe_cl CL hr1 (pa_cons (pv 3) (pa_cons pe_int (pa_cons (pe_op op_sub (pv 1) pe_int) pa_nil))))))
          (pw_or1 (pt_not (pt_val (pe_callB (cr_all rfl) (by rfl) T.all (by decide +kernel) (pa_cons
            (pe_lc (own := [("other", 4)]) (g := gName 4) (tt := tYes) rfl sc11.nd (pi_tup (pv 3)) (blkOk_by (N := N11) (sc := defScope (top 11)) (by decide +kernel)) (fun _ _ _ _ _ => pg_name (i := 4) sc11.nd rfl (Or.inl rfl)) (fun _ _ _ _ _ => pts_nil)
              (fun _ _ _ _ _ => pe_cl CI hr (pa_cons (pv 4) (pa_cons pe_int (pa_cons (pe_op op_sub (pv 1) pe_int) pa_nil))))) pa_nil))))))) (pss_one ps_never) pss_nil)
        (pss_one (ps_if (PW.pt (pw_or (pt_cmpR (op_neD hr.units) (pe_callTy call_list_of (by rfl) T.list (by decide +kernel) (pa_cons (pv 3) pa_nil)) (pe_callB (cr_sortedSet rfl) (by rfl) T.sorted (by decide +kernel) (pa_cons (pe_callTy (cr_setI rfl) (by rfl) T.set (by decide +kernel) (pa_cons (pv 3) pa_nil)) pa_nil)) (nomark _))
          (pw_or1 (pt_cmpR op_in_seq (pv 2) (pv 3) (by rfl))))) (pss_one ps_never) pss_nil))))
      (pss_one (ps_for PassesOwn.never rfl (pi_enumT (by rfl) T.enum (pa_cons (pv 0) pa_nil)) (pg_tup rfl (pgs_cons (pg_name (i := 2) sc11.nd rfl (Or.inr rfl)) (pgs_cons (pg_name (i := 3) sc11.nd rfl (Or.inl rfl)) pgs_nil)))
        (pss_one (ps_if (pt_val (pe_callB (cr_any rfl) (by rfl) T.any (by decide +kernel) (pa_cons
            (pe_lc (own := [("other", 4)]) (g := gName 4) (tt := tYes) rfl sc11.nd (pi_tup (pv 3)) (blkOk_by (N := N11) (sc := defScope (top 11)) (by decide +kernel)) (fun _ _ _ _ _ => pg_name (i := 4) sc11.nd rfl (Or.inl rfl)) (fun _ _ _ _ _ => pts_nil)
              (fun _ _ _ _ _ => pe_cmpR (notInS K) (pv 2) (pe_ix (ixT K) (pv 0) (pv 4) (fun _ _ => rfl)) (by rfl))) pa_nil))) (pss_one ps_never) pss_nil)))))), ?_⟩
    refine ⟨_, rfl, a, _, 1, 8, rfl, ha, by omega, by omega, _, rfl, iteF ?_⟩
    refine ⟨_, rfl, a, _, rfl, .inr (SqT.of ha), ?_⟩
    refine ⟨_, rfl, a, vs, rfl, ha, for_it walk_enumT (fun i σ H' => (∃ o2 o3, σ = [some (.ref a), some (.int ((vs.length : Nat) : Int)), o2, o3, none]) ∧ Same H H') ⟨⟨_, _, rfl⟩, Same.refl H⟩ (fun i σ H' _ ⟨_, s1⟩ => s1 _ _ ha) ?_ ?_⟩
    · rintro i x σ H0 H' hi ⟨⟨o2, o3, rfl⟩, s0⟩ ⟨Tt, xi, fr, rfl, hT, rfl, e1, e2⟩
      cases e1
      have ii : InW W (i : Int) := ⟨by omega, by omega⟩
      obtain ⟨b, hb1, hb2⟩ := wa_at hp ii
      have e3 : fr = .ref b := by
        have : ((i : Nat) : Int).toNat = i := by omega
        rw [this] at hb1
        exact Option.some.inj (e2.symm.trans hb1)
      subst e3
      have s1 : Same H (upd H0 Tt (.tup [.int (i : Nat), .ref b])) := smNew s0 hT
      refine ⟨Tt, _, rfl, SqT.of upd_same, rfl, _, _, rfl, _, _, rfl, rfl, ?_⟩
      generalize upd H0 Tt (.tup [.int (i : Nat), .ref b]) = H1 at s1
      clear hT s0 e2
      have hb := s1 _ _ hb2
      have hal := adj_len ok ii
      have hlt : (adj W (i : Int)).length + 1 ≤ W.length := by
        have nd : (adj W (i : Int)).Nodup := (ok.asc _ ii).imp fun h => Int.ne_of_lt h
        have hx : (i : Int) ∉ adj W (i : Int) := fun h => (ok.inn _ ii _ h).2 rfl
        have := nodup_len W.length ((i : Int) :: adj W (i : Int)) (List.nodup_cons.2 ⟨hx, nd⟩) fun y hy => by
          rcases List.mem_cons.1 hy with e | h
          · exact e ▸ ii
          · exact (ok.inn _ ii y h).1
        simpa using this
      have asc := ok.asc _ ii
      have inn := ok.inn _ ii
      generalize adj W (i : Int) = c at hb hal hlt asc inn
      refine ⟨_, rfl, _, rfl, _, _, rfl, rfl, b, _, 0, _, rfl, hb, by omega, by rw [lenI, hl]; omega, _, rfl, iteF ?_⟩
      refine ⟨_, rfl, b, rfl, ⟨_, SqT.of hb⟩, fun D hD => ?_⟩
      have nbD : b ≠ D := ne_of_none hb hD
      refine lc_tup (K := K) (a := b) (xs := c.map V.int) (fun i H' => H' = upd H1 D (.lst (List.replicate i (V.bl true)))) rfl (fun i H' _ e => by rw [e]; exact SqT.of (by rw [upd_ne nbD]; exact hb)) ?_ ?_
      · rintro j x H' hx rfl
        obtain ⟨p, hp', rfl⟩ := get_int hx
        have hj : j < c.length := (List.getElem?_eq_some_iff.1 hp').1
        have ip := (inn p (List.mem_of_getElem? hp')).1
        refine ⟨rfl, _, rfl, _, rfl, _, _, rfl, rfl, p, 0, _, rfl, ip.1, ?_, ?_⟩
        · have := ip.2
          rw [hl]
          omega
        · refine ⟨_, upd_same, by rw [List.length_replicate]; exact lt64 (by omega), ?_⟩
          show upd (upd H1 D _) D _ = _
          rw [upd_upd, List.replicate_succ']
      · rintro H' rfl
        refine ⟨D, List.replicate c.length true, rfl, SqL.of (by rw [upd_same, map_true, lenI]), _, rfl, iteC (by rw [all_true]; rfl) ?_⟩
        have s2 : Same H (upd H1 D (.lst (List.replicate (c.map V.int).length (V.bl true)))) := smNew s1 hD
        have hb2 : upd H1 D (.lst (List.replicate (c.map V.int).length (V.bl true))) b = some (.tup (c.map V.int)) := by rw [upd_ne nbD]; exact hb
        generalize upd H1 D (.lst (List.replicate (c.map V.int).length (V.bl true))) = H2 at s2 hb2
        refine ⟨_, rfl, b, _, rfl, .inr (SqT.of hb2), fun l hl' => ?_⟩
        have nbl : b ≠ l := ne_of_none hb2 hl'
        have s3 : Same H (upd H2 l (.lst (c.map V.int))) := smNew s2 hl'
        refine ⟨_, rfl, b, c, rfl, .inr (by rw [upd_ne nbl]; exact hb2), by omega, fun p ks hp' nd mem le => ?_⟩
        refine ⟨p, _, _, rfl, upd_same, by omega, fun ns q asc2 mem' _ hq => ?_⟩
        have e : ns = c := asc_ext asc2 asc fun k => by
          rw [mem' k]
          simp
        subst e
        have npl : l ≠ p := ne_of_none (H := upd H2 l (.lst (ns.map V.int))) upd_same hp'
        have nql : l ≠ q := by
          rintro rfl
          rw [upd_ne npl, upd_same] at hq
          cases hq
        have nbp : b ≠ p := by
          rintro rfl
          rw [upd_ne nbl, hb2] at hp'
          cases hp'
        have nbq : b ≠ q := by
          rintro rfl
          rw [upd_ne nbp, upd_ne nbl, hb2] at hq
          cases hq
        refine ⟨.list (ns.map .int), .list (ns.map .int), .lst (SqL.of (by rw [upd_ne nql, upd_ne npl, upd_same])) (dpInts _), .lst (SqL.of upd_same) (dpInts _), shapedInts _, shapedInts _, _, rfl, iteC (by rw [bne_list]; simp) ?_⟩
        refine ⟨_, rfl, _, rfl, b, _, rfl, .inr (SqT.of (by rw [upd_ne nbq, upd_ne nbp, upd_ne nbl]; exact hb2)), rfl, flat_ints _, _, rfl, iteC ?_ ?_⟩
        · show inV (.int (i : Nat)) (ns.map V.int) = false
          rw [inV_ints]
          exact decide_eq_false fun h => (inn _ h).2 rfl
        · exact ⟨⟨_, _, rfl⟩, smNew (smNew s3 hp') hq⟩
    · rintro σ H0 ⟨⟨o2, o3, rfl⟩, s0⟩
      refine ⟨_, rfl, a, vs, rfl, s0 _ _ ha, for_it walk_enumT (fun i σ H' => (∃ o2 o3, σ = [some (.ref a), some (.int ((vs.length : Nat) : Int)), o2, o3, none]) ∧ Same H H') ⟨⟨_, _, rfl⟩, s0⟩ (fun i σ H' _ ⟨_, s1⟩ => s1 _ _ ha) ?_ (fun σ H' ⟨_, s1⟩ => k _ s1)⟩
      rintro i x σ H0 H' hi ⟨⟨o2, o3, rfl⟩, s0⟩ ⟨Tt, xi, fr, rfl, hT, rfl, e1, e2⟩
      cases e1
      have ii : InW W (i : Int) := ⟨by omega, by omega⟩
      obtain ⟨b, hb1, hb2⟩ := wa_at hp ii
      have e3 : fr = .ref b := by
        have : ((i : Nat) : Int).toNat = i := by omega
        rw [this] at hb1
        exact Option.some.inj (e2.symm.trans hb1)
      subst e3
      have s1 : Same H (upd H0 Tt (.tup [.int (i : Nat), .ref b])) := smNew s0 hT
      refine ⟨Tt, _, rfl, SqT.of upd_same, rfl, _, _, rfl, _, _, rfl, rfl, ?_⟩
      generalize upd H0 Tt (.tup [.int (i : Nat), .ref b]) = H1 at s1
      clear hT s0 e2
      have hb := s1 _ _ hb2
      have hal := adj_len ok ii
      refine ⟨_, rfl, b, rfl, ⟨_, SqT.of hb⟩, fun D hD => ?_⟩
      have nbD : b ≠ D := ne_of_none hb hD
      have naD : a ≠ D := ne_of_none (s1 _ _ ha) hD
      refine lc_tup (K := K) (a := b) (xs := (adj W (i : Int)).map V.int) (fun i H' => H' = upd H1 D (.lst (List.replicate i (V.bl false)))) rfl (fun i H' _ e => by rw [e]; exact SqT.of (by rw [upd_ne nbD]; exact hb)) ?_ ?_
      · rintro j x H' hx rfl
        obtain ⟨p, hp', rfl⟩ := get_int hx
        have hj : j < (adj W (i : Int)).length := (List.getElem?_eq_some_iff.1 hp').1
        have mp := List.mem_of_getElem? hp'
        have ip := (ok.inn _ ii p mp).1
        obtain ⟨c, hc1, hc2⟩ := wa_at hp ip
        have hc3 := s1 _ _ hc2
        have ncD : c ≠ D := ne_of_none hc3 hD
        refine ⟨rfl, _, rfl, _, rfl, _, rfl, a, vs, p, _, rfl, rfl, SqT.of (by rw [upd_ne naD]; exact s1 _ _ ha), atI_int ip.1 hc1, c, _, rfl, .inr (SqT.of (by rw [upd_ne ncD]; exact hc3)), rfl, flat_ints _, _, upd_same, by rw [List.length_replicate]; exact lt64 (by omega), ?_⟩
        show upd (upd H1 D _) D (.lst (List.replicate j (V.bl false) ++ [.bl (!inV (.int (i : Nat)) ((adj W p).map V.int))])) = _
        rw [upd_upd, List.replicate_succ', inV_ints, decide_eq_true (ok.sym _ ii p mp)]
        rfl
      · rintro H' rfl
        have e0 : ∀ n, (List.replicate n false).any id = false := by
          intro n
          rw [List.any_replicate]
          cases n <;> rfl
        refine ⟨D, List.replicate (adj W (i : Int)).length false, rfl, SqL.of (by rw [upd_same, List.map_replicate, lenI]), _, rfl, iteC (e0 _) ?_⟩
        exact ⟨⟨_, _, rfl⟩, smNew s1 hD⟩
end
end K75
namespace K75
open PySem L2
section
variable {P : Program} {w : World} {K : PySem.W.Frag} {mg : Str → Option Value} {base : Heap} {f : Addr} {fd : FuncData}
/-- xs.append(e), xs.pop(), xs.extend(ys): short words -/
theorem pe_app {X : Cx} {o e : Expr} {es : List Expr} {to : TE} {t : TA} {apos cpos : Pos} (K : PySem.W.Frag) (ho : PE X o to) (ha : PA X (e :: es) t) (hK : X.K = K := by rfl)
    (hbase : attributeBase o "append" X.env (eval o X.env) = eval o X.env := by rfl) (hfew : ((backTo cpos (starEach (e :: es) X.env)).all (fun x => !x.1) && (backToKw cpos (keywordEach [] X.env)).all (fun x => x.1.isSome)
      && decide ((e :: es).length + ([] : List Keyword).length + (if ([] : List Keyword).isEmpty then 0 else 1) < 30)) = true := by rfl)
    (hline : (apos.endLine == cpos.line) = true := by rfl) (hs : starEach (e :: es) X.env = (false, eval e X.env) :: starEach es X.env := by rfl) (hplain : (backTo cpos (starEach es X.env)).any (·.1) = false := by rfl) :
    PE X (.Call (.Attribute o "append" apos) (e :: es) [] cpos) (tBM K "list" rAppend to t) := by
  subst hK
  exact pe_bm PySem.F.plainAttrs_list PySem.F.slot_list_append PySem.F.type_list_append mt_append ho ha hbase hfew hline hs hplain
/-! ### chain_ends -/
def spEnds : Sp := fun vs H Q _ => ∃ (v u : V) (W : Web) (c : List Int) (p : Int), vs = [v, u, .int p] ∧ WA H v W ∧ Ok W ∧ IL H u c ∧ InW W p ∧
  ∀ (l : Addr) (H' : Hp) (F : List Int), Same H H' → H l = none → H' l = some (.lst (F.map V.int)) → F.Nodup → (∀ x, x ∈ F ↔ RC W c p x) → Q (.ref l) H'
abbrev N21 : List Str := ["web", "called", "person", "found", "last", "here", "other"]
theorem sc21 : FnScope N21 ["web", "called", "person"] (defScope (top 21)) := ⟨rfl, rfl, rfl, by decide +kernel, rfl, by decide +kernel, by decide +kernel⟩
abbrev qC (c : List Int) : Int → Bool := fun x => decide (x ∈ c)
theorem fold_more {p q : Int → Bool} {ys : List Int} {i : Nat} {y : Int} (h : ys[i]? = some y) (s : List Int × List Int) : (ys.take (i + 1)).foldl (push p q) s = push p q ((ys.take i).foldl (push p q) s) y := by
  rw [take_more h, List.foldl_append]
  rfl
theorem drop_last (L : List Int) (t : Int) : ((L ++ [t]).map V.int).dropLast = L.map V.int := by
  rw [List.map_append]
  exact List.dropLast_concat
theorem get_last (L : List Int) (t : Int) : ((L ++ [t]).map V.int)[((L ++ [t]).map V.int).length - 1]? = some (.int t) := by
  rw [List.map_append]
  simp
theorem snoc_of {L : List Int} (h : L ≠ []) : ∃ L' t, L = L' ++ [t] := ⟨L.dropLast, L.getLast h, (List.dropLast_concat_getLast h).symm⟩
theorem ok_chain_ends (F : Fun K "chain_ends" "chain_ends" (top 21) f fd) (T : Bt mg) : FnOk P w K mg base CX0 1 f fd ["web", "called", "person"] spEnds := by
  refine F.ok sc21 (fun vs H Q E h => ?_) (fun cdv A outer s H vs Q E hr h => ?_)
  · obtain ⟨v, u, W, c, p, rfl, _⟩ := h; rfl
  · obtain ⟨v, u, W, c, p, rfl, ⟨a, vs, rfl, ha, hp⟩, ok, ⟨b, rfl, hb⟩, ip, k⟩ := h
    have h8 := ok.hi
    refine ⟨_, pss_cons (ps_par (i := 3) (j := 4) rfl sc21.nd rfl rfl (by decide) rfl rfl (pa_cons (pe_lst (pa_cons (pv 2) pa_nil)) (pa_cons (pe_lst (pa_cons (pv 2) pa_nil)) pa_nil)) (by rfl))
      (pss_cons (ps_while PassesOwn.never (pt_cmpR (op_neD hr.units) (pv 4) (pe_lst pa_nil) (nomark _))
        (pss_cons (ps_set (i := 5) sc21.nd rfl (Or.inl rfl) (pe_bm0 PySem.F.plainAttrs_list PySem.F.slot_list_pop PySem.F.type_list_pop mt_pop (pv 4)))
        (pss_one (ps_for PassesOwn.never rfl (pi_tup (pe_ix ix_tup (pv 0) (pv 5) (fun _ _ => rfl))) (pg_name (i := 6) sc21.nd rfl (Or.inl rfl))
          (pss_one (ps_if (pt_cmpR op_notIn_seq (pv 6) (pv 3) (by rfl)) (pss_cons (ps_expr (pe_app K (pv 3) (pa_cons (pv 6) pa_nil)))
            (pss_one (ps_if (pt_cmpR op_in_seq (pv 6) (pv 1) (by rfl)) (pss_one (ps_expr (pe_app K (pv 4) (pa_cons (pv 6) pa_nil)))) pss_nil))) pss_nil))))))
      (pss_one (ps_ret (pv 3)))), ?_⟩
    refine ⟨_, rfl, (by show 1 ≤ sizeLine; decide), fun l1 h1 => ⟨_, rfl, (by show 1 ≤ sizeLine; decide), fun l2 h2 => ⟨_, _, rfl, ?_⟩⟩⟩
    have n12 : l1 ≠ l2 := ne_of_none (H := upd H l1 (.lst [.int p])) upd_same h2
    have s1 : Same H (upd H l1 (.lst [.int p])) := smNew (Same.refl H) h1
    have z2 : H l2 = none := s1.free h2
    refine ⟨fun m σ H' => ∃ (F L : List Int) (o5 o6 : Option V), σ = [some (.ref a), some (.ref b), some (.int p), some (.ref l1), some (.ref l2), o5, o6] ∧ H' l1 = some (.lst (F.map V.int)) ∧ H' l2 = some (.lst (L.map V.int)) ∧ Same H H' ∧
      m = wmu W F L ∧ m ≤ 16 ∧ WI W (fun _ => true) (qC c) p (RC W c p) F L, ⟨_, [p], [p], none, none, rfl, by rw [upd_ne n12, upd_same]; rfl, upd_same, smUpd s1 z2, rfl, by unfold wmu; simp; omega, WI.start ip (.inl rfl)⟩, ?_⟩
    rintro m σ H' ⟨F, L, o5, o6, rfl, hF, hL, sm, rfl, hm, wi⟩
    refine ⟨_, rfl, Nat.zero_le _, fun l3 h3 => ?_⟩
    have n13 : l1 ≠ l3 := ne_of_none hF h3
    have n23 : l2 ≠ l3 := ne_of_none hL h3
    have sm3 : Same H (upd H' l3 (.lst [])) := smNew sm h3
    have hF3 : upd H' l3 (.lst []) l1 = some (.lst (F.map V.int)) := by rw [upd_ne n13]; exact hF
    have hL3 : upd H' l3 (.lst []) l2 = some (.lst (L.map V.int)) := by rw [upd_ne n23]; exact hL
    refine ⟨.list (L.map .int), .list [], .lst (SqL.of hL3) (dpInts _), .lst (SqL.of upd_same) .nil, shapedInts _, shapedInts [], _, rfl, ?_⟩
    have e := bne_list L []
    generalize upd H' l3 (.lst []) = H3 at sm3 hF3 hL3
    refine iteBC (fun hne => ?_) (fun hnil => ?_)
    · have hne : L ≠ [] := by
        rw [show PyData.eqv (.list (L.map .int)) (.list []) = decide (L = []) from e] at hne
        intro z
        rw [z] at hne
        cases hne
      obtain ⟨L', t, rfl⟩ := snoc_of hne
      obtain ⟨wi2, mu2⟩ := wi.turn ok fun x y hx _ hq hy _ => RC.step x y hx hq hy
      refine ⟨fun σ' H' => ∃ m', m' < wmu W F (L' ++ [t]) ∧ _, fun _ _ h => h, ?_⟩
      obtain ⟨tF, tq⟩ := wi.sub t (by simp)
      have it := wi.inw t tF
      refine ⟨_, rfl, .inl ⟨rfl, _, SqL.of hL3⟩, l2, _, _, rfl, rfl, hL3, get_last _ _, ?_⟩
      rw [drop_last]
      have sm4 : Same H (upd H3 l2 (.lst (L'.map V.int))) := smUpd sm3 z2
      have hF4 : upd H3 l2 (.lst (L'.map V.int)) l1 = some (.lst (F.map V.int)) := by rw [upd_ne n12]; exact hF3
      have hL4 : upd H3 l2 (.lst (L'.map V.int)) l2 = some (.lst (L'.map V.int)) := upd_same
      generalize upd H3 l2 (.lst (L'.map V.int)) = H4 at sm4 hF4 hL4
      obtain ⟨d, hd1, hd2⟩ := wa_at hp it
      have hd := sm4 _ _ hd2
      have lL : L'.length ≤ 16 := by
        unfold wmu at hm
        rw [List.length_append, List.length_singleton] at hm
        omega
      have bnd : ∀ j, ((adj W t).take j).foldl (push (fun _ => true) (qC c)) (F, L') = ((((adj W t).take j).foldl (push (fun _ => true) (qC c)) (F, L')).1, (((adj W t).take j).foldl (push (fun _ => true) (qC c)) (F, L')).2) ∧
          (((adj W t).take j).foldl (push (fun _ => true) (qC c)) (F, L')).1.length ≤ 8 ∧ (((adj W t).take j).foldl (push (fun _ => true) (qC c)) (F, L')).2.length ≤ 32 := by
        intro j
        have pf := push_fold (fun _ => true) (qC c) ((adj W t).take j) F L' wi.nd
        have l1 : (((adj W t).take j).foldl (push (fun _ => true) (qC c)) (F, L')).1.length ≤ W.length := nodup_len _ _ pf.nd fun x hx => by
          rcases pf.new x hx with z | z
          · exact wi.inw x z
          · exact (ok.inn _ it _ (List.mem_of_mem_take z.1)).1
        have := pf.len
        exact ⟨rfl, by omega, by omega⟩
      refine ⟨_, rfl, _, rfl, a, vs, t, _, rfl, rfl, SqT.of (sm4 _ _ ha), atI_int it.1 hd1, d, rfl, ⟨_, SqT.of hd⟩, ?_⟩
      refine for_tup (K := K) (a := d) (xs := (adj W t).map V.int) (fun j σ H' => ∃ (o6 : Option V) (s : List Int × List Int), s = ((adj W t).take j).foldl (push (fun _ => true) (qC c)) (F, L') ∧ σ = [some (.ref a), some (.ref b), some (.int p), some (.ref l1), some (.ref l2), some (.int t), o6] ∧
        H' l1 = some (.lst (s.1.map V.int)) ∧ H' l2 = some (.lst (s.2.map V.int)) ∧ Same H H') ⟨_, _, rfl, rfl, hF4, hL4, sm4⟩ (fun j σ H' _ ⟨_, _, _, _, _, _, sm⟩ => SqT.of (sm _ _ hd2)) ?_ ?_
      · rintro j x σ H' hx ⟨o6, s, es, rfl, hFs, hLs, sms⟩
        obtain ⟨y, hy, rfl⟩ := get_int hx
        have b1 := bnd j
        rw [← es] at b1
        have nxt := fold_more (p := fun _ => true) (q := qC c) hy (F, L')
        rw [← es] at nxt
        refine ⟨_, rfl, _, rfl, l1, _, rfl, .inl (SqL.of hFs), rfl, flat_ints _, _, rfl, ?_⟩
        refine iteBC (fun hn => ?_) (fun hn => ?_)
        · have hn : y ∉ s.1 := by
            have q : (!inV (.int y) (s.1.map V.int)) = true := hn
            rw [inV_ints] at q
            simpa using q
          refine ⟨_, rfl, .inl ⟨rfl, _, SqL.of hFs⟩, _, rfl, l1, _, _, rfl, rfl, hFs, by rw [lenI]; exact lt64 (by omega), ?_⟩
          have hb' : upd H' l1 (.lst (s.1.map V.int ++ [.int y])) b = some (.tup (c.map V.int)) := by
            rw [upd_ne (ne_of (sms _ _ hb) hFs (fun z => nomatch z))]
            exact sms _ _ hb
          refine ⟨_, rfl, _, rfl, b, _, rfl, .inr (SqT.of hb'), rfl, flat_ints _, _, rfl, ?_⟩
          have hF5 : upd H' l1 (.lst (s.1.map V.int ++ [.int y])) l1 = some (.lst ((s.1 ++ [y]).map V.int)) := by
            rw [upd_same, List.map_append]
            rfl
          have hL5 : upd H' l1 (.lst (s.1.map V.int ++ [.int y])) l2 = some (.lst (s.2.map V.int)) := by
            rw [upd_ne n12.symm]
            exact hLs
          have sm5 : Same H (upd H' l1 (.lst (s.1.map V.int ++ [.int y]))) := smUpd sms h1
          generalize upd H' l1 (.lst (s.1.map V.int ++ [.int y])) = H5 at hF5 hL5 sm5
          refine iteBC (fun hc => ?_) (fun hc => ?_)
          · have hc : y ∈ c := by
              have q : inV (.int y) (c.map V.int) = true := hc
              rw [inV_ints] at q
              simpa using q
            refine ⟨_, rfl, .inl ⟨rfl, _, SqL.of hL5⟩, _, rfl, l2, _, _, rfl, rfl, hL5, by rw [lenI]; exact lt64 (by omega), ?_⟩
            have e : push (fun _ => true) (qC c) s y = (s.1 ++ [y], s.2 ++ [y]) := by
              unfold push
              simp [hn, hc, qC]
            refine ⟨_, (s.1 ++ [y], s.2 ++ [y]), by rw [nxt, e], rfl, by rw [upd_ne n12]; exact hF5, ?_, smUpd sm5 z2⟩
            rw [upd_same, List.map_append]
            rfl
          · have hc : y ∉ c := by
              have q : inV (.int y) (c.map V.int) = false := hc
              rw [inV_ints] at q
              simpa using q
            have e : push (fun _ => true) (qC c) s y = (s.1 ++ [y], s.2) := by
              unfold push
              simp [hn, hc, qC]
            exact ⟨_, (s.1 ++ [y], s.2), by rw [nxt, e], rfl, hF5, hL5, sm5⟩
        · have hn : y ∈ s.1 := by
            have q : (!inV (.int y) (s.1.map V.int)) = false := hn
            rw [inV_ints] at q
            simpa using q
          have e : push (fun _ => true) (qC c) s y = s := by
            unfold push
            simp [hn]
          exact ⟨_, s, by rw [nxt, e], rfl, hFs, hLs, sms⟩
      · rintro σ H' ⟨o6, s, es, rfl, hFs, hLs, sms⟩
        rw [lenI, List.take_length] at es
        subst es
        exact ⟨_, mu2, _, _, _, _, rfl, hFs, hLs, sms, rfl, by omega, wi2⟩
    · have hnil : L = [] := by
        rw [show PyData.eqv (.list (L.map .int)) (.list []) = decide (L = []) from e] at hnil
        simpa using hnil
      subst hnil
      exact ⟨_, rfl, k l1 _ F sm3 h1 hF3 wi.nd fun x => ends_all wi x⟩
end
end K75
namespace K75
open PySem L2
/-! ### what two appends a pair leave -/
def conE (i : Int) (e : Int × Int) : List Int := (if e.1 = i then [e.2] else []) ++ (if e.2 = i then [e.1] else [])
def con (i : Int) (ps : List (Int × Int)) : List Int := ps.flatMap (conE i)
theorem mem_con {i x : Int} {ps : List (Int × Int)} : x ∈ con i ps ↔ (i, x) ∈ ps ∨ (x, i) ∈ ps := by
  unfold con
  rw [List.mem_flatMap]
  constructor
  · rintro ⟨⟨p, q⟩, he, hx⟩
    unfold conE at hx
    rcases List.mem_append.1 hx with hx | hx
    · split at hx
      · rename_i e
        have : x = q := by simpa using hx
        subst this
        simp only at e
        subst e
        exact .inl he
      · cases hx
    · split at hx
      · rename_i e
        have : x = p := by simpa using hx
        subst this
        simp only at e
        subst e
        exact .inr he
      · cases hx
  · rintro (h | h)
    · exact ⟨_, h, List.mem_append_left _ (by simp)⟩
    · exact ⟨_, h, List.mem_append_right _ (by simp)⟩
theorem con_len {i : Int} : ∀ {ps : List (Int × Int)}, (∀ e ∈ ps, e.1 ≠ e.2) → (con i ps).length ≤ ps.length
  | [], _ => Nat.le_refl _
  | e :: ps, h => by
    have ih := con_len (i := i) fun x hx => h x (List.mem_cons_of_mem e hx)
    have : con i (e :: ps) = conE i e ++ con i ps := rfl
    rw [this, List.length_append, List.length_cons]
    have hne := h e List.mem_cons_self
    have : (conE i e).length ≤ 1 := by
      unfold conE
      by_cases h1 : e.1 = i
      · have h2 : ¬ e.2 = i := fun q => hne (h1.trans q.symm)
        simp [h1, h2]
      · simp only [h1, if_false, List.nil_append]
        split <;> simp
    omega
theorem con_more {i : Int} {ps : List (Int × Int)} {k : Nat} {e : Int × Int} (h : ps[k]? = some e) : con i (ps.take (k + 1)) = con i (ps.take k) ++ conE i e := by
  unfold con
  rw [take_more h, List.flatMap_append]
  simp
theorem con_take {i : Int} {ps : List (Int × Int)} (h : ∀ e ∈ ps, e.1 ≠ e.2) (k : Nat) : (con i (ps.take k)).length ≤ ps.length := by
  have := con_len (i := i) (ps := ps.take k) fun e he => h e (List.mem_of_mem_take he)
  rw [List.length_take] at this
  omega
/-- the rows of lists: the list at D, the lists at qs -/
structure RowsAt (H0 H' : Hp) (D : Addr) (qs : List Addr) (g : Nat → List Int) : Prop where
  hD : H' D = some (.lst (qs.map V.ref))
  d0 : H0 D = none
  nd : qs.Nodup
  nD : D ∉ qs
  at_ : ∀ i q, qs[i]? = some q → H' q = some (.lst ((g i).map V.int)) ∧ H0 q = none
  same : Same H0 H'
theorem nodup_at {l : List Addr} (h : l.Nodup) {i j : Nat} {x : Addr} (a : l[i]? = some x) (b : l[j]? = some x) : i = j := by
  obtain ⟨h1, e1⟩ := List.getElem?_eq_some_iff.1 a
  obtain ⟨h2, e2⟩ := List.getElem?_eq_some_iff.1 b
  exact (List.getElem_inj h).1 (e1.trans e2.symm)
theorem RowsAt.put {H0 H' : Hp} {D : Addr} {qs : List Addr} {g g' : Nat → List Int} (r : RowsAt H0 H' D qs g) {i : Nat} {q : Addr} (hq : qs[i]? = some q) (h1 : ∀ j, j ≠ i → g' j = g j) {l : List V} (hl : l = (g' i).map V.int) : RowsAt H0 (upd H' q (.lst l)) D qs g' := by
  have mq := List.mem_of_getElem? hq
  have nDq : D ≠ q := fun e => r.nD (e ▸ mq)
  refine ⟨by rw [upd_ne nDq]; exact r.hD, r.d0, r.nd, r.nD, fun j p hp => ?_, smUpd r.same (r.at_ i q hq).2⟩
  by_cases e : j = i
  · subst e
    have : p = q := by rw [hq] at hp; exact (Option.some.inj hp).symm
    subst this
    exact ⟨by rw [upd_same, hl], (r.at_ _ _ hq).2⟩
  · have : p ≠ q := fun z => e (nodup_at r.nd (z ▸ hp) hq)
    rw [upd_ne this, h1 j e]
    exact r.at_ j p hp
theorem RowsAt.more {H0 H' H2 : Hp} {D : Addr} {qs : List Addr} {g : Nat → List Int} (r : RowsAt H0 H' D qs g) (s : Same H' H2) : RowsAt H0 H2 D qs g :=
  ⟨s _ _ r.hD, r.d0, r.nd, r.nD, fun i q h => ⟨s _ _ (r.at_ i q h).1, (r.at_ i q h).2⟩, r.same.trans s⟩
theorem adj_app (T : Web) (r : List Int) (x : Int) (h0 : 0 ≤ x) (h : x < (T.length : Int)) : adj (T ++ [r]) x = adj T x := by
  unfold adj
  rw [List.getD_eq_getElem?_getD, List.getD_eq_getElem?_getD, List.getElem?_append_left (by omega)]
theorem adj_end (T : Web) (r : List Int) (x : Int) (h0 : 0 ≤ x) (h : x = (T.length : Int)) : adj (T ++ [r]) x = r := by
  unfold adj
  have : x.toNat = T.length := by omega
  rw [this, List.getD_eq_getElem?_getD, List.getElem?_append_right (Nat.le_refl _)]
  simp
theorem getRef {qs : List Addr} {i : Nat} {x : V} (h : (qs.map V.ref)[i]? = some x) : ∃ q, qs[i]? = some q ∧ x = .ref q := by
  rw [List.getElem?_map] at h
  cases e : qs[i]? with
  | none => rw [e] at h; cases h
  | some k => rw [e] at h; exact ⟨k, rfl, (Option.some.inj h).symm⟩
theorem toRef {qs : List Addr} {i : Nat} {q : Addr} (h : qs[i]? = some q) : (qs.map V.ref)[i]? = some (.ref q) := by
  rw [List.getElem?_map, h]
  rfl
/-- the web of some pairs -/
structure WebOf (m : Nat) (ps : List (Int × Int)) (T : Web) : Prop where
  len : T.length = m
  asc : ∀ p, 0 ≤ p → p < (m : Int) → (adj T p).Pairwise (· < ·)
  mem : ∀ p, 0 ≤ p → p < (m : Int) → ∀ x, x ∈ adj T p ↔ (p, x) ∈ ps ∨ (x, p) ∈ ps
def pairL (e : Int × Int) : List Int := [e.1, e.2]
section
variable {P : Program} {w : World} {K : PySem.W.Frag} {mg : Str → Option Value} {base : Heap} {f : Addr} {fd : FuncData}
/-! ### web_by -/
def spWebBy : Sp := fun vs H Q _ => ∃ (m : Nat) (l : Addr) (vp : List V) (ps : List (Int × Int)), vs = [.int (m : Nat), .ref l] ∧ m ≤ 8 ∧ H l = some (.lst vp) ∧ Paired (IL H) vp (ps.map pairL) ∧ ps.length ≤ 60 ∧
  (∀ e ∈ ps, e.1 ≠ e.2 ∧ 0 ≤ e.1 ∧ e.1 < (m : Int) ∧ 0 ≤ e.2 ∧ e.2 < (m : Int)) ∧ ∀ (v : V) (H' : Hp) (T : Web), Same H H' → WA H' v T → WebOf m ps T → Q v H'
abbrev N16 : List Str := ["people", "some", "found", "one", "other", "person", "row"]
theorem sc16 : FnScope N16 ["people", "some"] (defScope (top 16)) := ⟨rfl, rfl, rfl, by decide +kernel, rfl, by decide +kernel, by decide +kernel⟩
theorem ok_web_by (F : Fun K "web_by" "web_by" (top 16) f fd) (T : Bt mg) : FnOk P w K mg base CX0 1 f fd ["people", "some"] spWebBy := by
  refine F.ok sc16 (fun vs H Q E h => ?_) (fun cdv A outer s H vs Q E hr h => ?_)
  · obtain ⟨m, l, vp, ps, rfl, _⟩ := h; rfl
  · obtain ⟨m, l, vp, ps, rfl, h8, hl, hp, h60, hr2, k⟩ := h
    have hne : ∀ e ∈ ps, e.1 ≠ e.2 := fun e he => (hr2 e he).1
    refine ⟨_, pss_cons (ps_setLc (i := 2) (own := [("person", 5)]) (g := gName 5) (tt := tYes) rfl sc16.nd rfl rfl (sw_true rfl rfl rfl (by decide +kernel)) (pi_range1 (by rfl) T.range (pa_cons (pv 0) pa_nil)) (blkOk_by (N := N16) (sc := defScope (top 16)) (by decide +kernel))
        (fun _ _ _ _ _ => pg_name (i := 5) sc16.nd rfl (Or.inl rfl)) (fun _ _ _ _ _ => pts_nil) (fun _ _ _ _ _ => pe_lst pa_nil))
      (pss_cons (ps_for PassesOwn.never rfl (pi_list (pv 1)) (pg_tup rfl (pgs_cons (pg_name (i := 3) sc16.nd rfl (Or.inl rfl)) (pgs_cons (pg_name (i := 4) sc16.nd rfl (Or.inl rfl)) pgs_nil)))
        (pss_cons (ps_expr (pe_app K (pe_ix ix_list (pv 2) (pv 3) (fun _ _ => rfl)) (pa_cons (pv 4) pa_nil))) (pss_one (ps_expr (pe_app K (pe_ix ix_list (pv 2) (pv 4) (fun _ _ => rfl)) (pa_cons (pv 3) pa_nil))))))
      (pss_one (ps_ret (pe_callTy call_tuple_of (by rfl) T.tuple (by decide +kernel) (pa_cons
        (pe_lc (own := [("row", 6)]) (g := gName 6) (tt := tYes) rfl sc16.nd (pi_list (pv 2)) (blkOk_by (N := N16) (sc := defScope (top 16)) (by decide +kernel)) (fun _ _ _ _ _ => pg_name (i := 6) sc16.nd rfl (Or.inl rfl)) (fun _ _ _ _ _ => pts_nil)
          (fun _ _ _ _ _ => pe_callTy (callTupL K) (by rfl) T.tuple (by decide +kernel) (pa_cons (pe_callB (crSortSetW w rfl) (by rfl) T.sorted (by decide +kernel) (pa_cons (pe_callTy (crSetW w rfl) (by rfl) T.set (by decide +kernel) (pa_cons (pv 6) pa_nil)) pa_nil)) pa_nil))) pa_nil))))), ?_⟩
    refine ⟨_, rfl, _, rfl, by omega, by omega, fun D hD => ?_⟩
    have tn : ((m : Int)).toNat = m := by omega
    rw [tn]
    refine loop_it walk_range (fun i H' => ∃ qs : List Addr, qs.length = i ∧ RowsAt H H' D qs (fun _ => [])) ⟨[], rfl, upd_same, hD, by simp, by simp, fun i q h => by simp at h, smNew (Same.refl H) hD⟩ (fun _ _ _ _ => trivial) ?_ ?_
    · rintro i x H1 H2 hi ⟨qs, hq, r⟩ ⟨rfl, rfl⟩
      refine ⟨rfl, Nat.zero_le _, fun q hq' => ⟨qs.map V.ref, ?_, ?_, qs ++ [q], ?_, ?_⟩⟩
      · rw [upd_ne (ne_of_none r.hD hq')]
        exact r.hD
      · rw [List.length_map]
        exact lt64 (by omega)
      · rw [List.length_append, List.length_singleton, hq]
      · have nDq : D ≠ q := ne_of_none r.hD hq'
        have nq : q ∉ qs := fun z => by
          obtain ⟨j, hj⟩ := List.mem_iff_getElem?.1 z
          rw [(r.at_ j q hj).1] at hq'
          cases hq'
        have z0 : H q = none := r.same.free hq'
        refine ⟨by rw [upd_same, List.map_append]; rfl, hD, ?_, ?_, fun j p hp => ?_, smUpd (smUpd r.same z0) hD⟩
        · rw [List.nodup_append]
          exact ⟨r.nd, by simp, fun a ha b hb => by
            have : b = q := by simpa using hb
            subst this
            exact fun e => nq (e ▸ ha)⟩
        · simp [r.nD, nDq]
        · by_cases hj : j < qs.length
          · rw [List.getElem?_append_left hj] at hp
            have nDp : p ≠ D := fun e => r.nD (e ▸ List.mem_of_getElem? hp)
            have npq : p ≠ q := fun e => nq (e ▸ List.mem_of_getElem? hp)
            rw [upd_ne nDp, upd_ne npq]
            exact r.at_ j p hp
          · rw [List.getElem?_append_right (by omega)] at hp
            have : p = q := by
              by_cases h0 : j - qs.length = 0
              · rw [h0] at hp
                exact (Option.some.inj hp).symm
              · have := List.getElem?_eq_none (l := [q]) (i := j - qs.length) (by simp; omega)
                rw [this] at hp
                cases hp
            subst this
            rw [upd_ne nDq.symm, upd_same]
            exact ⟨rfl, z0⟩
    · rintro H1 ⟨qs, hqs, r⟩
      refine ⟨_, rfl, l, rfl, ⟨_, SqL.of (r.same _ _ hl)⟩, ?_⟩
      refine for_list (K := K) (a := l) (xs := vp) (fun k σ H' => ∃ (o3 o4 : Option V), σ = [some (.int (m : Nat)), some (.ref l), some (.ref D), o3, o4, none, none] ∧ RowsAt H H' D qs (fun i => con (i : Int) (ps.take k))) ⟨_, _, rfl, r⟩ (fun k σ H' _ ⟨_, _, _, r⟩ => SqL.of (r.same _ _ hl)) ?_ ?_
      · rintro k0 x σ H2 hx ⟨o3, o4, rfl, r⟩
        obtain ⟨y, hy, hil⟩ := paired_at hp k0 x hx
        rw [List.getElem?_map] at hy
        cases he : ps[k0]? with
        | none => rw [he] at hy; cases hy
        | some e =>
          rw [he] at hy
          have hy : pairL e = y := Option.some.inj hy
          subst hy
          obtain ⟨t, rfl, ht⟩ := hil
          obtain ⟨e1, e2⟩ := e
          obtain ⟨n12, a0, a1, b0, b1⟩ := hr2 _ (List.mem_of_getElem? he)
          have ht' := r.same _ _ ht
          refine ⟨t, _, rfl, SqT.of ht', rfl, _, _, rfl, _, _, rfl, rfl, ?_⟩
          have l1 : e1.toNat < qs.length := by omega
          have l2 : e2.toNat < qs.length := by omega
          obtain ⟨q1, hq1⟩ : ∃ q, qs[e1.toNat]? = some q := ⟨_, List.getElem?_eq_getElem l1⟩
          obtain ⟨q2, hq2⟩ : ∃ q, qs[e2.toNat]? = some q := ⟨_, List.getElem?_eq_getElem l2⟩
          have c1 := (r.at_ _ _ hq1).1
          refine ⟨_, rfl, _, rfl, D, _, e1, _, rfl, rfl, SqL.of r.hD, atI_int a0 (toRef hq1), .inl ⟨rfl, _, SqL.of c1⟩, _, rfl, q1, _, _, rfl, rfl, c1, ?_, ?_⟩
          · rw [lenI]
            exact lt64 (Nat.le_trans (con_take hne k0) (by omega))
          have r2 : RowsAt H (upd H2 q1 (.lst ((con ((e1.toNat : Nat) : Int) (ps.take k0)).map V.int ++ [.int e2]))) D qs (fun i => if i = e1.toNat then con (i : Int) (ps.take k0) ++ [e2] else con (i : Int) (ps.take k0)) :=
            r.put hq1 (fun j hj => if_neg hj) (by
              show _ = (if e1.toNat = e1.toNat then _ else _ : List Int).map V.int
              rw [if_pos rfl, List.map_append]
              rfl)
          generalize upd H2 q1 (.lst ((con ((e1.toNat : Nat) : Int) (ps.take k0)).map V.int ++ [.int e2])) = H3 at r2
          have c2 := (r2.at_ _ _ hq2).1
          have ne2 : e2.toNat ≠ e1.toNat := by
            have : e1 ≠ e2 := n12
            omega
          rw [if_neg ne2] at c2
          refine ⟨_, rfl, _, rfl, D, _, e2, _, rfl, rfl, SqL.of r2.hD, atI_int b0 (toRef hq2), .inl ⟨rfl, _, SqL.of c2⟩, _, rfl, q2, _, _, rfl, rfl, c2, ?_, ?_⟩
          · rw [lenI]
            exact lt64 (Nat.le_trans (con_take hne k0) (by omega))
          refine ⟨_, _, rfl, r2.put hq2 (fun j hj => ?_) ?_⟩
          · rw [con_more he]
            by_cases hj1 : j = e1.toNat
            · subst hj1
              rw [if_pos rfl]
              have z1 : e1 = ((e1.toNat : Nat) : Int) := by omega
              have z2 : ¬ e2 = ((e1.toNat : Nat) : Int) := by omega
              unfold conE
              rw [if_pos z1, if_neg z2, List.append_nil]
            · rw [if_neg hj1]
              have z1 : ¬ e1 = ((j : Nat) : Int) := by omega
              have z2 : ¬ e2 = ((j : Nat) : Int) := by omega
              unfold conE
              rw [if_neg z1, if_neg z2]
              simp
          · rw [con_more he]
            have z1 : ¬ e1 = ((e2.toNat : Nat) : Int) := by omega
            have z2 : e2 = ((e2.toNat : Nat) : Int) := by omega
            unfold conE
            rw [if_neg z1, if_pos z2, List.nil_append, List.map_append]
            rfl
      · rintro σ H2 ⟨o3, o4, rfl, r⟩
        have hlen := Paired.length hp
        rw [List.length_map] at hlen
        rw [hlen, List.take_length] at r
        refine ⟨_, rfl, D, rfl, ⟨_, SqL.of r.hD⟩, fun D2 hD2 => ?_⟩
        have z2 : H D2 = none := r.same.free hD2
        refine loop_it (walk_list (xs := qs.map V.ref)) (fun i H' => ∃ (vt : List V) (T : Web), H' D2 = some (.lst vt) ∧ Paired (IL H') vt T ∧ WebOf i ps T ∧ RowsAt H H' D qs (fun i => con (i : Int) ps)) ⟨[], [], upd_same, .nil, ⟨rfl, fun p h0 h => by omega, fun p h0 h => by omega⟩, r.more (smNew (Same.refl _) hD2)⟩
          (fun i H' _ ⟨_, _, _, _, _, r⟩ => SqL.of r.hD) ?_ ?_
        · rintro i x H4 H3 hi ⟨vt, T, hv, hpt, wo, r3⟩ ⟨rfl, hx⟩
          obtain ⟨q, hq, rfl⟩ := getRef hx
          have c1 := (r3.at_ _ _ hq).1
          have lc : (con (i : Int) ps).length ≤ 60 := Nat.le_trans (con_len hne) h60
          have him : i < m := by
            rw [List.length_map] at hi
            omega
          refine ⟨rfl, _, rfl, q, _, rfl, .inl c1, by omega, fun p1 ks h1 nd mem le => ?_⟩
          refine ⟨p1, _, _, rfl, upd_same, by omega, fun ns p2 asc mem2 _ h2 => ?_⟩
          refine ⟨p2, _, rfl, .inl ⟨SqL.of upd_same, fun p3 h3 => ?_⟩⟩
          have n1 : D2 ≠ p1 := ne_of_none hv h1
          have n2 : D2 ≠ p2 := by
            rintro rfl
            rw [upd_ne n1, hv] at h2
            cases h2
          have n3 : D2 ≠ p3 := by
            rintro rfl
            rw [upd_ne n2, upd_ne n1, hv] at h3
            cases h3
          have sm : Same H3 (upd (upd (upd H3 p1 (SetO w p1 (fun j => decide (j ∈ con (i : Int) ps)) ks.length)) p2 (.lst (ns.map V.int))) p3 (.tup (ns.map V.int))) := smNew (smNew (smNew (Same.refl _) h1) h2) h3
          refine ⟨vt, by rw [upd_ne n3, upd_ne n2, upd_ne n1]; exact hv, ?_, vt ++ [.ref p3], T ++ [ns], upd_same, ?_, ?_, ?_⟩
          · have := Paired.length hpt
            have := wo.len
            exact lt64 (by omega)
          · have hD2' := sm _ _ hv
            refine paired_app (ilsTp ((sTp sm).trans (tpLst hD2')) hpt) (paired_one ⟨p3, rfl, ?_⟩)
            rw [upd_ne n3.symm]
            exact upd_same
          · have hT := wo.len
            refine ⟨by rw [List.length_append, List.length_singleton, hT], fun p h0 h => ?_, fun p h0 h y => ?_⟩
            · by_cases e : p < (T.length : Int)
              · rw [adj_app T ns p h0 e]
                exact wo.asc p h0 (by omega)
              · rw [adj_end T ns p h0 (by omega)]
                exact asc
            · by_cases e : p < (T.length : Int)
              · rw [adj_app T ns p h0 e]
                exact wo.mem p h0 (by omega) y
              · rw [adj_end T ns p h0 (by omega), mem2 y]
                have : p = (i : Int) := by omega
                subst this
                rw [decide_eq_true_eq]
                exact mem_con
          · have r4 := r3.more sm
            have nD : D ≠ D2 := by
              rintro rfl
              exact absurd (hD2.symm.trans r.hD) (by intro z; cases z)
            refine ⟨by rw [upd_ne nD]; exact r4.hD, r4.d0, r4.nd, r4.nD, fun j p hp' => ?_, smUpd r4.same z2⟩
            have nq : p ≠ D2 := by
              rintro rfl
              have := (r.at_ j p hp').1
              rw [this] at hD2
              cases hD2
            rw [upd_ne nq]
            exact r4.at_ j p hp'
        · rintro H3 ⟨vt, T, hv, hpt, wo, r3⟩
          rw [List.length_map, hqs] at wo
          refine ⟨D2, vt, rfl, .inl ⟨SqL.of hv, fun t ht => ?_⟩⟩
          exact k _ _ T (smNew r3.same ht) ⟨t, vt, rfl, upd_same, ilsTp (tpNew ht) hpt⟩ wo
end
end K75
namespace K75
open PySem L2
theorem told_of {W : Web} {c : List Int} {T : Web} {ps : List (Int × Int)} (ok : Ok W) (h : ∀ e : Int × Int, e ∈ ps ↔ (0 ≤ e.1 ∧ e.1 < (W.length : Int) ∧ e.1 < e.2 ∧ RC W c e.1 e.2)) (wo : WebOf W.length ps T) : Told W c T := by
  refine ⟨wo.len, fun p ip => wo.asc p ip.1 ip.2, fun p ip x => ?_⟩
  rw [wo.mem p ip.1 ip.2 x, h, h]
  simp only
  constructor
  · rintro (⟨_, _, lt, r⟩ | ⟨a, b, lt, r⟩)
    · refine ⟨by omega, ?_⟩
      rcases r with e | r
      · omega
      · exact r
    · refine ⟨by omega, ?_⟩
      rcases r with e | ⟨m, r⟩
      · omega
      · exact ⟨m, r.symm ok ⟨a, b⟩⟩
  · rintro ⟨ne, m, r⟩
    have ix := r.inw ok ip
    rcases Int.lt_or_gt_of_ne ne with l | l
    · exact .inr ⟨ix.1, ix.2, l, .inr ⟨m, r.symm ok ip⟩⟩
    · exact .inl ⟨ip.1, ip.2, l, .inr ⟨m, r⟩⟩
section
variable {P : Program} {w : World} {K : PySem.W.Frag} {mg : Str → Option Value} {base : Heap} {f : Addr} {fd : FuncData}
/-! ### idle_in -/
def spIdle : Sp := fun vs H Q _ => ∃ (v : V) (W : Web), vs = [v] ∧ WA H v W ∧ Ok W ∧ ∀ (l : Addr) (H' : Hp) (F : List Int), Same H H' → H l = none → H' l = some (.lst (F.map V.int)) → Full W W F → Q (.ref l) H'
abbrev N19 : List Str := ["web", "found", "person"]
theorem sc19 : FnScope N19 ["web"] (defScope (top 19)) := ⟨rfl, rfl, rfl, by decide +kernel, rfl, by decide +kernel, by decide +kernel⟩
theorem ok_idle_in (F : Fun K "idle_in" "idle_in" (top 19) f fd) (T : Bt mg) (CT : Cl P w K mg base 1 "is_table" ["web", "people"] spTable) : FnOk P w K mg base CX0 2 f fd ["web"] spIdle := by
  refine F.ok sc19 (fun vs H Q E h => ?_) (fun cdv A outer s H vs Q E hr h => ?_)
  · obtain ⟨v, W, rfl, _⟩ := h; rfl
  · obtain ⟨v, W, rfl, ⟨a, vs, rfl, ha, hp⟩, ok, k⟩ := h
    have h8 := ok.hi
    have hlen := WA.len hp
    refine ⟨_, pss_cons (ps_set (i := 1) sc19.nd rfl (Or.inl rfl) (pe_lst pa_nil))
      (pss_cons (ps_for PassesOwn.never rfl (pi_range1 (by rfl) T.range (pa_cons (pe_callB call_len_seq (by rfl) T.len PySem.boot_len (pa_cons (pv 0) pa_nil)) pa_nil)) (pg_name (i := 2) sc19.nd rfl (Or.inl rfl))
        (pss_one (ps_if (pt_val (pe_cl CT hr (pa_cons (pv 0) (pa_cons (pe_ix ix_tup (pv 0) (pv 2) (fun _ _ => rfl)) pa_nil)))) (pss_one (ps_expr (pe_app K (pv 1) (pa_cons (pv 2) pa_nil)))) pss_nil)))
      (pss_one (ps_ret (pv 1)))), ?_⟩
    refine ⟨Nat.zero_le _, fun l hl => ?_⟩
    have s1 : Same H (upd H l (.lst [])) := smNew (Same.refl H) hl
    refine ⟨_, rfl, a, _, rfl, .inr (SqT.of (s1 _ _ ha)), _, rfl, by omega, by omega, ?_⟩
    have tn : (((vs.length : Nat) : Int)).toNat = W.length := by omega
    rw [tn]
    refine for_range (lo := 0) (n := W.length) (fun i σ H' => ∃ (F : List Int) (o2 : Option V), σ = [some (.ref a), some (.ref l), o2] ∧ Same H H' ∧ H' l = some (.lst (F.map V.int)) ∧ F.Pairwise (· < ·) ∧ (∀ x, x ∈ F ↔ (InW W x ∧ x < (i : Int) ∧ Tab W (adj W x))) ∧ F.length ≤ i) ⟨[], _, rfl, s1, upd_same, .nil, fun x => ⟨fun z => (nomatch z), fun ⟨z, z2, _⟩ => by have := z.1; omega⟩, Nat.le_refl _⟩ ?_ ?_
    · rintro i σ H' hi ⟨F, o2, rfl, sm, hF, asc, mem, le⟩
      have ii : InW W (0 + (i : Int)) := ⟨by omega, by omega⟩
      obtain ⟨d, hd1, hd2⟩ := wa_at hp ii
      have ha' := sm _ _ ha
      refine ⟨_, rfl, _, rfl, _, rfl, a, vs, 0 + (i : Int), _, rfl, rfl, SqT.of ha', atI_int ii.1 hd1, _, _, W, _, rfl, ⟨a, vs, rfl, ha', ilsTp (sTp sm) hp⟩, ⟨d, rfl, sm _ _ hd2⟩, Nat.le_trans (adj_len ok ii) (by decide), fun x hx => (ok.inn _ ii x hx).1, fun b H2 s2 hb => ?_⟩
      have hF2 := s2 _ _ hF
      refine ⟨_, rfl, iteBC (fun hbt => ?_) (fun hbf => ?_)⟩
      · have tab := hb.1 hbt
        refine ⟨_, rfl, .inl ⟨rfl, _, SqL.of hF2⟩, _, rfl, l, _, _, rfl, rfl, hF2, by rw [lenI]; exact lt64 (by omega), F ++ [0 + (i : Int)], _, rfl, smUpd (sm.trans s2) hl, by rw [upd_same, List.map_append]; rfl, ?_, fun x => ?_, by rw [List.length_append, List.length_singleton]; omega⟩
        · rw [List.pairwise_append]
          refine ⟨asc, by simp, fun x hx y hy => ?_⟩
          have : y = 0 + (i : Int) := by simpa using hy
          have := ((mem x).1 hx).2.1
          omega
        · rw [List.mem_append, mem x]
          constructor
          · rintro (⟨q1, q2, q3⟩ | h)
            · exact ⟨q1, by omega, q3⟩
            · have : x = 0 + (i : Int) := by simpa using h
              subst this
              exact ⟨ii, by omega, tab⟩
          · rintro ⟨q1, q2, q3⟩
            by_cases e : x = 0 + (i : Int)
            · exact .inr (by simp [e])
            · exact .inl ⟨q1, by omega, q3⟩
      · have ntab : ¬ Tab W (adj W (0 + (i : Int))) := fun t => by
          rw [hb.2 t] at hbf
          cases hbf
        refine ⟨F, _, rfl, sm.trans s2, hF2, asc, fun x => ?_, by omega⟩
        rw [mem x]
        constructor
        · rintro ⟨q1, q2, q3⟩
          exact ⟨q1, by omega, q3⟩
        · rintro ⟨q1, q2, q3⟩
          refine ⟨q1, ?_, q3⟩
          have : x ≠ 0 + (i : Int) := fun e => ntab (e ▸ q3)
          omega
    · rintro σ H' ⟨F, o2, rfl, sm, hF, asc, mem, le⟩
      exact ⟨_, rfl, k l _ F sm hl hF ⟨asc, fun x => by rw [mem x]; exact ⟨fun z => ⟨z.1, z.2.2⟩, fun z => ⟨z.1, z.1.2, z.2⟩⟩⟩⟩
/-! ### told_in -/
def spToldIn : Sp := fun vs H Q _ => ∃ (v u : V) (W : Web) (c : List Int), vs = [v, u] ∧ WA H v W ∧ Ok W ∧ IL H u c ∧ ∀ (x : V) (H' : Hp) (T : Web), Same H H' → WA H' x T → Told W c T → Q x H'
abbrev N22 : List Str := ["web", "called", "found", "person", "other"]
theorem sc22 : FnScope N22 ["web", "called"] (defScope (top 22)) := ⟨rfl, rfl, rfl, by decide +kernel, rfl, by decide +kernel, by decide +kernel⟩
theorem ok_told_in (F : Fun K "told_in" "told_in" (top 22) f fd) (T : Bt mg) (CE : Cl P w K mg base 1 "chain_ends" ["web", "called", "person"] spEnds) (CW : Cl P w K mg base 1 "web_by" ["people", "some"] spWebBy) : FnOk P w K mg base CX0 2 f fd ["web", "called"] spToldIn := by
  refine F.ok sc22 (fun vs H Q E h => ?_) (fun cdv A outer s H vs Q E hr h => ?_)
  · obtain ⟨v, u, W, c, rfl, _⟩ := h; rfl
  · obtain ⟨v, u, W, c, rfl, ⟨a, vs, rfl, ha, hp⟩, ok, ⟨b, rfl, hb⟩, k⟩ := h
    have h8 := ok.hi
    have hlen := WA.len hp
    refine ⟨_, pss_cons (ps_set (i := 2) sc22.nd rfl (Or.inl rfl) (pe_lst pa_nil))
      (pss_cons (ps_for PassesOwn.never rfl (pi_range1 (by rfl) T.range (pa_cons (pe_callB call_len_seq (by rfl) T.len PySem.boot_len (pa_cons (pv 0) pa_nil)) pa_nil)) (pg_name (i := 3) sc22.nd rfl (Or.inr rfl))
        (pss_one (ps_expr (pe_bm PySem.F.plainAttrs_list PySem.F.slot_list_extend PySem.F.type_list_extend mt_extend (pv 2) (pa_cons
          (pe_lc (own := [("other", 4)]) (g := gName 4) rfl sc22.nd (pi_list (pe_cl CE hr (pa_cons (pv 0) (pa_cons (pv 1) (pa_cons (pv 3) pa_nil))))) (blkOk_by (N := N22) (sc := defScope (top 22)) (by decide +kernel)) (fun _ _ _ _ _ => pg_name (i := 4) sc22.nd rfl (Or.inl rfl))
            (fun _ _ _ _ _ => pts_one (pt_cmpR op_lt (pv 3) (pv 4) (nomark _))) (fun _ _ _ _ _ => pe_tup (pa_cons (pv 3) (pa_cons (pv 4) pa_nil)))) pa_nil)))))
      (pss_one (ps_ret (pe_cl CW hr (pa_cons (pe_callB call_len_seq (by rfl) T.len PySem.boot_len (pa_cons (pv 0) pa_nil)) (pa_cons (pv 2) pa_nil)))))), ?_⟩
    refine ⟨Nat.zero_le _, fun l hl => ?_⟩
    have s1 : Same H (upd H l (.lst [])) := smNew (Same.refl H) hl
    refine ⟨_, rfl, a, _, rfl, .inr (SqT.of (s1 _ _ ha)), _, rfl, by omega, by omega, ?_⟩
    have tn : (((vs.length : Nat) : Int)).toNat = W.length := by omega
    rw [tn]
    refine for_range (lo := 0) (n := W.length) (fun i σ H' => ∃ (vp : List V) (ps : List (Int × Int)) (o3 : Option V), σ = [some (.ref a), some (.ref b), some (.ref l), o3, none] ∧ Same H H' ∧ H' l = some (.lst vp) ∧ Paired (IL H') vp (ps.map pairL) ∧ ps.length ≤ 7 * i ∧ ∀ e : Int × Int, e ∈ ps ↔ (0 ≤ e.1 ∧ e.1 < (i : Int) ∧ e.1 < e.2 ∧ RC W c e.1 e.2))
      ⟨[], [], _, rfl, s1, upd_same, .nil, Nat.le_refl _, fun e => ⟨fun z => (nomatch z), fun ⟨z, z2, _⟩ => by omega⟩⟩ ?_ ?_
    · rintro i σ H' hi ⟨vp, ps, o3, rfl, sm, hF, hpp, le, mem⟩
      have ii : InW W (0 + (i : Int)) := ⟨by omega, by omega⟩
      have ha' := sm _ _ ha
      refine ⟨_, rfl, .inl ⟨rfl, _, SqL.of hF⟩, _, rfl, _, rfl, _, rfl, _, _, W, c, 0 + (i : Int), rfl, ⟨a, vs, rfl, ha', ilsTp (sTp sm) hp⟩, ok, ⟨b, rfl, sm _ _ hb⟩, ii, fun q H2 R s2 hq0 hq nd hR => ?_⟩
      generalize hx : 0 + (i : Int) = x at ii hR
      refine ⟨q, rfl, ⟨_, SqL.of hq⟩, fun D hD => ?_⟩
      have nql : q ≠ D := ne_of_none hq hD
      refine loop_it (walk_list (xs := R.map V.int)) (fun j H3 => ∃ vq : List V, H3 D = some (.lst vq) ∧ Same H2 H3 ∧ Paired (IL H3) vq (((R.take j).filter fun o => decide (x < o)).map fun o => [x, o])) ⟨[], upd_same, smNew (Same.refl _) hD, .nil⟩ (fun j H3 _ ⟨_, _, s3, _⟩ => SqL.of (s3 _ _ hq)) ?_ ?_
      · rintro j y H4 H3 hj ⟨vq, hvq, s3, hpq⟩ ⟨rfl, hy⟩
        obtain ⟨o, ho, rfl⟩ := get_int hy
        have hjl : j < R.length := (List.getElem?_eq_some_iff.1 ho).1
        refine ⟨rfl, _, rfl, _, rfl, x, o, rfl, rfl, _, rfl, iteBC (fun hlt => ?_) (fun hge => ?_)⟩
        · have hlt : x < o := of_decide_eq_true hlt
          refine ⟨_, rfl, _, rfl, by show 2 ≤ sizeLine; decide, fun t ht => ⟨vq, ?_, ?_, vq ++ [.ref t], upd_same, ?_, ?_⟩⟩
          · rw [upd_ne (ne_of_none hvq ht)]
            exact hvq
          · have := Paired.length hpq
            rw [List.length_map] at this
            have q2 := List.length_filter_le (fun o => decide (x < o)) (R.take j)
            rw [List.length_take] at q2
            have l8 : R.length ≤ W.length := nodup_len _ _ nd fun z hz => by
              rcases (hR z).1 hz with e | ⟨m, hc⟩
              · exact e ▸ ii
              · exact hc.inw ok ii
            exact lt64 (by omega)
          · exact smUpd (smNew s3 ht) hD
          · have nt : D ≠ t := ne_of_none hvq ht
            rw [take_more ho, List.filter_append, List.map_append]
            have e : ([o].filter fun o => decide (x < o)) = [o] := by simp [hlt]
            rw [e]
            have hvq' : upd H3 t (.tup [.int x, .int o]) D = some (.lst vq) := by rw [upd_ne nt]; exact hvq
            exact paired_app (ilsTp ((tpNew ht).trans (tpLst hvq')) hpq) (paired_one ⟨t, rfl, by rw [upd_ne nt.symm]; exact upd_same⟩)
        · have hge : ¬ x < o := of_decide_eq_false hge
          refine ⟨vq, hvq, s3, ?_⟩
          rw [take_more ho, List.filter_append]
          have e : ([o].filter fun o => decide (x < o)) = [] := by simp [hge]
          rw [e, List.append_nil]
          exact hpq
      · rintro H3 ⟨vq, hvq, s3, hpq⟩
        rw [lenI, List.take_length] at hpq
        have hF3 := s3 _ _ (s2 _ _ hF)
        have px : x ∈ R := (hR x).2 (.inl rfl)
        have l8 : R.length ≤ W.length := nodup_len _ _ nd fun z hz => by
          rcases (hR z).1 hz with e | ⟨m, hc⟩
          · exact e ▸ ii
          · exact hc.inw ok ii
        have l7 : (R.filter fun o => decide (x < o)).length < R.length := List.length_filter_lt_length_iff_exists.2 ⟨x, px, by simp⟩
        have lq := Paired.length hpq
        have lp := Paired.length hpp
        rw [List.length_map] at lq lp
        refine ⟨l, D, vp, vq, rfl, rfl, hF3, hvq, le64 (by omega), vp ++ vq, ps ++ ((R.filter fun o => decide (x < o)).map fun o => (x, o)), _, rfl, smUpd ((sm.trans s2).trans s3) hl, upd_same, ?_, ?_, fun e => ?_⟩
        · rw [List.map_append, List.map_map]
          refine paired_app (ilsTp ((sTp (s2.trans s3)).trans (tpLst hF3)) hpp) (ilsTp (tpLst hF3) ?_)
          exact hpq
        · rw [List.length_append, List.length_map]
          omega
        · rw [List.mem_append, mem e, List.mem_map]
          constructor
          · rintro (⟨q1, q2, q3⟩ | ⟨o, ho, rfl⟩)
            · exact ⟨q1, by omega, q3⟩
            · obtain ⟨h1, h2⟩ := List.mem_filter.1 ho
              have h2 : x < o := of_decide_eq_true h2
              exact ⟨ii.1, by show x < _; omega, h2, (hR o).1 h1⟩
          · rintro ⟨q1, q2, q3, q4⟩
            by_cases e1 : e.1 = x
            · refine .inr ⟨e.2, List.mem_filter.2 ⟨(hR e.2).2 (e1 ▸ q4), decide_eq_true (e1 ▸ q3)⟩, ?_⟩
              rw [← e1]
            · exact .inl ⟨q1, by omega, q3, q4⟩
    · rintro σ H' ⟨vp, ps, o3, rfl, sm, hF, hpp, le, mem⟩
      refine ⟨_, rfl, a, _, rfl, .inr (SqT.of (sm _ _ ha)), _, rfl, W.length, l, vp, ps, by rw [hlen]; rfl, h8, hF, hpp, by omega, fun e he => ?_, fun x H2 T s2 wt wo => k x _ T (sm.trans s2) wt (told_of ok mem wo)⟩
      obtain ⟨h1, h2, h3, h4⟩ := (mem e).1 he
      have i2 : InW W e.2 := by
        rcases h4 with q | ⟨m, q⟩
        · omega
        · exact q.inw ok ⟨h1, h2⟩
      exact ⟨by omega, h1, h2, i2.1, i2.2⟩
/-! ### told, full_in, full_set -/
def spTold : Sp := fun vs H Q _ => ∃ (v u : V) (W : Web) (c : List Int), vs = [v, u] ∧ WA H v W ∧ Ok W ∧ IL H u c ∧ Set8 W c ∧ ∀ (x : V) (H' : Hp) (T : Web), Same H H' → WA H' x T → Told W c T → Q x H'
theorem sc23 : FnScope ["web", "called"] ["web", "called"] (defScope (top 23)) := ⟨rfl, rfl, rfl, by decide +kernel, rfl, by decide +kernel, by decide +kernel⟩
theorem ok_told (F : Fun K "told" "told" (top 23) f fd) (T : Bt mg) (CW : Cl P w K mg base 3 "need_web" ["web"] spNeedWeb) (CP : Cl P w K mg base 3 "need_people" ["web", "people"] spPeople) (CT : Cl P w K mg base 2 "told_in" ["web", "called"] spToldIn) : FnOk P w K mg base CX0 4 f fd ["web", "called"] spTold := by
  refine F.ok sc23 (fun vs H Q E h => ?_) (fun cdv A outer s H vs Q E hr h => ?_)
  · obtain ⟨v, u, W, c, rfl, _⟩ := h; rfl
  · obtain ⟨v, u, W, c, rfl, hw, ok, hc, h8, k⟩ := h
    refine ⟨_, pss_cons (ps_expr (pe_cl CW hr (pa_cons (pv 0) pa_nil))) (pss_cons (ps_expr (pe_cl CP hr (pa_cons (pv 0) (pa_cons (pv 1) pa_nil)))) (pss_one (ps_ret (pe_cl CT (hr.mono (by decide)) (pa_cons (pv 0) (pa_cons (pv 1) pa_nil)))))), ?_⟩
    refine ⟨_, rfl, v, W, rfl, hw, ok, fun H1 s1 => ?_⟩
    refine ⟨_, rfl, _, rfl, v, u, W, c, rfl, hw.tp (sTp s1), ok.hi, hc.tp (sTp s1), h8, fun H2 s2 => ?_⟩
    exact ⟨_, rfl, _, rfl, v, u, W, c, rfl, (hw.tp (sTp s1)).tp (sTp s2), ok, (hc.tp (sTp s1)).tp (sTp s2), fun x H3 T s3 => k x H3 T ((s1.trans s2).trans s3)⟩
def spFullIn : Sp := fun vs H Q _ => ∃ (v u : V) (W : Web) (c : List Int), vs = [v, u] ∧ WA H v W ∧ Ok W ∧ IL H u c ∧ ∀ (x : V) (H' : Hp) (T : Web) (F : List Int), Same H H' → Told W c T → Full W T F → IL H' x F → Q x H'
theorem sc24 : FnScope ["web", "called"] ["web", "called"] (defScope (top 24)) := ⟨rfl, rfl, rfl, by decide +kernel, rfl, by decide +kernel, by decide +kernel⟩
theorem ok_full_in (F : Fun K "full_in" "full_in" (top 24) f fd) (T : Bt mg) (CI : Cl P w K mg base 2 "idle_in" ["web"] spIdle) (CT : Cl P w K mg base 2 "told_in" ["web", "called"] spToldIn) : FnOk P w K mg base CX0 3 f fd ["web", "called"] spFullIn := by
  refine F.ok sc24 (fun vs H Q E h => ?_) (fun cdv A outer s H vs Q E hr h => ?_)
  · obtain ⟨v, u, W, c, rfl, _⟩ := h; rfl
  · obtain ⟨v, u, W, c, rfl, hw, ok, hc, k⟩ := h
    refine ⟨_, pss_one (ps_ret (pe_callTy call_tuple_of (by rfl) T.tuple (by decide +kernel) (pa_cons (pe_cl CI hr (pa_cons (pe_cl CT hr (pa_cons (pv 0) (pa_cons (pv 1) pa_nil))) pa_nil)) pa_nil))), ?_⟩
    refine ⟨_, rfl, _, rfl, v, u, W, c, rfl, hw, ok, hc, fun x H1 T s1 wt told => ?_⟩
    refine ⟨x, T, rfl, wt, told.ok ok, fun l H2 R s2 _ hl full => ?_⟩
    refine ⟨l, _, rfl, .inl ⟨SqL.of hl, fun t ht => k _ _ T R (smNew (s1.trans s2) ht) told ⟨full.asc, fun y => ?_⟩ ⟨t, rfl, upd_same⟩⟩⟩
    rw [full.mem y]
    have : InW T y ↔ InW W y := by unfold InW; rw [told.len]
    rw [this]
def spFullSet : Sp := fun vs H Q _ => ∃ (v u : V) (W : Web) (c : List Int), vs = [v, u] ∧ WA H v W ∧ Ok W ∧ IL H u c ∧ Set8 W c ∧ ∀ (x : V) (H' : Hp) (T : Web) (F : List Int), Same H H' → Told W c T → Full W T F → IL H' x F → Q x H'
theorem sc25 : FnScope ["web", "called"] ["web", "called"] (defScope (top 25)) := ⟨rfl, rfl, rfl, by decide +kernel, rfl, by decide +kernel, by decide +kernel⟩
theorem ok_full_set (F : Fun K "full_set" "full_set" (top 25) f fd) (T : Bt mg) (CW : Cl P w K mg base 3 "need_web" ["web"] spNeedWeb) (CP : Cl P w K mg base 3 "need_people" ["web", "people"] spPeople) (CT : Cl P w K mg base 3 "full_in" ["web", "called"] spFullIn) : FnOk P w K mg base CX0 4 f fd ["web", "called"] spFullSet := by
  refine F.ok sc25 (fun vs H Q E h => ?_) (fun cdv A outer s H vs Q E hr h => ?_)
  · obtain ⟨v, u, W, c, rfl, _⟩ := h; rfl
  · obtain ⟨v, u, W, c, rfl, hw, ok, hc, h8, k⟩ := h
    refine ⟨_, pss_cons (ps_expr (pe_cl CW hr (pa_cons (pv 0) pa_nil))) (pss_cons (ps_expr (pe_cl CP hr (pa_cons (pv 0) (pa_cons (pv 1) pa_nil)))) (pss_one (ps_ret (pe_cl CT hr (pa_cons (pv 0) (pa_cons (pv 1) pa_nil)))))), ?_⟩
    refine ⟨_, rfl, v, W, rfl, hw, ok, fun H1 s1 => ?_⟩
    refine ⟨_, rfl, _, rfl, v, u, W, c, rfl, hw.tp (sTp s1), ok.hi, hc.tp (sTp s1), h8, fun H2 s2 => ?_⟩
    exact ⟨_, rfl, _, rfl, v, u, W, c, rfl, (hw.tp (sTp s1)).tp (sTp s2), ok, (hc.tp (sTp s1)).tp (sTp s2), fun x H3 T F s3 => k x H3 T F ((s1.trans s2).trans s3)⟩
end
end K75
namespace K75
open PySem L2
theorem atI_neg1 {r : List Int} (h : r ≠ []) : atI (r.map V.int) (-1) = some (.int (lastI r)) := by
  obtain ⟨r', t, rfl⟩ := snoc_of h
  rw [List.map_append]
  have : lastI (r' ++ [t]) = t := by
    unfold lastI
    rw [List.length_append, List.length_singleton, Nat.add_sub_cancel, getD_end]
  rw [this]
  exact atI_last _ _
theorem paStar {X : Cx} {e : Expr} {es : List Expr} {te : TE} {t : TA} {p : Pos} (K : PySem.W.Frag) (he : PE X e te) (hr : PA X es t) (hK : X.K = K := by rfl) (hs : starEach (.Starred e p :: es) X.env = (true, eval e X.env) :: starEach es X.env := by rfl) : PA X (.Starred e p :: es) (StX.tStar K te t) := by
  subst hK
  exact StX.pa_star he hr hs
theorem paired_mem {α β : Type} {F : α → β → Prop} : ∀ {l : List α} {r : List β}, Paired F l r → ∀ x ∈ l, ∃ y ∈ r, F x y
  | _, _, .nil, x, h => by cases h
  | _, _, .cons f t, x, h => by
    rcases List.mem_cons.1 h with e | h
    · subst e
      exact ⟨_, List.mem_cons_self, f⟩
    · obtain ⟨y, hy, q⟩ := paired_mem t x h
      exact ⟨y, List.mem_cons_of_mem _ hy, q⟩
theorem ends_more {W : Web} {b : Int} {rows : List (List Int)} {j : Nat} {r : List Int} (h : rows[j]? = some r) : endsOf W b (rows.take (j + 1)) = endsOf W b (rows.take j) ++ (if b ∈ adj W (lastI r) then [r ++ [b]] else []) := by
  unfold endsOf
  rw [take_more h, List.filter_append, List.map_append]
  by_cases hb : b ∈ adj W (lastI r)
  · rw [if_pos hb]
    have : ([r].filter fun r => decide (b ∈ adj W (lastI r))) = [r] := by simp [hb]
    rw [this]
    rfl
  · rw [if_neg hb]
    have : ([r].filter fun r => decide (b ∈ adj W (lastI r))) = [] := by simp [hb]
    rw [this]
    rfl
theorem ends_len {W : Web} {b : Int} (rows : List (List Int)) (j : Nat) : (endsOf W b (rows.take j)).length ≤ rows.length := by
  unfold endsOf
  rw [List.length_map]
  have := List.length_filter_le (fun r => decide (b ∈ adj W (lastI r))) (rows.take j)
  rw [List.length_take] at this
  omega
theorem nexts_more {W : Web} {c : List Int} {rows : List (List Int)} {j : Nat} {r : List Int} (h : rows[j]? = some r) : nexts W c (rows.take (j + 1)) = nexts W c (rows.take j) ++ nextsOf W c r := by
  unfold nexts
  rw [take_more h, List.flatMap_append]
  simp
theorem pow7 {k : Nat} (h : k ≤ 7) : 7 ^ k ≤ 823543 := by
  have : 7 ^ k ≤ 7 ^ 7 := Nat.pow_le_pow_right (by decide) h
  exact Nat.le_trans this (by decide)
theorem big {n : Nat} (h : n ≤ 6000000) : n < sizeLine := Nat.lt_of_le_of_lt h (by decide)
/-- what a def hands back: None, or a tuple of ints -/
def OIL (H : Hp) (x : V) : Option (List Int) → Prop
  | none => x = .non
  | some P => IL H x P
section
variable {P : Program} {w : World} {K : PySem.W.Frag} {mg : Str → Option Value} {base : Heap} {f : Addr} {fd : FuncData}
def spChain : Sp := fun vs H Q _ => ∃ (v u : V) (W : Web) (c : List Int) (a b : Int), vs = [v, u, .int a, .int b] ∧ WA H v W ∧ Ok W ∧ IL H u c ∧ Set8 W c ∧ InW W a ∧ InW W b ∧ ∀ (x : V) (H' : Hp) (o : Option (List Int)), Same H H' → OIL H' x o → ChainRes W c a b o → Q x H'
abbrev N26 : List Str := ["web", "called", "one", "other", "rows", "ends", "later", "row", "person"]
theorem sc26 : FnScope N26 ["web", "called", "one", "other"] (defScope (top 26)) := ⟨rfl, rfl, rfl, by decide +kernel, rfl, by decide +kernel, by decide +kernel⟩
theorem ok_chain (F : Fun K "chain" "chain" (top 26) f fd) (T : Bt mg) (CW : Cl P w K mg base 3 "need_web" ["web"] spNeedWeb) (CP : Cl P w K mg base 3 "need_people" ["web", "people"] spPeople) (CN : Cl P w K mg base 3 "need_person" ["web", "person"] spPerson) : FnOk P w K mg base CX0 4 f fd ["web", "called", "one", "other"] spChain := by
  refine F.ok sc26 (fun vs H Q E h => ?_) (fun cdv A outer s H vs Q E hr h => ?_)
  · obtain ⟨v, u, W, c, a, b, rfl, _⟩ := h; rfl
  · obtain ⟨v, u, W, c, a, b, rfl, hw, ok, hc, h8, ia, ib, k⟩ := h
    refine ⟨_, pss_cons (ps_expr (pe_cl CW hr (pa_cons (pv 0) pa_nil))) (pss_cons (ps_expr (pe_cl CP hr (pa_cons (pv 0) (pa_cons (pv 1) pa_nil)))) (pss_cons (ps_expr (pe_cl CN hr (pa_cons (pv 0) (pa_cons (pv 2) pa_nil)))) (pss_cons (ps_expr (pe_cl CN hr (pa_cons (pv 0) (pa_cons (pv 3) pa_nil))))
      (pss_cons (ps_if (pt_cmpR op_eq (pv 2) (pv 3) (nomark _)) (pss_one (ps_ret (pe_tup (pa_cons (pv 2) pa_nil)))) pss_nil)
      (pss_cons (ps_set (i := 4) sc26.nd rfl (Or.inl rfl) (pe_lst (pa_cons (pe_tup (pa_cons (pv 2) pa_nil)) pa_nil)))
      (pss_cons (ps_while PassesOwn.never (pt_cmpR (op_neD hr.units) (pv 4) (pe_lst pa_nil) (nomark _))
        (pss_cons (ps_setLc (i := 5) (own := [("row", 7)]) (g := gName 7) rfl sc26.nd rfl rfl (sw_true rfl rfl rfl (by decide +kernel)) (pi_list (pv 4)) (blkOk_by (N := N26) (sc := defScope (top 26)) (by decide +kernel)) (fun _ _ _ _ _ => pg_name (i := 7) sc26.nd rfl (Or.inl rfl))
            (fun _ _ _ _ _ => pts_one (pt_cmpR (inS K) (pv 3) (pe_ix (ixT K) (pv 0) (pe_ix (ixT K) (pv 7) (pe_un un_neg pe_int) (fun _ _ => rfl)) (fun _ _ => rfl)) (by rfl)))
            (fun _ _ _ _ _ => pe_tup (paStar K (pv 7) (pa_cons (pv 3) pa_nil))))
        (pss_cons (ps_if (pt_cmpR (op_neD hr.units) (pv 5) (pe_lst pa_nil) (nomark _)) (pss_one (ps_ret (pe_callB (cr_minT rfl hr.units) (by rfl) T.min (by decide +kernel) (pa_cons (pv 5) pa_nil)))) pss_nil)
        (pss_cons (ps_set (i := 6) sc26.nd rfl (Or.inl rfl) (pe_lst pa_nil))
        (pss_cons (ps_for PassesOwn.never rfl (pi_list (pv 4)) (pg_name (i := 7) sc26.nd rfl (Or.inr rfl))
          (pss_one (ps_expr (pe_bm PySem.F.plainAttrs_list PySem.F.slot_list_extend PySem.F.type_list_extend mt_extend (pv 6) (pa_cons
            (pe_lc (own := [("person", 8)]) (g := gName 8) rfl sc26.nd (pi_tup (pe_ix ix_tup (pv 0) (pe_ix ix_tup (pv 7) (pe_un un_neg pe_int) (fun _ _ => rfl)) (fun _ _ => rfl))) (blkOk_by (N := N26) (sc := defScope (top 26)) (by decide +kernel)) (fun _ _ _ _ _ => pg_name (i := 8) sc26.nd rfl (Or.inl rfl))
              (fun _ _ _ _ _ => pts_one (PW.pt (pw_and (pt_cmpR (inS K) (pv 8) (pv 1) (by rfl)) (pw_and1 (pt_cmpR (notInS K) (pv 8) (pv 7) (by rfl))))))
              (fun _ _ _ _ _ => pe_tup (paStar K (pv 7) (pa_cons (pv 8) pa_nil)))) pa_nil)))))
        (pss_one (ps_set (i := 4) sc26.nd rfl (Or.inl rfl) (pv 6))))))))
      (pss_one (ps_ret pe_non)))))))), ?_⟩
    refine ⟨_, rfl, v, W, rfl, hw, ok, fun H1 s1 => ?_⟩
    refine ⟨_, rfl, _, rfl, v, u, W, c, rfl, hw.tp (sTp s1), ok.hi, hc.tp (sTp s1), h8, fun H2 s2 => ?_⟩
    have s02 := s1.trans s2
    have hw2 := hw.tp (sTp s02)
    have hc2 := hc.tp (sTp s02)
    refine ⟨_, rfl, _, rfl, v, W, a, rfl, hw2, ia, ?_⟩
    refine ⟨_, rfl, _, rfl, v, W, b, rfl, hw2, ib, ?_⟩
    have k2 : ∀ (x : V) (H' : Hp) (o : Option (List Int)), Same H2 H' → OIL H' x o → ChainRes W c a b o → Q x H' := fun x H' o s => k x H' o (s02.trans s)
    clear hw hc s1 s2 s02 k
    refine ⟨_, rfl, _, rfl, rfl, _, rfl, iteBC (fun he => ?_) (fun hne => ?_)⟩
    · have he : a = b := by simpa using he
      refine ⟨_, rfl, by show 1 ≤ sizeLine; decide, fun t ht => k2 _ _ (some [a]) (smNew (Same.refl _) ht) ⟨t, rfl, upd_same⟩ (.inl ⟨he, rfl⟩)⟩
    have hne : a ≠ b := by simpa using hne
    obtain ⟨aw, vs, rfl, ha, hp⟩ := hw2
    obtain ⟨cw, rfl, hb⟩ := hc2
    refine ⟨_, rfl, by show 1 ≤ sizeLine; decide, fun t0 ht0 => ⟨by show 1 ≤ sizeLine; decide, fun l0 hl0 => ?_⟩⟩
    have nt0 : t0 ≠ l0 := ne_of_none (H := upd H2 t0 (.tup [.int a])) upd_same hl0
    have s0 : Same H2 (upd (upd H2 t0 (.tup [.int a])) l0 (.lst [.ref t0])) := smNew (smNew (Same.refl _) ht0) hl0
    refine ⟨fun m σ H' => ∃ (kk : Nat) (rows : List (List Int)) (vr : List V) (l4 : Addr) (o5 o6 o7 : Option V), σ = [some (.ref aw), some (.ref cw), some (.int a), some (.int b), some (.ref l4), o5, o6, o7, none] ∧ Same H2 H' ∧ H' l4 = some (.lst vr) ∧ Paired (IL H') vr rows ∧ RowsI W c a b kk rows ∧ m = 10 - kk ∧ kk ≤ 8,
      ⟨_, 0, [[a]], [.ref t0], l0, none, none, none, rfl, s0, upd_same, paired_one ⟨t0, rfl, by rw [upd_ne nt0]; exact upd_same⟩, RowsI.start, rfl, by omega⟩, ?_⟩
    rintro m σ H3 ⟨kk, rows, vr, l4, o5, o6, o7, rfl, s3, hl4, hpr, ri, rfl, hk8⟩
    refine ⟨_, rfl, Nat.zero_le _, fun l5 h5 => ?_⟩
    have n45 : l4 ≠ l5 := ne_of_none hl4 h5
    have s4 : Same H3 (upd H3 l5 (.lst [])) := smNew (Same.refl _) h5
    refine ⟨.list (rows.map pyI), .list [], .lst (SqL.of (s4 _ _ hl4)) (dpTups (ilsTp (sTp s4) hpr)), .lst (SqL.of upd_same) .nil, shapedTups _, shapedInts [], _, rfl, ?_⟩
    have e := bne_nil rows
    have hl4b := s4 _ _ hl4
    have hpr4 := ilsTp (sTp s4) hpr
    have s24 := s3.trans s4
    generalize upd H3 l5 (.lst []) = H4 at hl4b hpr4 s24
    refine iteBC (fun hrn => ?_) (fun hrn => ?_)
    rotate_left
    · have hrn : rows = [] := by
        rw [show PyData.eqv (.list (rows.map pyI)) (.list []) = decide (rows = []) from e] at hrn
        simpa using hrn
      exact k2 _ _ none s24 rfl (.inr ⟨hne, .inl ⟨rfl, ri.none hrn⟩⟩)
    have hrn : rows ≠ [] := by
      rw [show PyData.eqv (.list (rows.map pyI)) (.list []) = decide (rows = []) from e] at hrn
      intro z
      rw [z] at hrn
      cases hrn
    have hk7 : kk ≤ 7 := by
      have := ri.bound ok ia hrn
      have := ok.hi
      omega
    have rlen : rows.length ≤ 823543 := Nat.le_trans ri.len (pow7 hk7)
    have lvr := Paired.length hpr4
    refine ⟨fun σ' H' => ∃ m', m' < 10 - kk ∧ _, fun _ _ h => h, ?_⟩
    refine ⟨_, rfl, l4, rfl, ⟨_, SqL.of hl4b⟩, fun D hD => ?_⟩
    refine loop_it (walk_list (xs := vr)) (fun j H' => ∃ ve : List V, H' D = some (.lst ve) ∧ Same H4 H' ∧ Paired (IL H') ve (endsOf W b (rows.take j))) ⟨[], upd_same, smNew (Same.refl _) hD, .nil⟩ (fun j H' _ ⟨_, _, s, _⟩ => SqL.of (s _ _ hl4b)) ?_ ?_
    · rintro j y H6 H5 hj ⟨ve, hve, s5, hpe⟩ ⟨rfl, hy⟩
      obtain ⟨r, hr1, t, rfl, ht⟩ := paired_at hpr4 j y hy
      obtain ⟨row, _⟩ := (ri.mem r).1 (List.mem_of_getElem? hr1)
      have il := row.lastIn ok ia
      obtain ⟨d, hd1, hd2⟩ := wa_at hp il
      have ht5 := s5 _ _ ht
      have s25 := s24.trans s5
      have el := ends_len (W := W) (b := b) rows j
      have lve := Paired.length hpe
      have lr := row.len ok ia
      have hW := ok.hi
      refine ⟨rfl, _, rfl, _, rfl, _, rfl, _, rfl, t, _, -1, _, rfl, rfl, SqT.of ht5, atI_neg1 row.ne, aw, vs, lastI r, _, rfl, rfl, SqT.of (s25 _ _ ha), atI_int il.1 hd1, d, _, rfl, .inr (SqT.of (s25 _ _ hd2)), rfl, flat_ints _, _, rfl, ?_⟩
      refine iteBC (fun hin => ?_) (fun hnin => ?_)
      · have hin : b ∈ adj W (lastI r) := by
          have q : inV (.int b) ((adj W (lastI r)).map V.int) = true := hin
          rw [inV_ints] at q
          simpa using q
        refine ⟨_, rfl, t, _, rfl, .inl (SqT.of ht5), _, rfl, ?_, fun x hx => ⟨ve, ?_, big (by omega), ve ++ [.ref x], upd_same, ?_, ?_⟩⟩
        · show (r.map V.int ++ [V.int b]).length ≤ sizeLine
          rw [List.length_append, List.length_singleton, lenI]
          exact le64 (by omega)
        · rw [upd_ne (ne_of_none hve hx)]
          exact hve
        · have zD : H4 D = none := hD
          exact smUpd (smNew s5 hx) zD
        · have nx : D ≠ x := ne_of_none hve hx
          rw [ends_more hr1, if_pos hin]
          have hve' : upd H5 x (.tup (r.map V.int ++ [V.int b])) D = some (.lst ve) := by rw [upd_ne nx]; exact hve
          refine paired_app (ilsTp ((tpNew hx).trans (tpLst hve')) hpe) (paired_one ⟨x, rfl, ?_⟩)
          rw [upd_ne nx.symm, upd_same, List.map_append]
          rfl
      · have hnin : b ∉ adj W (lastI r) := by
          have q : inV (.int b) ((adj W (lastI r)).map V.int) = false := hnin
          rw [inV_ints] at q
          simpa using q
        refine ⟨ve, hve, s5, ?_⟩
        rw [ends_more hr1, if_neg hnin, List.append_nil]
        exact hpe
    rintro H5 ⟨ve, hve, s5, hpe⟩
    rw [lvr, List.take_length] at hpe
    have s25 := s24.trans s5
    have hl5 := s5 _ _ hl4b
    have hpr5 := ilsTp (sTp s5) hpr4
    clear s5
    refine ⟨_, rfl, Nat.zero_le _, fun l6 h6 => ?_⟩
    have s6 : Same H5 (upd H5 l6 (.lst [])) := smNew (Same.refl _) h6
    refine ⟨.list ((endsOf W b rows).map pyI), .list [], .lst (SqL.of (s6 _ _ hve)) (dpTups (ilsTp (sTp s6) hpe)), .lst (SqL.of upd_same) .nil, shapedTups _, shapedInts [], _, rfl, ?_⟩
    have e2 := bne_nil (endsOf W b rows)
    have hve6 := s6 _ _ hve
    have hpe6 := ilsTp (sTp s6) hpe
    have hl6 := s6 _ _ hl5
    have hpr6 := ilsTp (sTp s6) hpr5
    have s26 := s25.trans s6
    clear hve hpe hl5 hpr5 s25 hpr4 hl4b s24
    generalize upd H5 l6 (.lst []) = H6 at hve6 hpe6 hl6 hpr6 s26
    refine iteBC (fun hen => ?_) (fun hen => ?_)
    · have hen : endsOf W b rows ≠ [] := by
        rw [show PyData.eqv (.list ((endsOf W b rows).map pyI)) (.list []) = decide (endsOf W b rows = []) from e2] at hen
        intro z
        rw [z] at hen
        cases hen
      refine ⟨_, rfl, D, ve, _, rfl, hve6, hpe6, ?_, fun x hx => ?_⟩
      · intro z
        subst z
        cases hpe6' : endsOf W b rows with
        | nil => exact hen hpe6'
        | cons y r =>
          rw [hpe6'] at hpe6
          cases hpe6
      · obtain ⟨y, hy, q⟩ := paired_mem hpe6 x hx
        exact k2 _ _ (some y) s26 q (.inr ⟨hne, .inr ⟨y, rfl, ri.found hne hy⟩⟩)
    have hen : endsOf W b rows = [] := by
      rw [show PyData.eqv (.list ((endsOf W b rows).map pyI)) (.list []) = decide (endsOf W b rows = []) from e2] at hen
      simpa using hen
    have ri2 := ri.next ok ia hen
    refine ⟨Nat.zero_le _, fun l7 h7 => ?_⟩
    have s7 : Same H6 (upd H6 l7 (.lst [])) := smNew (Same.refl _) h7
    refine ⟨_, rfl, l4, rfl, ⟨_, SqL.of (s7 _ _ hl6)⟩, ?_⟩
    refine for_list (K := K) (a := l4) (xs := vr) (fun j σ H' => ∃ (vl : List V) (o7 : Option V), σ = [some (.ref aw), some (.ref cw), some (.int a), some (.int b), some (.ref l4), some (.ref D), some (.ref l7), o7, none] ∧ Same H6 H' ∧ H' l7 = some (.lst vl) ∧ Paired (IL H') vl (nexts W c (rows.take j)) ∧ vl.length ≤ 7 * j)
      ⟨[], _, rfl, s7, upd_same, .nil, Nat.le_refl _⟩ (fun j σ H' _ ⟨_, _, _, s, _⟩ => SqL.of (s _ _ hl6)) ?_ ?_
    · rintro j y σ H8 hy ⟨vl, o7, rfl, s8, hvl, hpl, lel⟩
      have hjl : j < vr.length := (List.getElem?_eq_some_iff.1 hy).1
      obtain ⟨r, hr1, t, rfl, ht⟩ := paired_at hpr6 j y hy
      obtain ⟨row, _⟩ := (ri.mem r).1 (List.mem_of_getElem? hr1)
      have il := row.lastIn ok ia
      obtain ⟨d, hd1, hd2⟩ := wa_at hp il
      have ht8 := s8 _ _ ht
      have s28 := s26.trans s8
      have lr := row.len ok ia
      have hW := ok.hi
      have al := adj_len ok il
      refine ⟨_, rfl, .inl ⟨rfl, _, SqL.of hvl⟩, _, rfl, _, rfl, _, rfl, t, _, -1, _, rfl, rfl, SqT.of ht8, atI_neg1 row.ne, aw, vs, lastI r, _, rfl, rfl, SqT.of (s28 _ _ ha), atI_int il.1 hd1, d, rfl, ⟨_, SqT.of (s28 _ _ hd2)⟩, fun D2 hD2 => ?_⟩
      refine loop_it (walk_tup (xs := (adj W (lastI r)).map V.int)) (fun i H' => ∃ vq : List V, H' D2 = some (.lst vq) ∧ Same H8 H' ∧ Paired (IL H') vq ((((adj W (lastI r)).take i).filter fun x => decide (x ∈ c) && !decide (x ∈ r)).map fun x => r ++ [x])) ⟨[], upd_same, smNew (Same.refl _) hD2, .nil⟩ (fun i H' _ ⟨_, _, s, _⟩ => SqT.of (s _ _ (s28 _ _ hd2))) ?_ ?_
      · rintro i z H10 H9 hi ⟨vq, hvq, s9, hpq⟩ ⟨rfl, hz⟩
        obtain ⟨o, ho, rfl⟩ := get_int hz
        have lq := Paired.length hpq
        have flq := List.length_filter_le (fun x => decide (x ∈ c) && !decide (x ∈ r)) ((adj W (lastI r)).take i)
        rw [List.length_map] at lq
        rw [List.length_take] at flq
        have skip : (decide (o ∈ c) && !decide (o ∈ r)) = false → (((adj W (lastI r)).take (i + 1)).filter fun x => decide (x ∈ c) && !decide (x ∈ r)) = (((adj W (lastI r)).take i).filter fun x => decide (x ∈ c) && !decide (x ∈ r)) := by
          intro h
          rw [take_more ho, List.filter_append, List.filter_cons, h]
          simp
        have take : (decide (o ∈ c) && !decide (o ∈ r)) = true → (((adj W (lastI r)).take (i + 1)).filter fun x => decide (x ∈ c) && !decide (x ∈ r)) = (((adj W (lastI r)).take i).filter fun x => decide (x ∈ c) && !decide (x ∈ r)) ++ [o] := by
          intro h
          rw [take_more ho, List.filter_append, List.filter_cons, h]
          simp
        refine ⟨rfl, _, rfl, _, rfl, cw, _, rfl, .inr (SqT.of (s9 _ _ (s28 _ _ hb))), rfl, flat_ints _, _, rfl, ?_⟩
        refine iteBC (fun hin => ?_) (fun hnin => ?_)
        · have hin : o ∈ c := by
            have q : inV (.int o) (c.map V.int) = true := hin
            rw [inV_ints] at q
            simpa using q
          refine ⟨_, rfl, _, rfl, t, _, rfl, .inr (SqT.of (s9 _ _ ht8)), rfl, flat_ints _, _, rfl, ?_⟩
          refine iteBC (fun hnr => ?_) (fun hir => ?_)
          · have hnr : o ∉ r := by
              have q : (!inV (.int o) (r.map V.int)) = true := hnr
              rw [inV_ints] at q
              simpa using q
            refine ⟨_, rfl, t, _, rfl, .inl (SqT.of (s9 _ _ ht8)), _, rfl, ?_, fun x hx => ⟨vq, ?_, big (by omega), vq ++ [.ref x], upd_same, ?_, ?_⟩⟩
            · show (r.map V.int ++ [V.int o]).length ≤ sizeLine
              rw [List.length_append, List.length_singleton, lenI]
              exact le64 (by omega)
            · rw [upd_ne (ne_of_none hvq hx)]
              exact hvq
            · exact smUpd (smNew s9 hx) hD2
            · have nx : D2 ≠ x := ne_of_none hvq hx
              rw [take (by simp [hin, hnr]), List.map_append]
              have hvq' : upd H9 x (.tup (r.map V.int ++ [V.int o])) D2 = some (.lst vq) := by rw [upd_ne nx]; exact hvq
              refine paired_app (ilsTp ((tpNew hx).trans (tpLst hvq')) hpq) (paired_one ⟨x, rfl, ?_⟩)
              rw [upd_ne nx.symm, upd_same, List.map_append]
              rfl
          · have hir : o ∈ r := by
              have q : (!inV (.int o) (r.map V.int)) = false := hir
              rw [inV_ints] at q
              simpa using q
            refine ⟨vq, hvq, s9, ?_⟩
            rw [skip (by simp [hir])]
            exact hpq
        · have hnin : o ∉ c := by
            have q : inV (.int o) (c.map V.int) = false := hnin
            rw [inV_ints] at q
            simpa using q
          refine ⟨vq, hvq, s9, ?_⟩
          rw [skip (by simp [hnin])]
          exact hpq
      · rintro H9 ⟨vq, hvq, s9, hpq⟩
        rw [lenI, List.take_length] at hpq
        have hvl9 := s9 _ _ hvl
        have lq := Paired.length hpq
        have n7 := nextsOf_len ok ia row
        have lq : vq.length = (nextsOf W c r).length := lq
        refine ⟨l7, D2, vl, vq, rfl, rfl, hvl9, hvq, Nat.le_of_lt (big (by omega)), vl ++ vq, _, rfl, smUpd (s8.trans s9) h7, upd_same, ?_, by rw [List.length_append]; omega⟩
        rw [nexts_more hr1]
        exact paired_app (ilsTp ((sTp s9).trans (tpLst hvl9)) hpl) (ilsTp (tpLst hvl9) hpq)
    · rintro σ H8 ⟨vl, o7, rfl, s8, hvl, hpl, lel⟩
      rw [lvr, List.take_length] at hpl
      exact ⟨_, rfl, 10 - (kk + 1), by omega, kk + 1, _, vl, l7, _, _, _, rfl, s26.trans s8, hvl, hpl, ri2, rfl, by omega⟩
end
end K75
namespace K75
open PySem L2
/-- a called one is covered by a round table -/
def Cov (W : Web) (c : List Int) (TT : List (List Int)) (x : Int) : Prop := ∃ t ∈ TT, ∃ P : List Int, x ∈ P ∧ (∀ y ∈ P, ∀ z ∈ adj W y, z ∈ c → z ∈ P) ∧ ∀ y ∈ P, ∀ z ∈ adj W y, z ∈ t
theorem Cov.more {W : Web} {c : List Int} {TT : List (List Int)} {x : Int} (h : Cov W c TT x) (t : List Int) : Cov W c (TT ++ [t]) x := by
  obtain ⟨s, hs, r⟩ := h
  exact ⟨s, List.mem_append_left _ hs, r⟩
section
variable {P : Program} {w : World} {K : PySem.W.Frag} {mg : Str → Option Value} {base : Heap} {f : Addr} {fd : FuncData}
def spTables : Sp := fun vs H Q _ => ∃ (v u : V) (W : Web) (c : List Int), vs = [v, u] ∧ WA H v W ∧ Ok W ∧ IL H u c ∧ Set8 W c ∧
  ∀ (t : Addr) (H' : Hp) (vt : List V) (TT : List (List Int)), Same H H' → H' t = some (.tup vt) → Paired (IL H') vt TT → TT.length ≤ 8 → Tables W c TT → Q (.ref t) H'
abbrev N27 : List Str := ["web", "called", "found", "met", "person", "piece", "last", "here", "other", "one"]
theorem sc27 : FnScope N27 ["web", "called"] (defScope (top 27)) := ⟨rfl, rfl, rfl, by decide +kernel, rfl, by decide +kernel, by decide +kernel⟩
abbrev qT : Int → Bool := fun _ => true
theorem ok_tables (F : Fun K "tables" "tables" (top 27) f fd) (T : Bt mg) (CW : Cl P w K mg base 3 "need_web" ["web"] spNeedWeb) (CP : Cl P w K mg base 3 "need_people" ["web", "people"] spPeople) : FnOk P w K mg base CX0 4 f fd ["web", "called"] spTables := by
  refine F.ok sc27 (fun vs H Q E h => ?_) (fun cdv A outer s H vs Q E hr h => ?_)
  · obtain ⟨v, u, W, c, rfl, _⟩ := h; rfl
  · obtain ⟨v, u, W, c, rfl, hw, ok, hc, h8, k⟩ := h
    refine ⟨_, pss_cons (ps_expr (pe_cl CW hr (pa_cons (pv 0) pa_nil))) (pss_cons (ps_expr (pe_cl CP hr (pa_cons (pv 0) (pa_cons (pv 1) pa_nil))))
      (pss_cons (ps_par (i := 2) (j := 3) rfl sc27.nd rfl rfl (by decide) rfl rfl (pa_cons (pe_lst pa_nil) (pa_cons (pe_lst pa_nil) pa_nil)) (by rfl))
      (pss_cons (ps_for PassesOwn.never rfl (pi_tup (pv 1)) (pg_name (i := 4) sc27.nd rfl (Or.inl rfl))
        (pss_one (ps_if (pt_cmpR op_notIn_seq (pv 4) (pv 3) (by rfl))
          (pss_cons (ps_par (i := 5) (j := 6) rfl sc27.nd rfl rfl (by decide) rfl rfl (pa_cons (pe_lst (pa_cons (pv 4) pa_nil)) (pa_cons (pe_lst (pa_cons (pv 4) pa_nil)) pa_nil)) (by rfl))
          (pss_cons (ps_while PassesOwn.never (pt_cmpR (op_neD hr.units) (pv 6) (pe_lst pa_nil) (nomark _))
            (pss_cons (ps_set (i := 7) sc27.nd rfl (Or.inl rfl) (pe_bm0 PySem.F.plainAttrs_list PySem.F.slot_list_pop PySem.F.type_list_pop mt_pop (pv 6)))
            (pss_one (ps_for PassesOwn.never rfl (pi_tup (pe_ix ix_tup (pv 0) (pv 7) (fun _ _ => rfl))) (pg_name (i := 8) sc27.nd rfl (Or.inl rfl))
              (pss_one (ps_if (PW.pt (pw_and (pt_cmpR op_in_seq (pv 8) (pv 1) (by rfl)) (pw_and1 (pt_cmpR op_notIn_seq (pv 8) (pv 5) (by rfl))))) (pss_cons (ps_expr (pe_app K (pv 5) (pa_cons (pv 8) pa_nil))) (pss_one (ps_expr (pe_app K (pv 6) (pa_cons (pv 8) pa_nil))))) pss_nil))))))
          (pss_cons (ps_expr (pe_bm PySem.F.plainAttrs_list PySem.F.slot_list_extend PySem.F.type_list_extend mt_extend (pv 3) (pa_cons (pv 5) pa_nil)))
          (pss_one (ps_expr (pe_app K (pv 2) (pa_cons
            (pe_callTy call_tuple_of (by rfl) T.tuple (by decide +kernel) (pa_cons (pe_callB (crSortSetW w rfl) (by rfl) T.sorted (by decide +kernel) (pa_cons (pe_callTy (crSetW w rfl) (by rfl) T.set (by decide +kernel) (pa_cons
              (pe_op op_cat (pv 5) (pe_lc2 (own := [("one", 9), ("other", 8)]) (vs1 := [8]) (g := gName 9) (tt := tYes) (g1 := gName 8) (tt1 := tYes) rfl sc27.nd (pi_list (pv 5)) (blkOk_by (N := N27) (sc := defScope (top 27)) (by decide +kernel)) (by decide)
                (fun _ _ _ _ _ => pg_name (i := 9) sc27.nd rfl (Or.inl rfl)) (fun _ _ _ _ _ => pts_nil) (fun _ _ _ _ _ => piT K (pe_ix (ixT K) (pv 0) (pv 9) (fun _ _ => rfl))) (fun _ _ _ _ _ => pg_name (i := 8) sc27.nd rfl (Or.inl rfl))
                (fun _ _ _ _ _ => pts_nil) (fun _ _ _ _ _ => pv 8))) pa_nil)) pa_nil)) pa_nil)) pa_nil)))))))
          pss_nil)))
      (pss_one (ps_ret (pe_callTy call_tuple_of (by rfl) T.tuple (by decide +kernel) (pa_cons (pe_callB (cr_sortTs hr.units) (by rfl) T.sorted (by decide +kernel) (pa_cons (pv 2) pa_nil)) pa_nil))))))), ?_⟩
    refine ⟨_, rfl, v, W, rfl, hw, ok, fun H1 s1 => ?_⟩
    refine ⟨_, rfl, _, rfl, v, u, W, c, rfl, hw.tp (sTp s1), ok.hi, hc.tp (sTp s1), h8, fun H2 s2 => ?_⟩
    have s02 := s1.trans s2
    have hw2 := hw.tp (sTp s02)
    have hc2 := hc.tp (sTp s02)
    have k2 : ∀ (t : Addr) (H' : Hp) (vt : List V) (TT : List (List Int)), Same H2 H' → H' t = some (.tup vt) → Paired (IL H') vt TT → TT.length ≤ 8 → Tables W c TT → Q (.ref t) H' := fun t H' vt TT s => k t H' vt TT (s02.trans s)
    clear hw hc s1 s2 s02 k
    obtain ⟨aw, vs, rfl, ha, hp⟩ := hw2
    obtain ⟨cw, rfl, hb⟩ := hc2
    have hW := ok.hi
    have cl := h8.len
    refine ⟨Nat.zero_le _, fun l2 hl2 => ⟨Nat.zero_le _, fun l3 hl3 => ⟨_, _, rfl, ?_⟩⟩⟩
    have n23 : l2 ≠ l3 := ne_of_none (H := upd H2 l2 (.lst [])) upd_same hl3
    have s3 : Same H2 (upd H2 l2 (.lst [])) := smNew (Same.refl _) hl2
    have z3 : H2 l3 = none := s3.free hl3
    refine ⟨_, rfl, cw, rfl, ⟨_, SqT.of (smUpd s3 z3 _ _ hb)⟩, ?_⟩
    refine for_tup (K := K) (a := cw) (xs := c.map V.int) (fun i σ H' => ∃ (vf : List V) (TT : List (List Int)) (met : List Int) (o4 o5 o6 o7 o8 : Option V), σ = [some (.ref aw), some (.ref cw), some (.ref l2), some (.ref l3), o4, o5, o6, o7, o8, none] ∧ Same H2 H' ∧ H' l2 = some (.lst vf) ∧ H' l3 = some (.lst (met.map V.int)) ∧
        Paired (IL H') vf TT ∧ TT.length ≤ i ∧ met.length ≤ 8 * i ∧ (∀ r ∈ TT, r ≠ []) ∧ (∀ x ∈ met, Cov W c TT x) ∧ ∀ x ∈ c.take i, Cov W c TT x)
      ⟨[], [], [], _, _, _, _, _, rfl, smUpd s3 z3, by rw [upd_ne n23]; exact upd_same, upd_same, .nil, Nat.le_refl _, Nat.le_refl _, fun r h => (nomatch h), fun x h => (nomatch h), fun x h => (nomatch h)⟩ (fun i σ H' _ ⟨_, _, _, _, _, _, _, _, _, s, _⟩ => SqT.of (s _ _ hb)) ?_ ?_
    · rintro i x0 σ H3 hx0 ⟨vf, TT, met, o4, o5, o6, o7, o8, rfl, s4, hl2', hl3', hpt, lt, lm, hne, cm, ct⟩
      obtain ⟨x, hx, rfl⟩ := get_int hx0
      have hi : i < c.length := (List.getElem?_eq_some_iff.1 hx).1
      have xc := List.mem_of_getElem? hx
      have ix := h8.inw x xc
      refine ⟨_, rfl, _, rfl, l3, _, rfl, .inl (SqL.of hl3'), rfl, flat_ints _, _, rfl, iteBC (fun hn => ?_) (fun hn => ?_)⟩
      rotate_left
      · have hn : x ∈ met := by
          have q : (!inV (.int x) (met.map V.int)) = false := hn
          rw [inV_ints] at q
          simpa using q
        exact ⟨vf, TT, met, _, _, _, _, _, rfl, s4, hl2', hl3', hpt, by omega, by omega, hne, cm, (all_take hx _).2 ⟨ct, cm x hn⟩⟩
      clear hn
      refine ⟨_, rfl, (by show 1 ≤ sizeLine; decide), fun l5 h5 => ⟨_, rfl, (by show 1 ≤ sizeLine; decide), fun l6 h6 => ⟨_, _, rfl, ?_⟩⟩⟩
      have n56 : l5 ≠ l6 := ne_of_none (H := upd H3 l5 (.lst [.int x])) upd_same h6
      have s5 : Same H3 (upd H3 l5 (.lst [.int x])) := smNew (Same.refl H3) h5
      have z6 : H3 l6 = none := s5.free h6
      refine ⟨fun m σ H' => ∃ (F L : List Int) (o7 o8 : Option V), σ = [some (.ref aw), some (.ref cw), some (.ref l2), some (.ref l3), some (.int x), some (.ref l5), some (.ref l6), o7, o8, none] ∧ H' l5 = some (.lst (F.map V.int)) ∧ H' l6 = some (.lst (L.map V.int)) ∧ Same H3 H' ∧
        m = wmu W F L ∧ m ≤ 16 ∧ WI W (qC c) qT x (fun _ => True) F L, ⟨_, [x], [x], _, _, rfl, by rw [upd_ne n56, upd_same]; rfl, upd_same, smUpd s5 z6, rfl, by unfold wmu; simp; omega, WI.start ix trivial⟩, ?_⟩
      rintro m σ H' ⟨F, L, o7, o8, rfl, hF, hL, sm, rfl, hm, wi⟩
      refine ⟨_, rfl, Nat.zero_le _, fun l9 h9 => ?_⟩
      have sm3 : Same H3 (upd H' l9 (.lst [])) := smNew sm h9
      have hF3 : upd H' l9 (.lst []) l5 = some (.lst (F.map V.int)) := by rw [upd_ne (ne_of_none hF h9)]; exact hF
      have hL3 : upd H' l9 (.lst []) l6 = some (.lst (L.map V.int)) := by rw [upd_ne (ne_of_none hL h9)]; exact hL
      refine ⟨.list (L.map .int), .list [], .lst (SqL.of hL3) (dpInts _), .lst (SqL.of upd_same) .nil, shapedInts _, shapedInts [], _, rfl, ?_⟩
      have e := bne_list L []
      generalize upd H' l9 (.lst []) = H4 at sm3 hF3 hL3
      refine iteBC (fun hne' => ?_) (fun hnil => ?_)
      · have hne' : L ≠ [] := by
          rw [show PyData.eqv (.list (L.map .int)) (.list []) = decide (L = []) from e] at hne'
          intro z
          rw [z] at hne'
          cases hne'
        obtain ⟨L', t, rfl⟩ := snoc_of hne'
        obtain ⟨wi2, mu2⟩ := wi.turn ok fun _ _ _ _ _ _ _ => trivial
        refine ⟨fun σ' H' => ∃ m', m' < wmu W F (L' ++ [t]) ∧ _, fun _ _ h => h, ?_⟩
        obtain ⟨tF, tq⟩ := wi.sub t (by simp)
        have it := wi.inw t tF
        refine ⟨_, rfl, .inl ⟨rfl, _, SqL.of hL3⟩, l6, _, _, rfl, rfl, hL3, get_last _ _, ?_⟩
        rw [drop_last]
        have sm4 : Same H3 (upd H4 l6 (.lst (L'.map V.int))) := smUpd sm3 z6
        have hF4 : upd H4 l6 (.lst (L'.map V.int)) l5 = some (.lst (F.map V.int)) := by rw [upd_ne n56]; exact hF3
        have hL4 : upd H4 l6 (.lst (L'.map V.int)) l6 = some (.lst (L'.map V.int)) := upd_same
        generalize upd H4 l6 (.lst (L'.map V.int)) = H5 at sm4 hF4 hL4
        obtain ⟨d, hd1, hd2⟩ := wa_at hp it
        have hd2 := s4 _ _ hd2
        have ha3 := s4 _ _ ha
        have hb3 := s4 _ _ hb
        have lL : L'.length ≤ 16 := by
          unfold wmu at hm
          rw [List.length_append, List.length_singleton] at hm
          omega
        have bnd : ∀ j, (((adj W t).take j).foldl (push (qC c) qT) (F, L')).1.length ≤ 8 ∧ (((adj W t).take j).foldl (push (qC c) qT) (F, L')).2.length ≤ 32 := by
          intro j
          have pf := push_fold (qC c) qT ((adj W t).take j) F L' wi.nd
          have l1 : (((adj W t).take j).foldl (push (qC c) qT) (F, L')).1.length ≤ W.length := nodup_len _ _ pf.nd fun x hx => by
            rcases pf.new x hx with z | z
            · exact wi.inw x z
            · exact (ok.inn _ it _ (List.mem_of_mem_take z.1)).1
          have := pf.len
          exact ⟨by omega, by omega⟩
        refine ⟨_, rfl, _, rfl, aw, vs, t, _, rfl, rfl, SqT.of (sm4 _ _ ha3), atI_int it.1 hd1, d, rfl, ⟨_, SqT.of (sm4 _ _ hd2)⟩, ?_⟩
        refine for_tup (K := K) (a := d) (xs := (adj W t).map V.int) (fun j σ H' => ∃ (o8 : Option V) (s : List Int × List Int), s = ((adj W t).take j).foldl (push (qC c) qT) (F, L') ∧ σ = [some (.ref aw), some (.ref cw), some (.ref l2), some (.ref l3), some (.int x), some (.ref l5), some (.ref l6), some (.int t), o8, none] ∧
          H' l5 = some (.lst (s.1.map V.int)) ∧ H' l6 = some (.lst (s.2.map V.int)) ∧ Same H3 H') ⟨_, _, rfl, rfl, hF4, hL4, sm4⟩ (fun j σ H' _ ⟨_, _, _, _, _, _, sm⟩ => SqT.of (sm _ _ hd2)) ?_ ?_
        · rintro j y0 σ H' hx' ⟨o8, s, es, rfl, hFs, hLs, sms⟩
          obtain ⟨y, hy, rfl⟩ := get_int hx'
          have b1 := bnd j
          rw [← es] at b1
          have nxt := fold_more (p := qC c) (q := qT) hy (F, L')
          rw [← es] at nxt
          refine ⟨_, rfl, _, rfl, cw, _, rfl, .inr (SqT.of (sms _ _ hb3)), rfl, flat_ints _, _, rfl, ?_⟩
          refine iteBC (fun hc => ?_) (fun hc => ?_)
          · have hc : y ∈ c := by
              have q : inV (.int y) (c.map V.int) = true := hc
              rw [inV_ints] at q
              simpa using q
            refine ⟨_, rfl, _, rfl, l5, _, rfl, .inl (SqL.of hFs), rfl, flat_ints _, _, rfl, ?_⟩
            refine iteBC (fun hn => ?_) (fun hn => ?_)
            · have hn : y ∉ s.1 := by
                have q : (!inV (.int y) (s.1.map V.int)) = true := hn
                rw [inV_ints] at q
                simpa using q
              refine ⟨_, rfl, .inl ⟨rfl, _, SqL.of hFs⟩, _, rfl, l5, _, _, rfl, rfl, hFs, by rw [lenI]; exact lt64 (by omega), ?_⟩
              have hF5 : upd H' l5 (.lst (s.1.map V.int ++ [.int y])) l5 = some (.lst ((s.1 ++ [y]).map V.int)) := by
                rw [upd_same, List.map_append]
                rfl
              have hL5 : upd H' l5 (.lst (s.1.map V.int ++ [.int y])) l6 = some (.lst (s.2.map V.int)) := by
                rw [upd_ne n56.symm]
                exact hLs
              have sm5 : Same H3 (upd H' l5 (.lst (s.1.map V.int ++ [.int y]))) := smUpd sms h5
              generalize upd H' l5 (.lst (s.1.map V.int ++ [.int y])) = H6 at hF5 hL5 sm5
              refine ⟨_, rfl, .inl ⟨rfl, _, SqL.of hL5⟩, _, rfl, l6, _, _, rfl, rfl, hL5, by rw [lenI]; exact lt64 (by omega), ?_⟩
              have e : push (qC c) qT s y = (s.1 ++ [y], s.2 ++ [y]) := by
                unfold push
                simp [hn, hc, qC]
              refine ⟨_, (s.1 ++ [y], s.2 ++ [y]), by rw [nxt, e], rfl, by rw [upd_ne n56]; exact hF5, ?_, smUpd sm5 z6⟩
              rw [upd_same, List.map_append]
              rfl
            · have hn : y ∈ s.1 := by
                have q : (!inV (.int y) (s.1.map V.int)) = false := hn
                rw [inV_ints] at q
                simpa using q
              have e : push (qC c) qT s y = s := by
                unfold push
                simp [hn]
              exact ⟨_, s, by rw [nxt, e], rfl, hFs, hLs, sms⟩
          · have hc : y ∉ c := by
              have q : inV (.int y) (c.map V.int) = false := hc
              rw [inV_ints] at q
              simpa using q
            have e : push (qC c) qT s y = s := by
              unfold push
              simp [hc, qC]
            exact ⟨_, s, by rw [nxt, e], rfl, hFs, hLs, sms⟩
        · rintro σ H' ⟨o8, s, es, rfl, hFs, hLs, sms⟩
          rw [lenI, List.take_length] at es
          subst es
          exact ⟨_, mu2, _, _, _, _, rfl, hFs, hLs, sms, rfl, by omega, wi2⟩
      · have hnil : L = [] := by
          rw [show PyData.eqv (.list (L.map .int)) (.list []) = decide (L = []) from e] at hnil
          simpa using hnil
        subst hnil
        have done := wi.done
        have fl := wi.flen
        have hl3'' := sm3 _ _ hl3'
        have hl2'' := sm3 _ _ hl2'
        -- met.extend(piece)
        refine ⟨_, rfl, .inl ⟨rfl, _, SqL.of hl3''⟩, _, rfl, l3, l5, _, _, rfl, rfl, hl3'', hF3, by rw [lenI, lenI]; exact le64 (by omega), ?_⟩
        have n35 : l3 ≠ l5 := ne_of_none hl3' h5
        have n25 : l2 ≠ l5 := ne_of_none hl2' h5
        have s23 : Same H2 (upd H4 l3 (.lst (met.map V.int ++ F.map V.int))) := smUpd (s4.trans sm3) z3
        have m3 : upd H4 l3 (.lst (met.map V.int ++ F.map V.int)) l3 = some (.lst ((met ++ F).map V.int)) := by rw [upd_same, List.map_append]
        have m2 : upd H4 l3 (.lst (met.map V.int ++ F.map V.int)) l2 = some (.lst vf) := by rw [upd_ne n23]; exact hl2''
        have m5 : upd H4 l3 (.lst (met.map V.int ++ F.map V.int)) l5 = some (.lst (F.map V.int)) := by rw [upd_ne n35.symm]; exact hF3
        have mp : Paired (IL (upd H4 l3 (.lst (met.map V.int ++ F.map V.int)))) vf TT := ilsTp ((sTp sm3).trans (tpLst hl3'')) hpt
        generalize upd H4 l3 (.lst (met.map V.int ++ F.map V.int)) = H5 at s23 m3 m2 m5 mp
        clear sm3 hF3 hL3 hl3'' hl2''
        -- found.append(tuple(sorted(set(piece + [..]))))
        refine ⟨_, rfl, .inl ⟨rfl, _, SqL.of m2⟩, _, rfl, _, rfl, l5, rfl, ⟨_, SqL.of m5⟩, fun D hD => ?_⟩
        refine loop_it (walk_list (xs := F.map V.int)) (fun j H' => ∃ zs : List Int, H' = upd H5 D (.lst (zs.map V.int)) ∧ zs.length ≤ 7 * j ∧ (∀ z ∈ zs, InW W z) ∧ ∀ y ∈ F.take j, ∀ z ∈ adj W y, z ∈ zs) ⟨[], rfl, Nat.le_refl _, fun z h => (nomatch h), fun y h => (nomatch h)⟩
          (fun j H' _ ⟨zs, e, _⟩ => by rw [e]; exact SqL.of (by rw [upd_ne (ne_of_none m5 hD)]; exact m5)) ?_ ?_
        · rintro j y0 H7 H6 hj ⟨zs, rfl, lz, iz, az⟩ ⟨rfl, hy0⟩
          obtain ⟨y, hy, rfl⟩ := get_int hy0
          have hjl : j < F.length := (List.getElem?_eq_some_iff.1 hy).1
          have iy := wi.inw y (List.mem_of_getElem? hy)
          obtain ⟨d, hd1, hd2⟩ := wa_at hp iy
          have hd5 := s23 _ _ hd2
          have ha5 := s23 _ _ ha
          have al := adj_len ok iy
          refine ⟨rfl, _, rfl, _, rfl, aw, vs, y, _, rfl, rfl, SqT.of (by rw [upd_ne (ne_of_none ha5 hD)]; exact ha5), atI_int iy.1 hd1, d, rfl, ⟨_, SqT.of (by rw [upd_ne (ne_of_none hd5 hD)]; exact hd5)⟩, ?_⟩
          refine loop_it (walk_tup (xs := (adj W y).map V.int)) (fun i H' => H' = upd H5 D (.lst ((zs ++ (adj W y).take i).map V.int))) (by rw [List.take_zero, List.append_nil]) (fun i H' _ e => by rw [e]; exact SqT.of (by rw [upd_ne (ne_of_none hd5 hD)]; exact hd5)) ?_ ?_
          · rintro i z0 H7 H6 hi rfl ⟨rfl, hz0⟩
            obtain ⟨z, hz, rfl⟩ := get_int hz0
            refine ⟨rfl, _, rfl, _, upd_same, ?_, ?_⟩
            · rw [lenI, List.length_append, List.length_take]
              exact lt64 (by omega)
            · rw [upd_upd, take_more hz]
              show upd H5 D (.lst ((zs ++ (adj W y).take i).map V.int ++ [.int z])) = _
              rw [← List.append_assoc, List.map_append (l₂ := [z])]
              rfl
          · rintro H6 rfl
            rw [lenI, List.take_length]
            refine ⟨zs ++ adj W y, rfl, by rw [List.length_append]; omega, fun z hz => ?_, (all_take hy _).2 ⟨fun q hq z hz => List.mem_append_left _ (az q hq z hz), fun z hz => List.mem_append_right _ hz⟩⟩
            rcases List.mem_append.1 hz with hz | hz
            · exact iz z hz
            · exact (ok.inn _ iy z hz).1
        rintro H6 ⟨zs, rfl, lz, iz, az⟩
        rw [lenI] at lz az
        have az := (all_full _).1 az
        have nD5 : l5 ≠ D := ne_of_none m5 hD
        have sD : Same H5 (upd H5 D (.lst (zs.map V.int))) := smNew (Same.refl _) hD
        refine ⟨l5, D, _, _, rfl, rfl, sD _ _ m5, upd_same, by rw [lenI, lenI]; exact le64 (by omega), fun p0 hp0 => ?_⟩
        have sP : Same H5 (upd (upd H5 D (.lst (zs.map V.int))) p0 (.lst (F.map V.int ++ zs.map V.int))) := smNew sD hp0
        have mP : upd (upd H5 D (.lst (zs.map V.int))) p0 (.lst (F.map V.int ++ zs.map V.int)) p0 = some (.lst ((F ++ zs).map V.int)) := by rw [upd_same, List.map_append]
        generalize upd (upd H5 D (.lst (zs.map V.int))) p0 (.lst (F.map V.int ++ zs.map V.int)) = H7 at sP mP
        refine ⟨p0, _, rfl, .inl mP, by rw [List.length_append]; omega, fun p1 ks hp1 nd mem le => ?_⟩
        have ksl : ks.length ≤ W.length := nodup_len _ _ nd fun z hz => by
          rcases List.mem_append.1 ((mem z).1 hz) with hz | hz
          · exact wi.inw z hz
          · exact iz z hz
        refine ⟨p1, _, _, rfl, upd_same, by omega, fun ns p2 asc mem2 _ hp2 => ?_⟩
        refine ⟨p2, _, rfl, .inl ⟨SqL.of upd_same, fun p3 hp3 => ?_⟩⟩
        have sQ : Same H5 (upd (upd (upd H7 p1 (SetO w p1 (fun j => decide (j ∈ F ++ zs)) ks.length)) p2 (.lst (ns.map V.int))) p3 (.tup (ns.map V.int))) := smNew (smNew (smNew sP hp1) hp2) hp3
        have mQ : upd (upd (upd H7 p1 (SetO w p1 (fun j => decide (j ∈ F ++ zs)) ks.length)) p2 (.lst (ns.map V.int))) p3 (.tup (ns.map V.int)) p3 = some (.tup (ns.map V.int)) := upd_same
        generalize upd (upd (upd H7 p1 (SetO w p1 (fun j => decide (j ∈ F ++ zs)) ks.length)) p2 (.lst (ns.map V.int))) p3 (.tup (ns.map V.int)) = H8 at sQ mQ
        have lv := Paired.length mp
        refine ⟨l2, _, _, rfl, rfl, sQ _ _ m2, lt64 (by omega), ?_⟩
        have nsIn : ∀ z, z ∈ ns ↔ z ∈ F ++ zs := fun z => by
          rw [mem2 z]
          simp
        have xF : x ∈ F := wi.st
        have cF : ∀ y ∈ F, Cov W c (TT ++ [ns]) y := fun y hy => ⟨ns, by simp, F, hy, fun q hq z hz hzc => done q hq (.inr rfl) z hz (by simpa [qC] using hzc), fun q hq z hz => (nsIn z).2 (List.mem_append_right _ (az q hq z hz))⟩
        refine ⟨vf ++ [.ref p3], TT ++ [ns], met ++ F, _, _, _, _, _, rfl, smUpd (s23.trans sQ) hl2, upd_same, ?_, ?_, ?_, ?_, ?_, ?_, ?_⟩
        · rw [upd_ne n23.symm]
          exact sQ _ _ m3
        · exact paired_app (ilsTp ((sTp sQ).trans (tpLst (sQ _ _ m2))) mp) (paired_one ⟨p3, rfl, tpLst (sQ _ _ m2) _ _ mQ⟩)
        · rw [List.length_append, List.length_singleton]
          omega
        · rw [List.length_append]
          omega
        · intro r hr'
          rcases List.mem_append.1 hr' with h | h
          · exact hne r h
          · have : r = ns := by simpa using h
            subst this
            intro z
            have := (nsIn x).2 (List.mem_append_left _ xF)
            rw [z] at this
            cases this
        · intro y hy
          rcases List.mem_append.1 hy with h | h
          · exact (cm y h).more ns
          · exact cF y h
        · exact (all_take hx _).2 ⟨fun y hy => (ct y hy).more ns, cF x xF⟩
    · rintro σ H3 ⟨vf, TT, met, o4, o5, o6, o7, o8, rfl, s4, hl2', hl3', hpt, lt, lm, hne, cm, ct⟩
      rw [lenI] at lt ct
      have ct := (all_full _).1 ct
      refine ⟨_, rfl, l2, vf, TT, rfl, hl2', hpt, hne, fun p ys zs hp' perm hpz => ?_⟩
      refine ⟨p, _, rfl, .inl ⟨SqL.of upd_same, fun t ht => ?_⟩⟩
      refine k2 t _ ys zs (smNew (smNew s4 hp') ht) upd_same (ilsTp ((tpNew hp').trans (tpNew ht)) hpz) (by rw [perm.length_eq]; omega) fun x hx => ?_
      obtain ⟨r, hr', q⟩ := ct x hx
      exact ⟨r, perm.mem_iff.2 hr', q⟩
end
end K75
namespace K75
open PySem L2
/-- a dict of prices -/
structure DF (n : Nat) (kvs : List (Key × V)) (f : Int → Option Nat) : Prop where
  val : ∀ x : Int, valV kvs (.inl x) = (f x).map fun k => V.int ((k : Nat) : Int)
  len : kvs.length ≤ cnt n f
theorem put_len {kvs : List (Key × V)} {k : Key} {v x : V} (h : valV kvs k = some x) : (putK kvs k v).length = kvs.length := by
  unfold putK
  rw [valV_any, h]
  simp
theorem DF.put {n : Nat} {kvs : List (Key × V)} {f : Int → Option Nat} (d : DF n kvs f) {y : Int} {k : Nat} (h0 : 0 ≤ y) (h1 : y < (n : Int)) : DF n (putK kvs (.inl y) (.int ((k : Nat) : Int))) (put f y k) := by
  refine ⟨fun x => ?_, ?_⟩
  · rw [valV_put]
    by_cases e : x = y
    · subst e
      rw [if_pos rfl, put_self]
      rfl
    · rw [if_neg (fun z => e (Sum.inl.inj z)), put_ne e]
      exact d.val x
  · cases e : f y with
    | none =>
      rw [putK_new _ (by rw [d.val, e]; rfl), List.length_append, List.length_singleton, cnt_new h0 h1 e]
      have := d.len
      omega
    | some k0 =>
      rw [put_len (x := .int ((k0 : Nat) : Int)) (by rw [d.val, e]; rfl), cnt_old h0 h1 e]
      exact d.len
theorem DF.one {n : Nat} {a : Int} (h0 : 0 ≤ a) (h1 : a < (n : Int)) : DF n [(.inl a, .int 0)] (K75.put (fun _ => none) a 0) := by
  refine ⟨fun x => ?_, ?_⟩
  · by_cases e : x = a
    · subst e
      rw [put_self]
      exact valV_pos rfl
    · rw [put_ne e]
      exact valV_neg (fun z => e (Sum.inl.inj z).symm)
  · rw [cnt_one h0 h1]
    exact Nat.le_refl _
theorem DF.get {n : Nat} {kvs : List (Key × V)} {f : Int → Option Nat} (d : DF n kvs f) {x : Int} {k : Nat} (e : f x = some k) : valV kvs (.inl x) = some (.int ((k : Nat) : Int)) := by rw [d.val, e]; rfl
theorem phi_none : ∀ n : Nat, phi n (fun _ => none) = 8 * n
  | 0 => rfl
  | n + 1 => by
    have ih := phi_none n
    unfold phi at *
    rw [List.range_succ, List.map_append, List.sum_append]
    simp only [List.map_cons, List.map_nil, List.sum_cons, List.sum_nil, Nat.add_zero]
    rw [ih]
    show 8 * n + 8 = 8 * (n + 1)
    omega
/-- None, or a number -/
def ON (o : Option Nat) : V := (o.map fun k => V.int ((k : Nat) : Int)).getD .non
theorem drop_at {α : Type} {L : List α} {i : Nat} {x : α} (h : L[i]? = some x) : L.drop i = x :: L.drop (i + 1) := by
  obtain ⟨h1, h2⟩ := List.getElem?_eq_some_iff.1 h
  rw [List.drop_eq_getElem_cons h1, h2]
section
variable {P : Program} {w : World} {K : PySem.W.Frag} {mg : Str → Option Value} {base : Heap} {f : Addr} {fd : FuncData}
def spStepsFrom : Sp := fun vs H Q _ => ∃ (v : V) (W : Web) (p : Int), vs = [v, .int p] ∧ WA H v W ∧ Ok W ∧ InW W p ∧
  ∀ (d : Addr) (H' : Hp) (kvs : List (Key × V)) (g : Int → Option Nat), Same H H' → H' d = some (.dK kvs) → (∀ x : Int, valV kvs (.inl x) = (g x).map fun k => V.int ((k : Nat) : Int)) → IsD W (fun _ => 1) p g → Q (.ref d) H'
abbrev N29 : List Str := ["web", "person", "found", "last", "many", "fresh", "here", "other"]
theorem sc29 : FnScope N29 ["web", "person"] (defScope (top 29)) := ⟨rfl, rfl, rfl, by decide +kernel, rfl, by decide +kernel, by decide +kernel⟩
theorem ok_steps_from (F : Fun K "steps_from" "steps_from" (top 29) f fd) (T : Bt mg) : FnOk P w K mg base CX0 1 f fd ["web", "person"] spStepsFrom := by
  refine F.ok sc29 (fun vs H Q E h => ?_) (fun cdv A outer s H vs Q E hr h => ?_)
  · obtain ⟨v, W, p, rfl, _⟩ := h; rfl
  · obtain ⟨v, W, p, rfl, ⟨aw, vs, rfl, ha, hp⟩, ok, ip, k⟩ := h
    have hW := ok.hi
    have hu := hu_of hr
    refine ⟨_, pss_cons (ps_par3 (i := 2) (j := 3) (l := 4) rfl sc29.nd rfl rfl rfl (by decide) (by decide) (by decide) rfl rfl rfl (pa_cons (pe_disp (pps_cons (pv 1) pe_int pps_nil) (by rfl) (by rfl) (fun z => by cases z) (by decide)) (pa_cons (pe_lst (pa_cons (pv 1) pa_nil)) (pa_cons pe_int pa_nil))) (by rfl))
      (pss_cons (ps_while PassesOwn.never (pt_cmpR (op_neD hr.units) (pv 3) (pe_lst pa_nil) (nomark _))
        (pss_cons (ps_aug (i := 4) sc29.nd rfl (.inl rfl) pe_int ip_add)
        (pss_cons (ps_set (i := 5) sc29.nd rfl (Or.inl rfl) (pe_lst pa_nil))
        (pss_cons (ps_for PassesOwn.never rfl (pi_list (pv 3)) (pg_name (i := 6) sc29.nd rfl (Or.inl rfl))
          (pss_one (ps_for PassesOwn.never rfl (pi_tup (pe_ix ix_tup (pv 0) (pv 6) (fun _ _ => rfl))) (pg_name (i := 7) sc29.nd rfl (Or.inl rfl))
            (pss_one (ps_if (pt_cmp (pc_dnotin hu (pv 7) (pv 2))) (pss_cons (ps_dput hu (pv 2) (pv 7) (pv 4) rfl) (pss_one (ps_expr (pe_app K (pv 5) (pa_cons (pv 7) pa_nil))))) pss_nil)))))
        (pss_one (ps_set (i := 3) sc29.nd rfl (Or.inl rfl) (pv 5)))))))
      (pss_one (ps_ret (pv 2)))), ?_⟩
    refine fun d hd => ⟨_, rfl, upd_same, [(.inl p, .int 0)], rfl, (by show 1 ≤ 15; decide), _, rfl, (by show 1 ≤ sizeLine; decide), fun l0 hl0 => ⟨_, _, _, rfl, ?_⟩⟩
    have hd1 : upd (upd H d (.dK [])) d (.dK (mergeK [] [(.inl p, .int 0)])) = upd H d (.dK [(.inl p, .int 0)]) := upd_upd
    rw [hd1] at hl0 ⊢
    have s1 : Same H (upd H d (.dK [(.inl p, .int 0)])) := smNew (Same.refl _) hd
    have ndl : d ≠ l0 := ne_of_none (H := upd H d (.dK [(.inl p, .int 0)])) upd_same hl0
    have st1 : ∀ x ∈ [p], put (fun _ => none) p 0 x = some 0 := fun x hx => by
      have : x = p := by simpa using hx
      subst this
      exact put_self
    have st2 : ∀ (x : Int) (k : Nat), put (fun _ => none) p 0 x = some k → k ≤ 0 := fun x k e => by
      by_cases h : x = p
      · subst h
        rw [put_self] at e
        cases e
        exact Nat.le_refl _
      · rw [put_ne h] at e
        cases e
    refine ⟨fun m σ H' => ∃ (g : Int → Option Nat) (kvs : List (Key × V)) (L : List Int) (l3 : Addr) (t : Nat) (o5 o6 o7 : Option V), σ = [some (.ref aw), some (.int p), some (.ref d), some (.ref l3), some (.int ((t : Nat) : Int)), o5, o6, o7] ∧ Same H H' ∧ H' d = some (.dK kvs) ∧ H' l3 = some (.lst (L.map V.int)) ∧
        DF W.length kvs g ∧ RI W (fun _ => 1) p g (fun x => x ∈ L) ∧ (∀ x ∈ L, g x = some t) ∧ (∀ x k, g x = some k → k ≤ t) ∧ m = 2 * (W.length - cnt W.length g) + (if L = [] then 0 else 1),
      ⟨_, put (fun _ => none) p 0, _, [p], l0, 0, none, none, none, rfl, smNew s1 hl0, by rw [upd_ne ndl]; exact upd_same, upd_same, DF.one ip.1 ip.2, (RI.start ip).mono fun x h => by simp [h], st1, st2, rfl⟩, ?_⟩
    rintro m σ H3 ⟨g0, kvs0, L, l3, t, o5, o6, o7, rfl, s3, hdk, hL, df, ri, hLt, hle, rfl⟩
    refine ⟨_, rfl, Nat.zero_le _, fun l9 h9 => ?_⟩
    have s39 : Same H3 (upd H3 l9 (.lst [])) := smNew (Same.refl _) h9
    have hL9 := s39 _ _ hL
    have hd9 := s39 _ _ hdk
    have sm := s3.trans s39
    refine ⟨.list (L.map .int), .list [], .lst (SqL.of hL9) (dpInts _), .lst (SqL.of upd_same) .nil, shapedInts _, shapedInts [], _, rfl, ?_⟩
    have e := bne_list L []
    generalize upd H3 l9 (.lst []) = H4 at hL9 hd9 sm
    refine iteBC (fun hne => ?_) (fun hnil => ?_)
    rotate_left
    · have hnil : L = [] := by
        rw [show PyData.eqv (.list (L.map .int)) (.list []) = decide (L = []) from e] at hnil
        simpa using hnil
      subst hnil
      exact ⟨_, rfl, k d _ kvs0 g0 sm hd9 df.val (ri.mono fun x h => (nomatch h)).isD⟩
    have hne : L ≠ [] := by
      rw [show PyData.eqv (.list (L.map .int)) (.list []) = decide (L = []) from e] at hne
      intro z
      rw [z] at hne
      cases hne
    rw [if_neg hne]
    refine ⟨fun σ' H' => ∃ m', m' < 2 * (W.length - cnt W.length g0) + 1 ∧ _, fun _ _ h => h, ?_⟩
    refine ⟨_, rfl, _, _, rfl, rfl, Nat.zero_le _, fun l5 h5 => ?_⟩
    have s5 : Same H4 (upd H4 l5 (.lst [])) := smNew (Same.refl _) h5
    have z5 : H l5 = none := sm.free h5
    refine ⟨_, rfl, l3, rfl, ⟨_, SqL.of (s5 _ _ hL9)⟩, ?_⟩
    have n53 : l3 ≠ l5 := ne_of_none hL9 h5
    have n5d : d ≠ l5 := ne_of_none hd9 h5
    have nd3 : l3 ≠ d := ne_of hL9 hd9 (fun z => nomatch z)
    refine for_list (K := K) (a := l3) (xs := L.map V.int) (fun i σ H' => ∃ (g : Int → Option Nat) (kvs : List (Key × V)) (R : List Int) (o6 o7 : Option V), σ = [some (.ref aw), some (.int p), some (.ref d), some (.ref l3), some (.int ((t : Int) + 1)), some (.ref l5), o6, o7] ∧ Same H H' ∧ H' d = some (.dK kvs) ∧ H' l3 = some (.lst (L.map V.int)) ∧ H' l5 = some (.lst (R.map V.int)) ∧
        DF W.length kvs g ∧ RI W (fun _ => 1) p g (fun x => x ∈ L.drop i ∨ x ∈ R) ∧ (∀ x ∈ L, g x = some t) ∧ (∀ x ∈ R, g x = some (t + 1)) ∧ (∀ x k, g x = some k → k ≤ t + 1) ∧ cnt W.length g0 + R.length ≤ cnt W.length g)
      ⟨g0, kvs0, [], _, _, rfl, sm.trans s5, s5 _ _ hd9, s5 _ _ hL9, upd_same, df, ri.mono fun x h => .inl h, hLt, fun x h => (nomatch h), fun x k e => Nat.le_succ_of_le (hle x k e), Nat.le_refl _⟩ (fun i σ H' _ ⟨_, _, _, _, _, _, _, _, h, _⟩ => SqL.of h) ?_ ?_
    · rintro i x0 σ H6 hx0 ⟨g1, kvs1, R1, o6, o7, rfl, s6, hd6, hl6, hr6, df1, ri1, hLt1, hR1, hle1, hc1⟩
      obtain ⟨x, hx, rfl⟩ := get_int hx0
      have gx := hLt1 x (List.mem_of_getElem? hx)
      have ix := ri1.inw x _ gx
      obtain ⟨q, hq1, hq2⟩ := wa_at hp ix
      have px := ri1.sound x _ gx
      refine ⟨_, rfl, _, rfl, aw, vs, x, _, rfl, rfl, SqT.of (s6 _ _ ha), atI_int ix.1 hq1, q, rfl, ⟨_, SqT.of (s6 _ _ hq2)⟩, ?_⟩
      refine for_tup (K := K) (a := q) (xs := (adj W x).map V.int) (fun j σ H' => ∃ (g : Int → Option Nat) (kvs : List (Key × V)) (R : List Int) (o7 : Option V), σ = [some (.ref aw), some (.int p), some (.ref d), some (.ref l3), some (.int ((t : Int) + 1)), some (.ref l5), some (.int x), o7] ∧ Same H H' ∧ H' d = some (.dK kvs) ∧ H' l3 = some (.lst (L.map V.int)) ∧ H' l5 = some (.lst (R.map V.int)) ∧
          DF W.length kvs g ∧ RI W (fun _ => 1) p g (fun y => (y ∈ L.drop (i + 1) ∨ y ∈ R) ∨ y = x) ∧ (∀ y ∈ L, g y = some t) ∧ (∀ y ∈ R, g y = some (t + 1)) ∧ (∀ x k, g x = some k → k ≤ t + 1) ∧ cnt W.length g0 + R.length ≤ cnt W.length g ∧ ∀ y ∈ (adj W x).take j, ∃ k', g y = some k' ∧ k' ≤ t + 1)
        ⟨g1, kvs1, R1, _, rfl, s6, hd6, hl6, hr6, df1, ri1.mono fun y h => ?_, hLt1, hR1, hle1, hc1, fun y h => (nomatch h)⟩ (fun j σ H' _ ⟨_, _, _, _, _, s, _⟩ => SqT.of (s _ _ hq2)) ?_ ?_
      · rw [drop_at hx] at h
        rcases h with h | h
        · rcases List.mem_cons.1 h with h | h
          · exact .inr h
          · exact .inl (.inl h)
        · exact .inl (.inr h)
      · rintro j y0 σ H7 hy0 ⟨g2, kvs2, R2, o7, rfl, s7, hd7, hl7, hr7, df2, ri2, hLt2, hR2, hle2, hc2, hall⟩
        obtain ⟨y, hy, rfl⟩ := get_int hy0
        have my := List.mem_of_getElem? hy
        have iy := (ok.inn _ ix y my).1
        refine ⟨_, rfl, _, rfl, d, _, rfl, DGet.k (k := .inl y) hd7, _, rfl, ?_⟩
        rw [df2.val y]
        cases ey : g2 y with
        | some k0 =>
          refine iteC rfl ⟨g2, kvs2, R2, _, rfl, s7, hd7, hl7, hr7, df2, ri2, hLt2, hR2, hle2, hc2, (all_take hy _).2 ⟨hall, k0, ey, hle2 y k0 ey⟩⟩
        | none =>
          have cg := cnt_new (k := t + 1) iy.1 iy.2 ey
          have cle := cnt_le (put g2 y (t + 1)) W.length
          have hlen := df2.len
          refine iteB rfl ⟨_, rfl, _, rfl, _, rfl, d, _, rfl, DPut.k (k := .inl y) hd7 (lt64 (by omega)), ?_⟩
          have zd : H d = none := hd
          have nr : l5 ≠ d := n5d.symm
          have hr8 : upd H7 d (.dK (putK kvs2 (.inl y) (.int ((t : Int) + 1)))) l5 = some (.lst (R2.map V.int)) := by rw [upd_ne nr]; exact hr7
          refine ⟨_, rfl, .inl ⟨rfl, _, SqL.of hr8⟩, _, rfl, l5, _, _, rfl, rfl, hr8, by rw [lenI]; exact lt64 (by omega), ?_⟩
          have other : ∀ z k0, g2 z = some k0 → put g2 y (t + 1) z = some k0 := fun z k0 ez => by
            rw [put_ne (fun q => by rw [q, ey] at ez; cases ez)]
            exact ez
          refine ⟨put g2 y (t + 1), putK kvs2 (.inl y) (.int ((t : Int) + 1)), R2 ++ [y], _, rfl, smUpd (smUpd s7 zd) z5, by rw [upd_ne n5d]; exact upd_same, by rw [upd_ne n53, upd_ne nd3]; exact hl7, by rw [upd_same, List.map_append]; rfl, ?_, ?_, fun z hz => other z _ (hLt2 z hz), fun z hz => ?_, fun z k0 ez => ?_, ?_, ?_⟩
          · have := df2.put (k := t + 1) iy.1 iy.2
            have e1 : (((t + 1 : Nat) : Nat) : Int) = (t : Int) + 1 := by omega
            rw [e1] at this
            exact this
          · refine (ri2.put (Pc.step px my) iy fun k0 e0 => by rw [ey] at e0; cases e0).mono fun z h => ?_
            rcases h with ((h | h) | h) | h
            · exact .inl (.inl h)
            · exact .inl (.inr (List.mem_append_left _ h))
            · exact .inr h
            · exact .inl (.inr (by simp [h]))
          · rcases List.mem_append.1 hz with hz | hz
            · exact other z _ (hR2 z hz)
            · have : z = y := by simpa using hz
              subst this
              exact put_self
          · by_cases h : z = y
            · subst h
              rw [put_self] at ez
              cases ez
              exact Nat.le_refl _
            · rw [put_ne h] at ez
              exact hle2 z k0 ez
          · rw [List.length_append, List.length_singleton]
            omega
          · refine (all_take hy _).2 ⟨fun z hz => ?_, t + 1, put_self, Nat.le_refl _⟩
            obtain ⟨k0, e0, l0⟩ := hall z hz
            exact ⟨k0, other z _ e0, l0⟩
      · rintro σ H7 ⟨g2, kvs2, R2, o7, rfl, s7, hd7, hl7, hr7, df2, ri2, hLt2, hR2, hle2, hc2, hall⟩
        rw [lenI] at hall
        exact ⟨g2, kvs2, R2, _, _, rfl, s7, hd7, hl7, hr7, df2, ri2.close (hLt2 x (List.mem_of_getElem? hx)) ((all_full _).1 hall), hLt2, hR2, hle2, hc2⟩
    · rintro σ H6 ⟨g1, kvs1, R1, o6, o7, rfl, s6, hd6, hl6, hr6, df1, ri1, hLt1, hR1, hle1, hc1⟩
      rw [lenI, List.drop_length] at ri1
      have c0 := cnt_le g1 W.length
      refine ⟨_, rfl, _, ?_, g1, kvs1, R1, l5, t + 1, _, _, _, rfl, s6, hd6, hr6, df1, ri1.mono fun x h => h.elim (fun z => (nomatch z)) id, hR1, hle1, rfl⟩
      by_cases hR : R1 = []
      · rw [if_pos hR]
        omega
      · rw [if_neg hR]
        have := List.length_pos_iff.2 hR
        omega
/-! ### steps, steps_behind -/
def spSteps : Sp := fun vs H Q _ => ∃ (v : V) (W : Web) (a b : Int), vs = [v, .int a, .int b] ∧ WA H v W ∧ Ok W ∧ InW W a ∧ InW W b ∧ ∀ (H' : Hp) (g : Int → Option Nat), Same H H' → IsD W (fun _ => 1) a g → Q (ON (g b)) H'
theorem sc30 : FnScope ["web", "one", "other"] ["web", "one", "other"] (defScope (top 30)) := ⟨rfl, rfl, rfl, by decide +kernel, rfl, by decide +kernel, by decide +kernel⟩
theorem ok_steps (F : Fun K "steps" "steps" (top 30) f fd) (T : Bt mg) (CW : Cl P w K mg base 3 "need_web" ["web"] spNeedWeb) (CN : Cl P w K mg base 3 "need_person" ["web", "person"] spPerson) (CS : Cl P w K mg base 1 "steps_from" ["web", "person"] spStepsFrom) : FnOk P w K mg base CX0 4 f fd ["web", "one", "other"] spSteps := by
  refine F.ok sc30 (fun vs H Q E h => ?_) (fun cdv A outer s H vs Q E hr h => ?_)
  · obtain ⟨v, W, a, b, rfl, _⟩ := h; rfl
  · obtain ⟨v, W, a, b, rfl, hw, ok, ia, ib, k⟩ := h
    refine ⟨_, pss_cons (ps_expr (pe_cl CW hr (pa_cons (pv 0) pa_nil))) (pss_cons (ps_expr (pe_cl CN hr (pa_cons (pv 0) (pa_cons (pv 1) pa_nil)))) (pss_cons (ps_expr (pe_cl CN hr (pa_cons (pv 0) (pa_cons (pv 2) pa_nil))))
      (pss_one (ps_ret (pe_dget1 (hu_of hr) (pe_cl CS (hr.mono (by decide)) (pa_cons (pv 0) (pa_cons (pv 1) pa_nil))) (pv 2) (by constructor <;> rfl)))))), ?_⟩
    refine ⟨_, rfl, v, W, rfl, hw, ok, fun H1 s1 => ?_⟩
    have hw1 := hw.tp (sTp s1)
    refine ⟨_, rfl, _, rfl, v, W, a, rfl, hw1, ia, ?_⟩
    refine ⟨_, rfl, _, rfl, v, W, b, rfl, hw1, ib, ?_⟩
    refine ⟨_, rfl, _, rfl, v, W, a, rfl, hw1, ok, ia, fun d H2 kvs g s2 hd hv hg => ?_⟩
    refine ⟨d, rfl, .inl ⟨_, .inl hd⟩, _, rfl, _, DGet.k (k := .inl b) hd, ?_⟩
    rw [hv b]
    exact k _ g (s1.trans s2) hg
def spBehind : Sp := fun vs H Q _ => ∃ (v u : V) (W : Web) (c : List Int) (a b : Int), vs = [v, u, .int a, .int b] ∧ WA H v W ∧ Ok W ∧ IL H u c ∧ Set8 W c ∧ InW W a ∧ InW W b ∧ ∀ (H' : Hp) (T : Web) (g : Int → Option Nat), Same H H' → Told W c T → IsD T (fun _ => 1) a g → Q (ON (g b)) H'
theorem sc31 : FnScope ["web", "called", "one", "other"] ["web", "called", "one", "other"] (defScope (top 31)) := ⟨rfl, rfl, rfl, by decide +kernel, rfl, by decide +kernel, by decide +kernel⟩
theorem ok_steps_behind (F : Fun K "steps_behind" "steps_behind" (top 31) f fd) (T : Bt mg) (CW : Cl P w K mg base 3 "need_web" ["web"] spNeedWeb) (CP : Cl P w K mg base 3 "need_people" ["web", "people"] spPeople) (CN : Cl P w K mg base 3 "need_person" ["web", "person"] spPerson) (CT : Cl P w K mg base 2 "told_in" ["web", "called"] spToldIn)
    (CS : Cl P w K mg base 1 "steps_from" ["web", "person"] spStepsFrom) : FnOk P w K mg base CX0 4 f fd ["web", "called", "one", "other"] spBehind := by
  refine F.ok sc31 (fun vs H Q E h => ?_) (fun cdv A outer s H vs Q E hr h => ?_)
  · obtain ⟨v, u, W, c, a, b, rfl, _⟩ := h; rfl
  · obtain ⟨v, u, W, c, a, b, rfl, hw, ok, hc, h8, ia, ib, k⟩ := h
    refine ⟨_, pss_cons (ps_expr (pe_cl CW hr (pa_cons (pv 0) pa_nil))) (pss_cons (ps_expr (pe_cl CP hr (pa_cons (pv 0) (pa_cons (pv 1) pa_nil)))) (pss_cons (ps_expr (pe_cl CN hr (pa_cons (pv 0) (pa_cons (pv 2) pa_nil)))) (pss_cons (ps_expr (pe_cl CN hr (pa_cons (pv 0) (pa_cons (pv 3) pa_nil))))
      (pss_one (ps_ret (pe_dget1 (hu_of hr) (pe_cl CS (hr.mono (by decide)) (pa_cons (pe_cl CT (hr.mono (by decide)) (pa_cons (pv 0) (pa_cons (pv 1) pa_nil))) (pa_cons (pv 2) pa_nil))) (pv 3) (by constructor <;> rfl))))))), ?_⟩
    refine ⟨_, rfl, v, W, rfl, hw, ok, fun H1 s1 => ?_⟩
    refine ⟨_, rfl, _, rfl, v, u, W, c, rfl, hw.tp (sTp s1), ok.hi, hc.tp (sTp s1), h8, fun H2 s2 => ?_⟩
    have hw2 := hw.tp (sTp (s1.trans s2))
    have hc2 := hc.tp (sTp (s1.trans s2))
    refine ⟨_, rfl, _, rfl, v, W, a, rfl, hw2, ia, ?_⟩
    refine ⟨_, rfl, _, rfl, v, W, b, rfl, hw2, ib, ?_⟩
    refine ⟨_, rfl, _, rfl, v, u, W, c, rfl, hw2, ok, hc2, fun x H3 T s3 wt told => ?_⟩
    have ia' : InW T a := by unfold InW; rw [told.len]; exact ia
    refine ⟨_, rfl, x, T, a, rfl, wt, told.ok ok, ia', fun d H4 kvs g s4 hd hv hg => ?_⟩
    refine ⟨d, rfl, .inl ⟨_, .inl hd⟩, _, rfl, _, DGet.k (k := .inl b) hd, ?_⟩
    rw [hv b]
    exact k _ T g (((s1.trans s2).trans s3).trans s4) told hg
end
end K75
namespace K75
open PySem L2
theorem PEimp {X : Cx} {e : Expr} {t t' : TE} (h : PE X e t) (f : ∀ σ H Q, t' σ H Q → t σ H Q) : PE X e t' := ⟨fun pins s σ H Q I hq => h.run pins s σ H Q I (f _ _ _ hq)⟩
theorem PTimp {X : Cx} {e : Expr} {t t' : TT} (h : PT X e t) (f : ∀ σ H Q, t' σ H Q → t σ H Q) : PT X e t' := ⟨fun pins s σ H Q I hq => h.run pins s σ H Q I (f _ _ _ hq)⟩
/-- here != one and here not in called -/
def tWeigh : TE := fun σ H Q => ∃ (i j : Int) (cw : Addr) (c : List Int), σ[7]? = some (some (.int i)) ∧ σ[2]? = some (some (.int j)) ∧ σ[1]? = some (some (.ref cw)) ∧ H cw = some (.tup (c.map V.int)) ∧ Q (.bl (decide (i ≠ j ∧ i ∉ c))) H
/-- there not in cost or price < cost[there] -/
def tBetter : TT := fun σ H Q => ∃ (d : Addr) (kvs : List (Key × V)) (y pr : Int) (o : Option Int), σ[9]? = some (some (.int y)) ∧ σ[4]? = some (some (.ref d)) ∧ σ[8]? = some (some (.int pr)) ∧ H d = some (.dK kvs) ∧ valV kvs (.inl y) = o.map V.int ∧ Q (match o with | none => true | some k => decide (pr < k)) H
section
variable {P : Program} {w : World} {K : PySem.W.Frag} {mg : Str → Option Value} {base : Heap} {f : Addr} {fd : FuncData}
def spFewest : Sp := fun vs H Q _ => ∃ (v u : V) (W : Web) (c : List Int) (a b : Int), vs = [v, u, .int a, .int b] ∧ WA H v W ∧ Ok W ∧ IL H u c ∧ Set8 W c ∧ InW W a ∧ InW W b ∧ ∀ (H' : Hp) (g : Int → Option Nat), Same H H' → IsD W (wF a c) a g → Q (ON (g b)) H'
abbrev N32 : List Str := ["web", "called", "one", "other", "cost", "last", "fresh", "here", "price", "there"]
theorem sc32 : FnScope N32 ["web", "called", "one", "other"] (defScope (top 32)) := ⟨rfl, rfl, rfl, by decide +kernel, rfl, by decide +kernel, by decide +kernel⟩
theorem ok_fewest (F : Fun K "fewest_uncalled" "fewest_uncalled" (top 32) f fd) (T : Bt mg) (CW : Cl P w K mg base 3 "need_web" ["web"] spNeedWeb) (CP : Cl P w K mg base 3 "need_people" ["web", "people"] spPeople) (CN : Cl P w K mg base 3 "need_person" ["web", "person"] spPerson) : FnOk P w K mg base CX0 4 f fd ["web", "called", "one", "other"] spFewest := by
  refine F.ok sc32 (fun vs H Q E h => ?_) (fun cdv A outer s H vs Q E hr h => ?_)
  · obtain ⟨v, u, W, c, a, b, rfl, _⟩ := h; rfl
  · obtain ⟨v, u, W, c, a, b, rfl, hw, ok, hc, h8, ia, ib, k⟩ := h
    have hu := hu_of hr
    have hW := ok.hi
    have weigh : ∀ (σ : St) (H : Hp) (Q : VK), tWeigh σ H Q → tAndV (tOp rNe (tVar 7) (tVar 2)) (tOp (rIn K true) (tVar 7) (tVar 1)) σ H Q := by
      rintro σ H Q ⟨i, j, cw, c, h7, h2, h1, hc, q⟩
      refine ⟨_, h7, _, h2, rfl, _, rfl, iteBC (fun hne => ?_) (fun he => ?_)⟩
      · have hne : i ≠ j := by simpa using hne
        refine ⟨_, h7, _, h1, cw, _, rfl, .inr (SqT.of hc), rfl, flat_ints _, toBl (Q := Q) ?_ q⟩
        show (!inV (.int i) (c.map V.int)) = _
        rw [inV_ints]
        simp [hne]
      · have he : i = j := by simpa using he
        exact toBl (Q := Q) (by simp [he]) q
    have better : ∀ (σ : St) (H : Hp) (Q : Bool → Hp → Prop), tBetter σ H Q → tOr (tB (tDNotIn (tVar 9) (tVar 4))) (tTest (tOp (rI0 fun i j => V.bl (decide (i < j))) (tVar 8) (tDGet (tVar 4) (tVar 9)))) σ H Q := by
      rintro σ H Q ⟨d, kvs, y, pr, o, h9, h4, h8, hd, hv, q⟩
      refine ⟨_, h9, _, h4, d, _, rfl, DGet.k (k := .inl y) hd, _, rfl, ?_⟩
      cases o with
      | none =>
        rw [hv]
        exact q
      | some k0 =>
        have dg := DGet.k (k := .inl y) hd
        rw [hv] at dg ⊢
        exact ⟨_, h8, _, h4, _, h9, d, _, rfl, dg, _, _, rfl, rfl, _, rfl, q⟩
    refine ⟨_, pss_cons (ps_expr (pe_cl CW hr (pa_cons (pv 0) pa_nil))) (pss_cons (ps_expr (pe_cl CP hr (pa_cons (pv 0) (pa_cons (pv 1) pa_nil)))) (pss_cons (ps_expr (pe_cl CN hr (pa_cons (pv 0) (pa_cons (pv 2) pa_nil)))) (pss_cons (ps_expr (pe_cl CN hr (pa_cons (pv 0) (pa_cons (pv 3) pa_nil))))
      (pss_cons (ps_par (i := 4) (j := 5) rfl sc32.nd rfl rfl (by decide) rfl rfl (pa_cons (pe_disp (pps_cons (pv 2) pe_int pps_nil) (by rfl) (by rfl) (fun z => by cases z) (by decide)) (pa_cons (pe_lst (pa_cons (pv 2) pa_nil)) pa_nil)) (by rfl))
      (pss_cons (ps_while PassesOwn.never (pt_cmpR (op_neD hr.units) (pv 5) (pe_lst pa_nil) (nomark _))
        (pss_cons (ps_set (i := 6) sc32.nd rfl (Or.inl rfl) (pe_lst pa_nil))
        (pss_cons (ps_for PassesOwn.never rfl (pi_list (pv 5)) (pg_name (i := 7) sc32.nd rfl (Or.inl rfl))
          (pss_cons (ps_set (i := 8) sc32.nd rfl (Or.inl rfl) (pe_op op_add (pe_dget hu (pv 4) (pv 7) (fun _ _ => rfl)) (pe_callTy call_int1 (by rfl) T.int (by decide +kernel) (pa_cons (PEimp (t' := tWeigh) (pe_and (pe_cmpR op_ne (pv 7) (pv 2) (nomark _)) (pe_one (pe_cmpR op_notIn_seq (pv 7) (pv 1) (by rfl)))) weigh) pa_nil))))
          (pss_one (ps_for PassesOwn.never rfl (pi_tup (pe_ix ix_tup (pv 0) (pv 7) (fun _ _ => rfl))) (pg_name (i := 9) sc32.nd rfl (Or.inl rfl))
            (pss_one (ps_if (PTimp (t' := tBetter) (PW.pt (pw_or (pt_cmp (pc_dnotin hu (pv 9) (pv 4))) (pw_or1 (pt_cmpR op_lt (pv 8) (pe_dget hu (pv 4) (pv 9) (fun _ _ => rfl)) (nomark _))))) better) (pss_cons (ps_dput hu (pv 4) (pv 9) (pv 8) rfl) (pss_one (ps_expr (pe_app K (pv 6) (pa_cons (pv 9) pa_nil))))) pss_nil))))))
        (pss_one (ps_set (i := 5) sc32.nd rfl (Or.inl rfl) (pv 6))))))
      (pss_one (ps_ret (pe_dget1 hu (pv 4) (pv 3) (by constructor <;> rfl))))))))), ?_⟩
    refine ⟨_, rfl, v, W, rfl, hw, ok, fun H1 s1 => ?_⟩
    refine ⟨_, rfl, _, rfl, v, u, W, c, rfl, hw.tp (sTp s1), ok.hi, hc.tp (sTp s1), h8, fun H2 s2 => ?_⟩
    have s02 := s1.trans s2
    have hw2 := hw.tp (sTp s02)
    have hc2 := hc.tp (sTp s02)
    refine ⟨_, rfl, _, rfl, v, W, a, rfl, hw2, ia, ?_⟩
    refine ⟨_, rfl, _, rfl, v, W, b, rfl, hw2, ib, ?_⟩
    have k2 : ∀ (H' : Hp) (g : Int → Option Nat), Same H2 H' → IsD W (wF a c) a g → Q (ON (g b)) H' := fun H' g s => k H' g (s02.trans s)
    clear hw hc s1 s2 s02 k
    obtain ⟨aw, vs, rfl, ha, hp⟩ := hw2
    obtain ⟨cw, rfl, hb⟩ := hc2
    refine fun d hd => ⟨_, rfl, upd_same, [(.inl a, .int 0)], rfl, (by show 1 ≤ 15; decide), _, rfl, (by show 1 ≤ sizeLine; decide), fun l0 hl0 => ⟨_, _, rfl, ?_⟩⟩
    have hd1 : upd (upd H2 d (.dK [])) d (.dK (mergeK [] [(.inl a, .int 0)])) = upd H2 d (.dK [(.inl a, .int 0)]) := upd_upd
    rw [hd1] at hl0 ⊢
    have s1 : Same H2 (upd H2 d (.dK [(.inl a, .int 0)])) := smNew (Same.refl _) hd
    have ndl : d ≠ l0 := ne_of_none (H := upd H2 d (.dK [(.inl a, .int 0)])) upd_same hl0
    have st2 : ∀ (x : Int) (k : Nat), put (fun _ => none) a 0 x = some k → k + 1 ≤ cnt W.length (put (fun _ => none) a 0) := fun x k e => by
      rw [cnt_one ia.1 ia.2]
      by_cases h : x = a
      · subst h
        rw [put_self] at e
        cases e
        exact Nat.le_refl _
      · rw [put_ne h] at e
        cases e
    have st3 : phi W.length (put (fun _ => none) a 0) ≤ 64 := by
      have h1 := phi_put (f := fun _ => none) (k := 0) ia.1 ia.2 (fun k0 e => by cases e) (fun _ => by decide)
      rw [phi_none] at h1
      omega
    refine ⟨fun m σ H' => ∃ (g : Int → Option Nat) (kvs : List (Key × V)) (L : List Int) (l3 : Addr) (o6 o7 o8 o9 : Option V), σ = [some (.ref aw), some (.ref cw), some (.int a), some (.int b), some (.ref d), some (.ref l3), o6, o7, o8, o9] ∧ Same H2 H' ∧ H' d = some (.dK kvs) ∧ H' l3 = some (.lst (L.map V.int)) ∧
        DF W.length kvs g ∧ RI W (wF a c) a g (fun x => x ∈ L) ∧ (∀ x ∈ L, ∃ k, g x = some k) ∧ (∀ x k, g x = some k → k + 1 ≤ cnt W.length g) ∧ phi W.length g ≤ 64 ∧ m = 2 * phi W.length g + (if L = [] then 0 else 1),
      ⟨_, put (fun _ => none) a 0, _, [a], l0, none, none, none, none, rfl, smNew s1 hl0, by rw [upd_ne ndl]; exact upd_same, upd_same, DF.one ia.1 ia.2, (RI.start ia).mono fun x h => by simp [h], fun x hx => by
        have : x = a := by simpa using hx
        exact ⟨0, this ▸ put_self⟩, st2, st3, rfl⟩, ?_⟩
    rintro m σ H3 ⟨g0, kvs0, L, l3, o6, o7, o8, o9, rfl, s3, hdk, hL, df, ri, hLt, hle, hph, rfl⟩
    refine ⟨_, rfl, Nat.zero_le _, fun l9 h9 => ?_⟩
    have s39 : Same H3 (upd H3 l9 (.lst [])) := smNew (Same.refl _) h9
    have hL9 := s39 _ _ hL
    have hd9 := s39 _ _ hdk
    have sm := s3.trans s39
    refine ⟨.list (L.map .int), .list [], .lst (SqL.of hL9) (dpInts _), .lst (SqL.of upd_same) .nil, shapedInts _, shapedInts [], _, rfl, ?_⟩
    have e := bne_list L []
    generalize upd H3 l9 (.lst []) = H4 at hL9 hd9 sm
    refine iteBC (fun hne => ?_) (fun hnil => ?_)
    rotate_left
    · have hnil : L = [] := by
        rw [show PyData.eqv (.list (L.map .int)) (.list []) = decide (L = []) from e] at hnil
        simpa using hnil
      subst hnil
      refine ⟨_, rfl, d, rfl, .inl ⟨_, .inl hd9⟩, _, rfl, _, DGet.k (k := .inl b) hd9, ?_⟩
      rw [df.val b]
      exact k2 _ g0 sm (ri.mono fun x h => (nomatch h)).isD
    have hne : L ≠ [] := by
      rw [show PyData.eqv (.list (L.map .int)) (.list []) = decide (L = []) from e] at hne
      intro z
      rw [z] at hne
      cases hne
    rw [if_neg hne]
    refine ⟨fun σ' H' => ∃ m', m' < 2 * phi W.length g0 + 1 ∧ _, fun _ _ h => h, ?_⟩
    refine ⟨Nat.zero_le _, fun l5 h5 => ?_⟩
    have s5 : Same H4 (upd H4 l5 (.lst [])) := smNew (Same.refl _) h5
    have z5 : H2 l5 = none := sm.free h5
    refine ⟨_, rfl, l3, rfl, ⟨_, SqL.of (s5 _ _ hL9)⟩, ?_⟩
    have n53 : l3 ≠ l5 := ne_of_none hL9 h5
    have n5d : d ≠ l5 := ne_of_none hd9 h5
    have nd3 : l3 ≠ d := ne_of hL9 hd9 (fun z => nomatch z)
    refine for_list (K := K) (a := l3) (xs := L.map V.int) (fun i σ H' => ∃ (g : Int → Option Nat) (kvs : List (Key × V)) (R : List Int) (o7 o8 o9 : Option V), σ = [some (.ref aw), some (.ref cw), some (.int a), some (.int b), some (.ref d), some (.ref l3), some (.ref l5), o7, o8, o9] ∧ Same H2 H' ∧ H' d = some (.dK kvs) ∧ H' l3 = some (.lst (L.map V.int)) ∧ H' l5 = some (.lst (R.map V.int)) ∧
        DF W.length kvs g ∧ RI W (wF a c) a g (fun x => x ∈ L.drop i ∨ x ∈ R) ∧ (∀ x ∈ L, ∃ k, g x = some k) ∧ (∀ x ∈ R, ∃ k, g x = some k) ∧ (∀ x k, g x = some k → k + 1 ≤ cnt W.length g) ∧ R.length + phi W.length g ≤ phi W.length g0)
      ⟨g0, kvs0, [], _, _, _, rfl, sm.trans s5, s5 _ _ hd9, s5 _ _ hL9, upd_same, df, ri.mono fun x h => .inl h, hLt, fun x h => (nomatch h), hle, by simp⟩ (fun i σ H' _ ⟨_, _, _, _, _, _, _, _, _, h, _⟩ => SqL.of h) ?_ ?_
    · rintro i x0 σ H6 hx0 ⟨g1, kvs1, R1, o7, o8, o9, rfl, s6, hd6, hl6, hr6, df1, ri1, hLt1, hR1, hle1, hc1⟩
      obtain ⟨x, hx, rfl⟩ := get_int hx0
      obtain ⟨kx, gx⟩ := hLt1 x (List.mem_of_getElem? hx)
      have ix := ri1.inw x _ gx
      obtain ⟨q, hq1, hq2⟩ := wa_at hp ix
      have px := ri1.sound x _ gx
      have bx := hle1 x _ gx
      have w1 : wF a c x ≤ 1 := by unfold wF; split <;> omega
      refine ⟨_, rfl, _, rfl, d, _, rfl, (by have := DGet.k (k := .inl x) hd6; rw [df1.get gx] at this; exact this), ?_⟩
      refine ⟨x, a, cw, c, rfl, rfl, rfl, s6 _ _ hb, .inr ⟨_, rfl, _, _, rfl, rfl, ?_⟩⟩
      have epr : ((kx : Int) + (if decide (x ≠ a ∧ x ∉ c) = true then 1 else 0)) = ((kx + wF a c x : Nat) : Int) := by
        unfold wF
        by_cases hh : x ≠ a ∧ x ∉ c
        · rw [if_pos hh, if_pos (by simpa using hh)]
          omega
        · rw [if_neg hh, if_neg (by simpa using hh)]
          omega
      refine ⟨_, rfl, _, rfl, aw, vs, x, _, rfl, rfl, SqT.of (s6 _ _ ha), atI_int ix.1 hq1, q, rfl, ⟨_, SqT.of (s6 _ _ hq2)⟩, ?_⟩
      generalize hpr : kx + wF a c x = pr
      have nxx : ∀ y ∈ adj W x, x ≠ y := fun y hy z => (ok.inn _ ix y hy).2 z.symm
      refine for_tup (K := K) (a := q) (xs := (adj W x).map V.int) (fun j σ H' => ∃ (g : Int → Option Nat) (kvs : List (Key × V)) (R : List Int) (o9 : Option V), σ = [some (.ref aw), some (.ref cw), some (.int a), some (.int b), some (.ref d), some (.ref l3), some (.ref l5), some (.int x), some (.int ((pr : Nat) : Int)), o9] ∧ Same H2 H' ∧ H' d = some (.dK kvs) ∧ H' l3 = some (.lst (L.map V.int)) ∧ H' l5 = some (.lst (R.map V.int)) ∧
          DF W.length kvs g ∧ RI W (wF a c) a g (fun y => (y ∈ L.drop (i + 1) ∨ y ∈ R) ∨ y = x) ∧ (∀ x ∈ L, ∃ k, g x = some k) ∧ (∀ x ∈ R, ∃ k, g x = some k) ∧ (∀ x k, g x = some k → k + 1 ≤ cnt W.length g) ∧ R.length + phi W.length g ≤ phi W.length g0 ∧ g x = some kx ∧ ∀ y ∈ (adj W x).take j, ∃ k', g y = some k' ∧ k' ≤ pr)
        ⟨g1, kvs1, R1, o9, by rw [← hpr, ← epr]; rfl, s6, hd6, hl6, hr6, df1, ri1.mono fun y h => ?_, hLt1, hR1, hle1, hc1, gx, fun y h => (nomatch h)⟩ (fun j σ H' _ ⟨_, _, _, _, _, s, _⟩ => SqT.of (s _ _ hq2)) ?_ ?_
      · rw [drop_at hx] at h
        rcases h with h | h
        · rcases List.mem_cons.1 h with h | h
          · exact .inr h
          · exact .inl (.inl h)
        · exact .inl (.inr h)
      · rintro j y0 σ H7 hy0 ⟨g2, kvs2, R2, o9, rfl, s7, hd7, hl7, hr7, df2, ri2, hLt2, hR2, hle2, hc2, gx2, hall⟩
        obtain ⟨y, hy, rfl⟩ := get_int hy0
        have my := List.mem_of_getElem? hy
        have iy := (ok.inn _ ix y my).1
        refine ⟨d, _, y, ((pr : Nat) : Int), (g2 y).map fun k => ((k : Nat) : Int), rfl, rfl, rfl, hd7, ?_, ?_⟩
        · rw [df2.val y]
          cases g2 y <;> rfl
        have dec : (match (g2 y).map (fun k => ((k : Nat) : Int)) with | none => true | some k => decide (((pr : Nat) : Int) < k)) = decide (∀ k0, g2 y = some k0 → pr < k0) := by
          cases e0 : g2 y with
          | none => simp
          | some k0 => simp
        show (if (match (g2 y).map (fun k => ((k : Nat) : Int)) with | none => true | some k => decide (((pr : Nat) : Int) < k)) = true then _ else _)
        rw [dec]
        refine iteBC (fun hlt => ?_) (fun hge => ?_)
        · have hlt : ∀ k0, g2 y = some k0 → pr < k0 := of_decide_eq_true hlt
          have pcy : Pc W (wF a c) a y pr := hpr ▸ Pc.step px my
          have bpr : pr ≤ cnt W.length g2 := by
            have := hle2 x kx gx2
            omega
          have cle2 := cnt_le g2 W.length
          have cle3 := cnt_le (put g2 y pr) W.length
          have php := phi_put (k := pr) iy.1 iy.2 hlt (fun e0 => by
            have := cnt_new (k := pr) iy.1 iy.2 e0
            omega)
          have cmono : cnt W.length g2 ≤ cnt W.length (put g2 y pr) ∧ pr + 1 ≤ cnt W.length (put g2 y pr) := by
            cases e0 : g2 y with
            | none =>
              have := cnt_new (k := pr) iy.1 iy.2 e0
              omega
            | some k0 =>
              have h1 := cnt_old (k := pr) iy.1 iy.2 e0
              have h2 := hle2 y k0 e0
              have h3 := hlt k0 e0
              omega
          have hlen := df2.len
          refine ⟨_, rfl, _, rfl, _, rfl, d, _, rfl, DPut.k (k := .inl y) hd7 (lt64 (by omega)), ?_⟩
          have nr : l5 ≠ d := n5d.symm
          have hr8 : upd H7 d (.dK (putK kvs2 (.inl y) (.int ((pr : Nat) : Int)))) l5 = some (.lst (R2.map V.int)) := by rw [upd_ne nr]; exact hr7
          refine ⟨_, rfl, .inl ⟨rfl, _, SqL.of hr8⟩, _, rfl, l5, _, _, rfl, rfl, hr8, by rw [lenI]; exact lt64 (by omega), ?_⟩
          have other : ∀ z, (∃ k, g2 z = some k) → ∃ k, put g2 y pr z = some k := fun z ⟨k0, ez⟩ => by
            by_cases hz : z = y
            · exact ⟨pr, hz ▸ put_self⟩
            · exact ⟨k0, by rw [put_ne hz]; exact ez⟩
          refine ⟨put g2 y pr, _, R2 ++ [y], _, rfl, smUpd (smUpd s7 hd) z5, by rw [upd_ne n5d]; exact upd_same, by rw [upd_ne n53, upd_ne nd3]; exact hl7, by rw [upd_same, List.map_append]; rfl, df2.put iy.1 iy.2, ?_, fun z hz => other z (hLt2 z hz), fun z hz => ?_, fun z k0 ez => ?_, ?_, ?_, ?_⟩
          · refine (ri2.put pcy iy hlt).mono fun z h => ?_
            rcases h with ((h | h) | h) | h
            · exact .inl (.inl h)
            · exact .inl (.inr (List.mem_append_left _ h))
            · exact .inr h
            · exact .inl (.inr (by simp [h]))
          · rcases List.mem_append.1 hz with hz | hz
            · exact other z (hR2 z hz)
            · have : z = y := by simpa using hz
              subst this
              exact ⟨pr, put_self⟩
          · by_cases h : z = y
            · subst h
              rw [put_self] at ez
              cases ez
              exact cmono.2
            · rw [put_ne h] at ez
              have := hle2 z k0 ez
              omega
          · rw [List.length_append, List.length_singleton]
            omega
          · rw [put_ne (nxx y my)]
            exact gx2
          · refine (all_take hy _).2 ⟨fun z hz => ?_, pr, put_self, Nat.le_refl _⟩
            obtain ⟨k0, e0, l0⟩ := hall z hz
            by_cases h : z = y
            · exact ⟨pr, h ▸ put_self, Nat.le_refl _⟩
            · exact ⟨k0, by rw [put_ne h]; exact e0, l0⟩
        · have hge : ¬ ∀ k0, g2 y = some k0 → pr < k0 := of_decide_eq_false hge
          refine ⟨g2, kvs2, R2, _, rfl, s7, hd7, hl7, hr7, df2, ri2, hLt2, hR2, hle2, hc2, gx2, (all_take hy _).2 ⟨hall, ?_⟩⟩
          cases e0 : g2 y with
          | none => exact absurd (fun k0 e1 => by rw [e0] at e1; cases e1) hge
          | some k0 =>
            refine ⟨k0, rfl, ?_⟩
            refine Nat.le_of_not_lt fun z => hge fun k1 e1 => ?_
            rw [e0] at e1
            cases e1
            exact z
      · rintro σ H7 ⟨g2, kvs2, R2, o9, rfl, s7, hd7, hl7, hr7, df2, ri2, hLt2, hR2, hle2, hc2, gx2, hall⟩
        rw [lenI] at hall
        exact ⟨g2, kvs2, R2, _, _, _, rfl, s7, hd7, hl7, hr7, df2, ri2.close gx2 (by rw [hpr]; exact (all_full _).1 hall), hLt2, hR2, hle2, hc2⟩
    · rintro σ H6 ⟨g1, kvs1, R1, o7, o8, o9, rfl, s6, hd6, hl6, hr6, df1, ri1, hLt1, hR1, hle1, hc1⟩
      rw [lenI, List.drop_length] at ri1
      refine ⟨_, rfl, _, ?_, g1, kvs1, R1, l5, _, _, _, _, rfl, s6, hd6, hr6, df1, ri1.mono fun x h => h.elim (fun z => (nomatch z)) id, hR1, hle1, by omega, rfl⟩
      by_cases hR : R1 = []
      · rw [if_pos hR]
        omega
      · rw [if_neg hR]
        have := List.length_pos_iff.2 hR
        omega
end
end K75
namespace K75
open PySem L2
/-- the law's row: the script, three numbers -/
def RW (H : Hp) (r sc : Addr) : Prop := ∃ (i s y : Int), H r = some (.lst [.ref sc, .int i, .int s, .int y]) ∧ 0 ≤ i ∧ 0 ≤ s ∧ s < 2147483647
/-- all stands as it stood but what is at r -/
def But (r : Addr) (H H' : Hp) : Prop := ∀ b, b ≠ r → H' b = H b
theorem But.refl {r : Addr} {H : Hp} : But r H H := fun _ _ => rfl
theorem But.trans {r : Addr} {H H1 H2 : Hp} (a : But r H H1) (b : But r H1 H2) : But r H H2 := fun x h => (b x h).trans (a x h)
theorem But.upd {r : Addr} {H H1 : Hp} {o : HO} (a : But r H H1) : But r H (L2.upd H1 r o) := fun x h => (upd_ne h).trans (a x h)
/-- what was tracked stands but r -/
def Sm (r : Addr) (H H' : Hp) : Prop := ∀ b o, b ≠ r → H b = some o → H' b = some o
theorem Sm.refl {r : Addr} {H : Hp} : Sm r H H := fun _ _ _ h => h
theorem Sm.trans {r : Addr} {H H1 H2 : Hp} (a : Sm r H H1) (b : Sm r H1 H2) : Sm r H H2 := fun x o n h => b x o n (a x o n h)
theorem But.sm {r : Addr} {H H' : Hp} (h : But r H H') : Sm r H H' := fun b o n e => (h b n).trans e
theorem sSm {r : Addr} {H H' : Hp} (h : Same H H') : Sm r H H' := fun b o _ e => h b o e
theorem RW.lst {H : Hp} {r sc : Addr} (h : RW H r sc) : ∃ xs, H r = some (.lst (.ref sc :: xs)) := by
  obtain ⟨i, z, y, hr, _⟩ := h
  exact ⟨_, hr⟩
theorem RW.tp {H H' : Hp} {r sc : Addr} (h : RW H r sc) (s : Sm r H H') : Tp H H' := fun a xs e => by
  obtain ⟨ys, hr⟩ := h.lst
  exact s a _ (ne_of e hr (fun q => nomatch q)) e
theorem RW.same {H H' : Hp} {r sc : Addr} (h : RW H r sc) (s : Same H H') : RW H' r sc := by
  obtain ⟨i, z, y, hr, q⟩ := h
  exact ⟨i, z, y, s _ _ hr, q⟩
theorem RW.upd {H : Hp} {r sc p : Addr} {o : HO} (h : RW H r sc) (n : r ≠ p) : RW (upd H p o) r sc := by
  obtain ⟨i, z, y, hr, q⟩ := h
  exact ⟨i, z, y, by rw [upd_ne n]; exact hr, q⟩
theorem smU {r p : Addr} {H H' : Hp} {o : HO} (s : Sm r H H') (h : H p = none) : Sm r H (L2.upd H' p o) := fun b u n e => by
  rw [upd_ne (ne_of_none e h)]
  exact s b u n e
theorem sqSm {K : PySem.W.Frag} {H H' : Hp} {r sc : Addr} {ns : List Int} {xs : List V} (hr : H r = some (.lst (.ref sc :: xs))) (hs : SqL K H sc (ns.map V.int)) (s : Sm r H H') : SqL K H' sc (ns.map V.int) := by
  rcases hs with (h | ⟨o, h⟩) | h
  · refine .inl (.inl (s _ _ ?_ h))
    rintro rfl
    rw [h] at hr
    have := HO.lst.inj (Option.some.inj hr)
    cases ns with
    | nil => cases this
    | cons n ns => cases this
  · refine .inl (.inr ⟨o, s _ _ ?_ h⟩)
    rintro rfl
    rw [h] at hr
    cases hr
  · exact .inr h
theorem RW.sq {K : PySem.W.Frag} {H H' : Hp} {r sc : Addr} {ns : List Int} (h : RW H r sc) (hs : SqL K H sc (ns.map V.int)) (s : Sm r H H') : SqL K H' sc (ns.map V.int) := by
  obtain ⟨xs, hr⟩ := h.lst
  exact sqSm hr hs s
theorem RW.ne {H : Hp} {r sc p : Addr} (h : RW H r sc) (hp : H p = none) : r ≠ p := by
  obtain ⟨xs, hr⟩ := h.lst
  exact ne_of_none hr hp
section
variable {X : Cx} (K : PySem.W.Frag)
theorem crSortK (h : X.K = K := by rfl) : CallR X (.builtin "sorted") (rSorted K) := h ▸ cr_sorted
theorem catA (h : X.K = K := by rfl) : OpR X (binaryOp .Add) (rCatA K) := h ▸ op_catA
end
section
variable {P : Program} {w : World} {K : PySem.W.Frag} {mg : Str → Option Value} {base : Heap} {f : Addr} {fd : FuncData}
/-! ### _law_taken, _law_pick -/
def spTaken (K : PySem.W.Frag) : Sp := fun vs H Q _ => ∃ (r : Addr) (m : Int) (sc : Addr) (ns : List Int), vs = [.ref r, .int m] ∧ RW H r sc ∧ SqL K H sc (ns.map V.int) ∧ 0 < m ∧ m < 1000 ∧ ∀ (t : Int) (H' : Hp), 0 ≤ t → t < m → But r H H' → RW H' r sc → Q (.int t) H'
abbrev N34 : List Str := ["_law_row", "_law_many", "_law_found", "_law_cell"]
theorem sc34 : FnScope N34 ["_law_row", "_law_many"] (defScope (top 34)) := ⟨rfl, rfl, rfl, by decide +kernel, rfl, by decide +kernel, by decide +kernel⟩
theorem ok_taken (F : Fun K "_law_taken" "_law_taken" (top 34) f fd) (T : Bt mg) : FnOk P w K mg base CX0 1 f fd ["_law_row", "_law_many"] (spTaken K) := by
  refine F.ok sc34 (fun vs H Q E h => ?_) (fun cdv A outer s H vs Q E hr h => ?_)
  · obtain ⟨r, m, sc, ns, rfl, _⟩ := h; rfl
  · obtain ⟨r, m, sc, ns, rfl, ⟨i, z, y, hR, i0, z0, z1⟩, hS, m0, m1, k⟩ := h
    refine ⟨_, pss_cons (ps_if (pt_cmpR op_gt (pe_ix ix_list (pv 0) pe_int (fun _ _ => rfl)) pe_int (nomark _))
        (pss_cons (ps_set (i := 2) sc34.nd rfl (Or.inl rfl) (pe_op op_mod (pe_callTy call_int1 (by rfl) T.int (by decide +kernel) (pa_cons (pe_ix ix_list (pv 0) pe_int (fun _ _ => rfl)) pa_nil)) (pv 1)))
        (pss_cons (ps_asg (pe_op op_fdiv (pe_ix ix_list (pv 0) pe_int (fun _ _ => rfl)) (pv 1)) (pg_sub (pv 0) pe_int set_list)) (pss_one (ps_ret (pv 2))))) pss_nil)
      (pss_cons (ps_asg (pe_op op_add (pe_ix ix_list (pv 0) pe_int (fun _ _ => rfl)) pe_int) (pg_sub (pv 0) pe_int set_list))
      (pss_cons (ps_if (pt_cmpR op_gt (pe_ix ix_list (pv 0) pe_int (fun _ _ => rfl)) (pe_callB call_len_seq (by rfl) T.len PySem.boot_len (pa_cons (pe_ix ix_list (pv 0) pe_int (fun _ _ => rfl)) pa_nil)) (nomark _))
        (pss_cons (ps_asg (pe_op op_mod (pe_callTy call_int1 (by rfl) T.int (by decide +kernel) (pa_cons (pe_op op_add (pe_op op_mul (pe_ix ix_list (pv 0) pe_int (fun _ _ => rfl)) pe_int) pe_int) pa_nil)) pe_int) (pg_sub (pv 0) pe_int set_list))
        (pss_one (ps_ret (pe_op op_mod (pe_callTy call_int1 (by rfl) T.int (by decide +kernel) (pa_cons (pe_op op_fdiv (pe_ix ix_list (pv 0) pe_int (fun _ _ => rfl)) pe_int) pa_nil)) (pv 1))))) pss_nil)
      (pss_cons (ps_set (i := 3) sc34.nd rfl (Or.inl rfl) (pe_ix ix_list (pe_ix ix_list (pv 0) pe_int (fun _ _ => rfl)) (pe_op op_sub (pe_ix ix_list (pv 0) pe_int (fun _ _ => rfl)) pe_int) (fun _ _ => rfl)))
      (pss_cons (ps_asg (pe_op op_mod (pe_callTy call_int1 (by rfl) T.int (by decide +kernel) (pa_cons (pe_op op_add (pe_op op_add (pe_op op_mul (pe_ix ix_list (pv 0) pe_int (fun _ _ => rfl)) pe_int) (pv 3)) pe_int) pa_nil)) pe_int) (pg_sub (pv 0) pe_int set_list))
      (pss_cons (ps_if (pt_cmpR op_ge (pv 3) (pe_op op_pow pe_int pe_int) (nomark _)) (pss_one (ps_asg (pe_op op_fdiv (pv 3) (pv 1)) (pg_sub (pv 0) pe_int set_list))) pss_nil)
      (pss_one (ps_ret (pe_op op_mod (pe_callTy call_int1 (by rfl) T.int (by decide +kernel) (pa_cons (pv 3) pa_nil)) (pv 1))))))))), ?_⟩
    have mb : ∀ x : Int, 0 ≤ x % m ∧ x % m < m := fun x => ⟨Int.emod_nonneg x (by omega), Int.emod_lt_of_pos x m0⟩
    have kb : ∀ x : Int, 0 ≤ x % 2147483647 ∧ x % 2147483647 < 2147483647 := fun x => ⟨Int.emod_nonneg x (by omega), Int.emod_lt_of_pos x (by omega)⟩
    refine ⟨_, rfl, r, _, _, _, rfl, rfl, SqL.of hR, rfl, _, _, rfl, rfl, _, rfl, iteBC (fun hp => ?_) (fun hp => ?_)⟩
    · refine ⟨_, rfl, r, _, _, _, rfl, rfl, SqL.of hR, rfl, .inl ⟨_, rfl, _, rfl, _, _, rfl, rfl, m0, ?_⟩⟩
      refine ⟨_, rfl, r, _, _, _, rfl, rfl, SqL.of hR, rfl, _, rfl, _, _, rfl, rfl, ⟨m0, by omega⟩, ?_⟩
      refine ⟨_, rfl, r, _, _, _, rfl, rfl, hR, rfl, _, rfl, ?_⟩
      exact k _ _ (mb y).1 (mb y).2 (But.upd But.refl) ⟨i, z, _, upd_same, i0, z0, z1⟩
    · refine ⟨_, rfl, r, _, _, _, rfl, rfl, SqL.of hR, rfl, _, _, rfl, rfl, ?_⟩
      refine ⟨_, rfl, r, _, _, _, rfl, rfl, hR, rfl, ?_⟩
      have b1 : But r H (upd H r (.lst ([.ref sc, .int (i + 1), .int z, .int y]))) := But.upd But.refl
      have hS1 := sqSm hR hS b1.sm
      have hR1 : upd H r (.lst ([.ref sc, .int (i + 1), .int z, .int y])) r = some (.lst [.ref sc, .int (i + 1), .int z, .int y]) := upd_same
      refine ⟨_, rfl, r, _, _, _, rfl, rfl, SqL.of hR1, rfl, _, rfl, r, _, _, _, rfl, rfl, SqL.of hR1, rfl, sc, _, rfl, .inl hS1, _, _, rfl, rfl, _, rfl, iteBC (fun hl => ?_) (fun hl => ?_)⟩
      · refine ⟨_, rfl, r, _, _, _, rfl, rfl, SqL.of hR1, rfl, _, _, rfl, rfl, .inl ⟨by omega, by omega⟩, _, _, rfl, rfl, .inl ⟨_, rfl, _, _, rfl, rfl, (by show (0 : Int) < 2147483647; decide), ?_⟩⟩
        refine ⟨_, rfl, r, _, _, _, rfl, rfl, hR1, rfl, ?_⟩
        have b2 : But r H (upd (upd H r (.lst [.ref sc, .int (i + 1), .int z, .int y])) r (.lst ([.ref sc, .int (i + 1), .int ((z * 48271 + 11) % 2147483647), .int y]))) := But.upd b1
        have hS2 := sqSm hR hS b2.sm
        have hR2 : upd (upd H r (.lst [.ref sc, .int (i + 1), .int z, .int y])) r (.lst ([.ref sc, .int (i + 1), .int ((z * 48271 + 11) % 2147483647), .int y])) r = some (.lst [.ref sc, .int (i + 1), .int ((z * 48271 + 11) % 2147483647), .int y]) := upd_same
        refine ⟨_, rfl, r, _, _, _, rfl, rfl, SqL.of hR2, rfl, _, _, rfl, rfl, ⟨by decide, by decide⟩, .inl ⟨_, rfl, _, rfl, _, _, rfl, rfl, m0, ?_⟩⟩
        exact k _ _ (mb _).1 (mb _).2 b2 ⟨_, _, _, hR2, by omega, (kb _).1, (kb _).2⟩
      · have hl : ¬ (((ns.map V.int).length : Nat) : Int) < i + 1 := of_decide_eq_false hl
        rw [lenI] at hl
        have hi : i.toNat < ns.length := by omega
        refine ⟨_, rfl, r, _, _, _, rfl, rfl, SqL.of hR1, rfl, _, rfl, r, _, _, _, rfl, rfl, SqL.of hR1, rfl, _, _, rfl, rfl, sc, _, _, V.int ns[i.toNat], rfl, rfl, hS1, ?_, ?_⟩
        · have e1 : i + 1 - 1 = i := by omega
          show atI (ns.map V.int) (i + 1 - 1) = _
          rw [e1]
          exact atI_int i0 (by rw [List.getElem?_map, List.getElem?_eq_getElem hi]; rfl)
        generalize ns[i.toNat] = cell
        refine ⟨_, rfl, r, _, _, _, rfl, rfl, SqL.of hR1, rfl, _, _, rfl, rfl, .inl ⟨by omega, by omega⟩, _, rfl, _, _, rfl, rfl, _, _, rfl, rfl, .inl ⟨_, rfl, _, _, rfl, rfl, (by show (0 : Int) < 2147483647; decide), ?_⟩⟩
        refine ⟨_, rfl, r, _, _, _, rfl, rfl, hR1, rfl, ?_⟩
        have b2 : But r H (upd (upd H r (.lst [.ref sc, .int (i + 1), .int z, .int y])) r (.lst ([.ref sc, .int (i + 1), .int ((z * 48271 + cell + 11) % 2147483647), .int y]))) := But.upd b1
        have hS2 := sqSm hR hS b2.sm
        have hR2 : upd (upd H r (.lst [.ref sc, .int (i + 1), .int z, .int y])) r (.lst ([.ref sc, .int (i + 1), .int ((z * 48271 + cell + 11) % 2147483647), .int y])) r = some (.lst [.ref sc, .int (i + 1), .int ((z * 48271 + cell + 11) % 2147483647), .int y]) := upd_same
        refine ⟨_, rfl, _, _, rfl, rfl, (by refine ⟨?_, ?_, ?_⟩ <;> decide), _, _, rfl, rfl, _, rfl, iteBC (fun hg => ?_) (fun hg => ?_)⟩
        · refine ⟨_, rfl, _, rfl, _, _, rfl, rfl, ⟨m0, by omega⟩, _, rfl, r, _, _, _, rfl, rfl, hR2, rfl, ?_⟩
          refine ⟨_, rfl, .inl ⟨_, rfl, _, rfl, _, _, rfl, rfl, m0, ?_⟩⟩
          exact k _ _ (mb _).1 (mb _).2 (But.upd b2) ⟨_, _, _, upd_same, by omega, (kb _).1, (kb _).2⟩
        · refine ⟨_, rfl, .inl ⟨_, rfl, _, rfl, _, _, rfl, rfl, m0, ?_⟩⟩
          exact k _ _ (mb _).1 (mb _).2 b2 ⟨_, _, _, hR2, by omega, (kb _).1, (kb _).2⟩
def spPick (K : PySem.W.Frag) : Sp := fun vs H Q _ => ∃ (r l : Addr) (vk : List V) (sc : Addr) (ns : List Int), vs = [.ref r, .ref l] ∧ RW H r sc ∧ SqL K H sc (ns.map V.int) ∧ H l = some (.lst vk) ∧ l ≠ r ∧ 0 < vk.length ∧ vk.length < 1000 ∧ ∀ (x : V) (H' : Hp), x ∈ vk → But r H H' → RW H' r sc → Q x H'
theorem sc35 : FnScope ["_law_row", "_law_kinds"] ["_law_row", "_law_kinds"] (defScope (top 35)) := ⟨rfl, rfl, rfl, by decide +kernel, rfl, by decide +kernel, by decide +kernel⟩
theorem ok_pick (F : Fun K "_law_pick" "_law_pick" (top 35) f fd) (T : Bt mg) (CT : Cl P w K mg base 1 "_law_taken" ["_law_row", "_law_many"] (spTaken K)) : FnOk P w K mg base CX0 2 f fd ["_law_row", "_law_kinds"] (spPick K) := by
  refine F.ok sc35 (fun vs H Q E h => ?_) (fun cdv A outer s H vs Q E hr h => ?_)
  · obtain ⟨r, l, vk, sc, ns, rfl, _⟩ := h; rfl
  · obtain ⟨r, l, vk, sc, ns, rfl, hR, hS, hl, nl, l0, l1, k⟩ := h
    refine ⟨_, pss_one (ps_ret (pe_ix ix_list (pv 1) (pe_cl CT hr (pa_cons (pv 0) (pa_cons (pe_callB call_len_seq (by rfl) T.len PySem.boot_len (pa_cons (pv 1) pa_nil)) pa_nil))) (fun _ _ => rfl))), ?_⟩
    refine ⟨_, rfl, _, rfl, _, rfl, l, _, rfl, .inl (SqL.of hl), r, _, sc, ns, rfl, hR, hS, by omega, by omega, fun t H1 t0 t1 b hR1 => ?_⟩
    have ht : t.toNat < vk.length := by omega
    exact ⟨l, vk, t, vk[t.toNat], rfl, rfl, SqL.of ((b l nl).trans hl), atI_int t0 (List.getElem?_eq_getElem ht), k _ _ (List.getElem_mem ht) b hR1⟩
end
end K75
namespace K75
open PySem L2
/-- the dict of some keys, all True -/
def tks (ks : List Int) : List (Key × V) := ks.map fun k => (.inl k, .bl true)
def addK (ks : List Int) (y : Int) : List Int := if y ∈ ks then ks else ks ++ [y]
theorem tks_any (y : Int) : ∀ ks : List Int, ((tks ks).any fun kv => decide (kv.1 = .inl y)) = decide (y ∈ ks)
  | [] => rfl
  | k :: ks => by
    have ih := tks_any y ks
    have e : ((tks (k :: ks)).any fun kv => decide (kv.1 = .inl y)) = (decide ((.inl k : Key) = .inl y) || (tks ks).any fun kv => decide (kv.1 = .inl y)) := rfl
    rw [e, ih]
    by_cases h : k = y
    · subst h
      simp
    · have h1 : decide ((.inl k : Key) = .inl y) = false := decide_eq_false fun z => h (Sum.inl.inj z)
      have h2 : (y ∈ k :: ks) ↔ y ∈ ks := by
        rw [List.mem_cons]
        exact ⟨fun z => z.elim (fun q => absurd q.symm h) id, .inr⟩
      rw [h1, Bool.false_or]
      exact (decide_eq_decide.2 h2).symm
theorem put_tks (ks : List Int) (y : Int) : putK (tks ks) (.inl y) (.bl true) = tks (addK ks y) := by
  unfold putK addK
  rw [tks_any]
  by_cases h : y ∈ ks
  · rw [if_pos (decide_eq_true h), if_pos h]
    unfold tks
    rw [List.map_map]
    refine List.map_congr_left fun k _ => ?_
    show (if (.inl k : Key) = .inl y then ((.inl k : Key), V.bl true) else (.inl k, .bl true)) = _
    split <;> rfl
  · rw [if_neg (by simpa using h), if_neg h]
    unfold tks
    rw [List.map_append]
    rfl
theorem addK_nd {ks : List Int} (h : ks.Nodup) (y : Int) : (addK ks y).Nodup := by
  unfold addK
  split
  · exact h
  · rename_i n
    rw [List.nodup_append]
    exact ⟨h, by simp, fun a ha b hb => by
      have : b = y := by simpa using hb
      subst this
      exact fun e => n (e ▸ ha)⟩
theorem mem_addK {ks : List Int} {x y : Int} : x ∈ addK ks y ↔ x ∈ ks ∨ x = y := by
  unfold addK
  split
  · rename_i h
    exact ⟨.inl, fun z => z.elim id fun e => e ▸ h⟩
  · simp
/-- rows of anything: the list at D, the things at qs -/
structure RowsO (H0 H' : Hp) (D : Addr) (qs : List Addr) (o : Nat → HO) : Prop where
  hD : H' D = some (.lst (qs.map V.ref))
  d0 : H0 D = none
  nd : qs.Nodup
  nD : D ∉ qs
  at_ : ∀ i q, qs[i]? = some q → H' q = some (o i) ∧ H0 q = none
  same : Same H0 H'
theorem RowsO.put {H0 H' : Hp} {D : Addr} {qs : List Addr} {o o' : Nat → HO} (r : RowsO H0 H' D qs o) {i : Nat} {q : Addr} (hq : qs[i]? = some q) (h1 : ∀ j, j ≠ i → o' j = o j) {l : HO} (hl : l = o' i) : RowsO H0 (upd H' q l) D qs o' := by
  have mq := List.mem_of_getElem? hq
  have nDq : D ≠ q := fun e => r.nD (e ▸ mq)
  refine ⟨by rw [upd_ne nDq]; exact r.hD, r.d0, r.nd, r.nD, fun j p hp => ?_, smUpd r.same (r.at_ i q hq).2⟩
  by_cases e : j = i
  · subst e
    have : p = q := by rw [hq] at hp; exact (Option.some.inj hp).symm
    subst this
    exact ⟨by rw [upd_same, hl], (r.at_ _ _ hq).2⟩
  · have : p ≠ q := fun z => e (nodup_at r.nd (z ▸ hp) hq)
    rw [upd_ne this, h1 j e]
    exact r.at_ j p hp
theorem RowsO.more {H0 H' H2 : Hp} {D : Addr} {qs : List Addr} {o : Nat → HO} (r : RowsO H0 H' D qs o) (s : Same H' H2) : RowsO H0 H2 D qs o :=
  ⟨s _ _ r.hD, r.d0, r.nd, r.nD, fun i q h => ⟨s _ _ (r.at_ i q h).1, (r.at_ i q h).2⟩, r.same.trans s⟩
/-- the keys of each, behind some pairs -/
structure KeysI (m : Nat) (ps : List (Int × Int)) (g : Nat → List Int) : Prop where
  nd : ∀ i, (g i).Nodup
  mem : ∀ i x, x ∈ g i ↔ x ∈ con (i : Int) ps
theorem KeysI.more {m : Nat} {ps : List (Int × Int)} {g : Nat → List Int} {k : Nat} {e : Int × Int} (h : KeysI m (ps.take k) g) (he : ps[k]? = some e) (h1 : 0 ≤ e.1) (h2 : 0 ≤ e.2) :
    KeysI m (ps.take (k + 1)) (fun i => if i = e.2.toNat then addK (if i = e.1.toNat then addK (g i) e.2 else g i) e.1 else if i = e.1.toNat then addK (g i) e.2 else g i) := by
  refine ⟨fun i => ?_, fun i x => ?_⟩
  · split
    · refine addK_nd ?_ _
      split
      · exact addK_nd (h.nd i) _
      · exact h.nd i
    · split
      · exact addK_nd (h.nd i) _
      · exact h.nd i
  · rw [con_more he, List.mem_append, ← h.mem i x]
    have a1 : e.1 = ((i : Nat) : Int) ↔ i = e.1.toNat := by omega
    have a2 : e.2 = ((i : Nat) : Int) ↔ i = e.2.toNat := by omega
    unfold conE
    simp only [a1, a2]
    by_cases b1 : i = e.1.toNat <;> by_cases b2 : i = e.2.toNat
    · simp only [← b1, ← b2, if_true, mem_addK, List.mem_append, List.mem_singleton, or_assoc]
    · simp only [← b1, if_true, if_neg b2, mem_addK, List.mem_append, List.mem_singleton, List.not_mem_nil, or_false]
    · simp only [← b2, if_true, if_neg b1, mem_addK, List.mem_append, List.mem_singleton, List.not_mem_nil, false_or]
    · simp only [if_neg b1, if_neg b2, List.mem_append, List.not_mem_nil, or_false]
theorem asc_of {l : List Int} (h : l.Pairwise (· ≤ ·)) (nd : l.Nodup) : l.Pairwise (· < ·) := by
  refine (h.and nd).imp fun {a b} q => ?_
  have := q.1
  have := q.2
  omega
section
variable {P : Program} {w : World} {K : PySem.W.Frag} {mg : Str → Option Value} {base : Heap} {f : Addr} {fd : FuncData}
def spLawBy : Sp := fun vs H Q _ => ∃ (m : Nat) (l : Addr) (vp : List V) (ps : List (Int × Int)), vs = [.int (m : Nat), .ref l] ∧ m ≤ 8 ∧ H l = some (.lst vp) ∧ Paired (IL H) vp (ps.map pairL) ∧
  (∀ e ∈ ps, e.1 ≠ e.2 ∧ 0 ≤ e.1 ∧ e.1 < (m : Int) ∧ 0 ≤ e.2 ∧ e.2 < (m : Int)) ∧ ∀ (v : V) (H' : Hp) (T : Web), Same H H' → WA H' v T → WebOf m ps T → Q v H'
abbrev N36 : List Str := ["_law_many", "_law_couples", "_law_found", "_law_one", "_law_other", "_law_person", "_law_own"]
theorem sc36 : FnScope N36 ["_law_many", "_law_couples"] (defScope (top 36)) := ⟨rfl, rfl, rfl, by decide +kernel, rfl, by decide +kernel, by decide +kernel⟩
theorem ok_law_by (F : Fun K "_law_by" "_law_by" (top 36) f fd) (T : Bt mg) : FnOk P w K mg base CX0 1 f fd ["_law_many", "_law_couples"] spLawBy := by
  refine F.ok sc36 (fun vs H Q E h => ?_) (fun cdv A outer s H vs Q E hr h => ?_)
  · obtain ⟨m, l, vp, ps, rfl, _⟩ := h; rfl
  · obtain ⟨m, l, vp, ps, rfl, h8, hl, hp, hr2, k⟩ := h
    have hu := hu_of hr
    refine ⟨_, pss_cons (ps_setLc (i := 2) (own := [("_law_person", 5)]) (g := gName 5) (tt := tYes) rfl sc36.nd rfl rfl (sw_true rfl rfl rfl (by decide +kernel)) (pi_range1 (by rfl) T.range (pa_cons (pv 0) pa_nil)) (blkOk_by (N := N36) (sc := defScope (top 36)) (by decide +kernel))
        (fun _ _ _ _ _ => pg_name (i := 5) sc36.nd rfl (Or.inl rfl)) (fun _ _ _ _ _ => pts_nil) (fun _ _ _ _ _ => pe_dnewK))
      (pss_cons (ps_for PassesOwn.never rfl (pi_list (pv 1)) (pg_tup rfl (pgs_cons (pg_name (i := 3) sc36.nd rfl (Or.inl rfl)) (pgs_cons (pg_name (i := 4) sc36.nd rfl (Or.inl rfl)) pgs_nil)))
        (pss_cons (ps_dput hu (pe_ix ix_list (pv 2) (pv 3) (fun _ _ => rfl)) (pv 4) pe_bl rfl) (pss_one (ps_dput hu (pe_ix ix_list (pv 2) (pv 4) (fun _ _ => rfl)) (pv 3) pe_bl rfl))))
      (pss_one (ps_ret (pe_callTy call_tuple_of (by rfl) T.tuple (by decide +kernel) (pa_cons
        (pe_lc (own := [("_law_own", 6)]) (g := gName 6) (tt := tYes) rfl sc36.nd (pi_list (pv 2)) (blkOk_by (N := N36) (sc := defScope (top 36)) (by decide +kernel)) (fun _ _ _ _ _ => pg_name (i := 6) sc36.nd rfl (Or.inl rfl)) (fun _ _ _ _ _ => pts_nil)
          (fun _ _ _ _ _ => pe_callTy (callTupL K) (by rfl) T.tuple (by decide +kernel) (pa_cons (pe_callB (crSortK K) (by rfl) T.sorted (by decide +kernel) (pa_cons (pe_callTy (call_list_dK rfl) (by rfl) T.list (by decide +kernel) (pa_cons (pv 6) pa_nil)) pa_nil)) pa_nil))) pa_nil))))), ?_⟩
    refine ⟨_, rfl, _, rfl, by omega, by omega, fun D hD => ?_⟩
    have tn : ((m : Int)).toNat = m := by omega
    rw [tn]
    refine loop_it walk_range (fun i H' => ∃ qs : List Addr, qs.length = i ∧ RowsO H H' D qs (fun _ => .dK (tks []))) ⟨[], rfl, upd_same, hD, by simp, by simp, fun i q h => by simp at h, smNew (Same.refl H) hD⟩ (fun _ _ _ _ => trivial) ?_ ?_
    · rintro i x H1 H2 hi ⟨qs, hq, r⟩ ⟨rfl, rfl⟩
      refine ⟨rfl, fun q hq' => ⟨qs.map V.ref, ?_, ?_, qs ++ [q], ?_, ?_⟩⟩
      · rw [upd_ne (ne_of_none r.hD hq')]
        exact r.hD
      · rw [List.length_map]
        exact lt64 (by omega)
      · rw [List.length_append, List.length_singleton, hq]
      · have nDq : D ≠ q := ne_of_none r.hD hq'
        have nq : q ∉ qs := fun z => by
          obtain ⟨j, hj⟩ := List.mem_iff_getElem?.1 z
          rw [(r.at_ j q hj).1] at hq'
          cases hq'
        have z0 : H q = none := r.same.free hq'
        refine ⟨by rw [upd_same, List.map_append]; rfl, hD, ?_, ?_, fun j p hp => ?_, smUpd (smUpd r.same z0) hD⟩
        · rw [List.nodup_append]
          exact ⟨r.nd, by simp, fun a ha b hb => by
            have : b = q := by simpa using hb
            subst this
            exact fun e => nq (e ▸ ha)⟩
        · simp [r.nD, nDq]
        · by_cases hj : j < qs.length
          · rw [List.getElem?_append_left hj] at hp
            have nDp : p ≠ D := fun e => r.nD (e ▸ List.mem_of_getElem? hp)
            have npq : p ≠ q := fun e => nq (e ▸ List.mem_of_getElem? hp)
            rw [upd_ne nDp, upd_ne npq]
            exact r.at_ j p hp
          · rw [List.getElem?_append_right (by omega)] at hp
            have : p = q := by
              by_cases h0 : j - qs.length = 0
              · rw [h0] at hp
                exact (Option.some.inj hp).symm
              · have := List.getElem?_eq_none (l := [q]) (i := j - qs.length) (by simp; omega)
                rw [this] at hp
                cases hp
            subst this
            rw [upd_ne nDq.symm, upd_same]
            exact ⟨rfl, z0⟩
    · rintro H1 ⟨qs, hqs, r⟩
      refine ⟨_, rfl, l, rfl, ⟨_, SqL.of (r.same _ _ hl)⟩, ?_⟩
      refine for_list (K := K) (a := l) (xs := vp) (fun k σ H' => ∃ (g : Nat → List Int) (o3 o4 : Option V), σ = [some (.int (m : Nat)), some (.ref l), some (.ref D), o3, o4, none, none] ∧ RowsO H H' D qs (fun i => .dK (tks (g i))) ∧ KeysI m (ps.take k) g) ⟨fun _ => [], _, _, rfl, r, ⟨fun i => by simp, fun i x => by simp [con]⟩⟩ (fun k σ H' _ ⟨_, _, _, _, r, _⟩ => SqL.of (r.same _ _ hl)) ?_ ?_
      · rintro k0 x σ H2 hx ⟨g, o3, o4, rfl, r, ki⟩
        obtain ⟨y, hy, hil⟩ := paired_at hp k0 x hx
        rw [List.getElem?_map] at hy
        cases he : ps[k0]? with
        | none => rw [he] at hy; cases hy
        | some e =>
          rw [he] at hy
          have hy : pairL e = y := Option.some.inj hy
          subst hy
          obtain ⟨t, rfl, ht⟩ := hil
          obtain ⟨e1, e2⟩ := e
          obtain ⟨n12, a0, a1, b0, b1⟩ := hr2 _ (List.mem_of_getElem? he)
          have ht' := r.same _ _ ht
          have small : ∀ j, (tks (g j)).length ≤ 8 := fun j => by
            unfold tks
            rw [List.length_map]
            refine Nat.le_trans (nodup_len m (g j) (ki.nd j) fun x hx => ?_) h8
            rcases mem_con.1 ((ki.mem j x).1 hx) with q | q
            · have := hr2 _ (List.mem_of_mem_take q)
              exact ⟨this.2.2.2.1, this.2.2.2.2⟩
            · have := hr2 _ (List.mem_of_mem_take q)
              exact ⟨this.2.1, this.2.2.1⟩
          refine ⟨t, _, rfl, SqT.of ht', rfl, _, _, rfl, _, _, rfl, rfl, ?_⟩
          have l1 : e1.toNat < qs.length := by omega
          have l2 : e2.toNat < qs.length := by omega
          obtain ⟨q1, hq1⟩ : ∃ q, qs[e1.toNat]? = some q := ⟨_, List.getElem?_eq_getElem l1⟩
          obtain ⟨q2, hq2⟩ : ∃ q, qs[e2.toNat]? = some q := ⟨_, List.getElem?_eq_getElem l2⟩
          have c1 := (r.at_ _ _ hq1).1
          refine ⟨_, rfl, _, rfl, D, _, e1, _, rfl, rfl, SqL.of r.hD, atI_int a0 (toRef hq1), _, rfl, q1, _, rfl, DPut.k (k := .inl e2) c1 (lt64 (by have := small e1.toNat; omega)), ?_⟩
          rw [put_tks]
          have r2 : RowsO H (upd H2 q1 (.dK (tks (addK (g e1.toNat) e2)))) D qs (fun i => .dK (tks (if i = e1.toNat then addK (g i) e2 else g i))) :=
            r.put hq1 (fun j hj => by rw [if_neg hj]) (by rw [if_pos rfl])
          generalize upd H2 q1 (.dK (tks (addK (g e1.toNat) e2))) = H3 at r2
          have c2 := (r2.at_ _ _ hq2).1
          have ne2 : e2.toNat ≠ e1.toNat := by
            have : e1 ≠ e2 := n12
            omega
          rw [if_neg ne2] at c2
          refine ⟨_, rfl, _, rfl, D, _, e2, _, rfl, rfl, SqL.of r2.hD, atI_int b0 (toRef hq2), _, rfl, q2, _, rfl, DPut.k (k := .inl e1) c2 (lt64 (by have := small e2.toNat; omega)), ?_⟩
          rw [put_tks]
          refine ⟨_, _, _, rfl, r2.put hq2 (fun j hj => ?_) ?_, ki.more he a0 b0⟩
          · rw [if_neg hj]
          · rw [if_pos rfl, if_neg ne2]
      · rintro σ H2 ⟨g, o3, o4, rfl, r, ki⟩
        have hlen := Paired.length hp
        rw [List.length_map] at hlen
        rw [hlen, List.take_length] at ki
        have small : ∀ j, (g j).length ≤ 8 := fun j => by
          refine Nat.le_trans (nodup_len m (g j) (ki.nd j) fun x hx => ?_) h8
          rcases mem_con.1 ((ki.mem j x).1 hx) with q | q
          · have := hr2 _ q
            exact ⟨this.2.2.2.1, this.2.2.2.2⟩
          · have := hr2 _ q
            exact ⟨this.2.1, this.2.2.1⟩
        refine ⟨_, rfl, D, rfl, ⟨_, SqL.of r.hD⟩, fun D2 hD2 => ?_⟩
        have z2 : H D2 = none := r.same.free hD2
        refine loop_it (walk_list (xs := qs.map V.ref)) (fun i H' => ∃ (vt : List V) (T : Web), H' D2 = some (.lst vt) ∧ Paired (IL H') vt T ∧ WebOf i ps T ∧ RowsO H H' D qs (fun i => .dK (tks (g i)))) ⟨[], [], upd_same, .nil, ⟨rfl, fun p h0 h => by omega, fun p h0 h => by omega⟩, r.more (smNew (Same.refl _) hD2)⟩
          (fun i H' _ ⟨_, _, _, _, _, r⟩ => SqL.of r.hD) ?_ ?_
        · rintro i x H4 H3 hi ⟨vt, T, hv, hpt, wo, r3⟩ ⟨rfl, hx⟩
          obtain ⟨q, hq, rfl⟩ := getRef hx
          have c1 := (r3.at_ _ _ hq).1
          have lc := small i
          have him : i < m := by
            rw [List.length_map] at hi
            omega
          refine ⟨rfl, _, rfl, q, _, rfl, c1, fun p1 h1 => ?_⟩
          have ek : (tks (g i)).map (fun kv => kV kv.1) = (g i).map V.int := by
            unfold tks
            rw [List.map_map]
            rfl
          rw [ek] 
          refine ⟨p1, g i, rfl, SqL.of upd_same, by omega, fun ns p2 perm le h2 => ?_⟩
          refine ⟨p2, _, rfl, .inl ⟨SqL.of upd_same, fun p3 h3 => ?_⟩⟩
          have n1 : D2 ≠ p1 := ne_of_none hv h1
          have n2 : D2 ≠ p2 := by
            rintro rfl
            rw [upd_ne n1, hv] at h2
            cases h2
          have n3 : D2 ≠ p3 := by
            rintro rfl
            rw [upd_ne n2, upd_ne n1, hv] at h3
            cases h3
          have sm : Same H3 (upd (upd (upd H3 p1 (.lst ((g i).map V.int))) p2 (.lst (ns.map V.int))) p3 (.tup (ns.map V.int))) := smNew (smNew (smNew (Same.refl _) h1) h2) h3
          refine ⟨vt, by rw [upd_ne n3, upd_ne n2, upd_ne n1]; exact hv, ?_, vt ++ [.ref p3], T ++ [ns], upd_same, ?_, ?_, ?_⟩
          · have := Paired.length hpt
            have := wo.len
            exact lt64 (by omega)
          · have hD2' := sm _ _ hv
            refine paired_app (ilsTp ((sTp sm).trans (tpLst hD2')) hpt) (paired_one ⟨p3, rfl, ?_⟩)
            rw [upd_ne n3.symm]
            exact upd_same
          · have hT := wo.len
            have asc := asc_of le (perm.nodup_iff.2 (ki.nd i))
            refine ⟨by rw [List.length_append, List.length_singleton, hT], fun p h0 h => ?_, fun p h0 h y => ?_⟩
            · by_cases e : p < (T.length : Int)
              · rw [adj_app T ns p h0 e]
                exact wo.asc p h0 (by omega)
              · rw [adj_end T ns p h0 (by omega)]
                exact asc
            · by_cases e : p < (T.length : Int)
              · rw [adj_app T ns p h0 e]
                exact wo.mem p h0 (by omega) y
              · rw [adj_end T ns p h0 (by omega), perm.mem_iff, ki.mem i y]
                have : p = (i : Int) := by omega
                subst this
                exact mem_con
          · have r4 := r3.more sm
            have nD : D ≠ D2 := by
              rintro rfl
              exact absurd (hD2.symm.trans r.hD) (by intro z; cases z)
            refine ⟨by rw [upd_ne nD]; exact r4.hD, r4.d0, r4.nd, r4.nD, fun j p hp' => ?_, smUpd r4.same z2⟩
            have nq : p ≠ D2 := by
              rintro rfl
              have := (r.at_ j p hp').1
              rw [this] at hD2
              cases hD2
            rw [upd_ne nq]
            exact r4.at_ j p hp'
        · rintro H3 ⟨vt, T, hv, hpt, wo, r3⟩
          rw [List.length_map, hqs] at wo
          refine ⟨D2, vt, rfl, .inl ⟨SqL.of hv, fun t ht => ?_⟩⟩
          exact k _ _ T (smNew r3.same ht) ⟨t, vt, rfl, upd_same, ilsTp (tpNew ht) hpt⟩ wo
end
end K75
namespace K75
open PySem L2
theorem ok_of {m : Nat} {ps : List (Int × Int)} {T : Web} (h1 : 1 ≤ m) (h8 : m ≤ 8) (hps : ∀ e ∈ ps, 0 ≤ e.1 ∧ e.1 < e.2 ∧ e.2 < (m : Int)) (w : WebOf m ps T) : Ok T := by
  have iw : ∀ p, InW T p ↔ (0 ≤ p ∧ p < (m : Int)) := fun p => by unfold InW; rw [w.len]
  refine ⟨by rw [w.len]; exact h1, by rw [w.len]; exact h8, fun p hp => w.asc p ((iw p).1 hp).1 ((iw p).1 hp).2, fun p hp x hx => ?_, fun p hp x hx => ?_⟩
  · obtain ⟨a, b⟩ := (iw p).1 hp
    rcases (w.mem p a b x).1 hx with h | h
    · have := hps _ h
      simp only at this
      exact ⟨(iw x).2 ⟨by omega, by omega⟩, by omega⟩
    · have := hps _ h
      simp only at this
      exact ⟨(iw x).2 ⟨by omega, by omega⟩, by omega⟩
  · obtain ⟨a, b⟩ := (iw p).1 hp
    have hm := (w.mem p a b x).1 hx
    have ix : 0 ≤ x ∧ x < (m : Int) := by
      rcases hm with h | h
      · have := hps _ h
        simp only at this
        omega
      · have := hps _ h
        simp only at this
        omega
    exact (w.mem x ix.1 ix.2 p).2 hm.symm
section
variable {P : Program} {w : World} {K : PySem.W.Frag} {mg : Str → Option Value} {base : Heap} {f : Addr} {fd : FuncData}
/-! ### _law_web -/
def spLawWeb (K : PySem.W.Frag) : Sp := fun vs H Q _ => ∃ (r sc : Addr) (ns : List Int), vs = [.ref r, .int 8] ∧ RW H r sc ∧ SqL K H sc (ns.map V.int) ∧ ∀ (v : V) (H' : Hp) (W : Web), Sm r H H' → RW H' r sc → WA H' v W → Ok W → Q v H'
abbrev N37 : List Str := ["_law_row", "_law_most", "_law_many", "_law_couples", "_law_rare", "_law_one", "_law_other"]
theorem sc37 : FnScope N37 ["_law_row", "_law_most"] (defScope (top 37)) := ⟨rfl, rfl, rfl, by decide +kernel, rfl, by decide +kernel, by decide +kernel⟩
theorem ok_law_web (F : Fun K "_law_web" "_law_web" (top 37) f fd) (T : Bt mg) (CT : Cl P w K mg base 1 "_law_taken" ["_law_row", "_law_many"] (spTaken K)) (CB : Cl P w K mg base 1 "_law_by" ["_law_many", "_law_couples"] spLawBy) : FnOk P w K mg base CX0 2 f fd ["_law_row", "_law_most"] (spLawWeb K) := by
  refine F.ok sc37 (fun vs H Q E h => ?_) (fun cdv A outer s H vs Q E hr h => ?_)
  · obtain ⟨r, sc, ns, rfl, _⟩ := h; rfl
  · obtain ⟨r, sc, ns, rfl, hR, hS, k⟩ := h
    refine ⟨_, pss_cons (ps_par (i := 2) (j := 3) rfl sc37.nd rfl rfl (by decide) rfl rfl (pa_cons (pe_op op_add pe_int (pe_cl CT hr (pa_cons (pv 0) (pa_cons (pv 1) pa_nil)))) (pa_cons (pe_lst pa_nil) pa_nil)) (by rfl))
      (pss_cons (ps_set (i := 4) sc37.nd rfl (Or.inr rfl) (pe_op op_add pe_int (pe_cl CT hr (pa_cons (pv 0) (pa_cons pe_int pa_nil)))))
      (pss_cons (ps_for PassesOwn.never rfl (pi_range1 (by rfl) T.range (pa_cons (pv 2) pa_nil)) (pg_name (i := 5) sc37.nd rfl (Or.inr rfl))
        (pss_one (ps_set (i := 3) sc37.nd rfl (Or.inl rfl) (pe_op op_cat (pv 3) (pe_lc (own := [("_law_other", 6)]) (g := gName 6) rfl sc37.nd (pi_range2 (by rfl) T.range (pa_cons (pe_op op_add (pv 5) pe_int) (pa_cons (pv 2) pa_nil))) (blkOk_by (N := N37) (sc := defScope (top 37)) (by decide +kernel)) (fun _ _ _ _ _ => pg_name (i := 6) sc37.nd rfl (Or.inl rfl))
          (fun _ _ _ _ _ => pts_one (pt_cmpR op_eq (pe_cl CT hr (pa_cons (pv 0) (pa_cons (pv 4) pa_nil))) pe_int (nomark _))) (fun _ _ _ _ _ => pe_tup (pa_cons (pv 5) (pa_cons (pv 6) pa_nil))))))))
      (pss_one (ps_ret (pe_cl CB hr (pa_cons (pv 2) (pa_cons (pv 3) pa_nil))))))), ?_⟩
    refine ⟨_, rfl, _, rfl, r, 8, sc, ns, rfl, hR, hS, by omega, by omega, fun t0 H1 a0 a1 b1 hR1 => ?_⟩
    refine ⟨_, _, rfl, rfl, Nat.zero_le _, fun l0 hl0 => ⟨_, _, rfl, ?_⟩⟩
    have nrl : r ≠ l0 := hR1.ne hl0
    have hR2 : RW (upd H1 l0 (.lst [])) r sc := hR1.upd nrl
    have sm1 : Sm r H (upd H1 l0 (.lst [])) := b1.sm.trans (sSm (smNew (Same.refl _) hl0))
    refine ⟨_, rfl, r, 3, sc, ns, rfl, hR2, hR.sq hS sm1, by omega, by omega, fun t1 H2 c0 c1 b2 hR3 => ?_⟩
    refine ⟨_, _, rfl, rfl, ?_⟩
    obtain ⟨m, em⟩ : ∃ m : Nat, (1 : Int) + t0 = ((m : Nat) : Int) := ⟨(1 + t0).toNat, by omega⟩
    have m1 : 1 ≤ m := by omega
    have m8 : m ≤ 8 := by omega
    have sm2 : Sm r H H2 := sm1.trans b2.sm
    have hl2 : H2 l0 = some (.lst []) := (b2 l0 nrl.symm).trans upd_same
    refine ⟨_, rfl, _, rfl, by omega, by omega, ?_⟩
    have tn : (1 + t0).toNat = m := by omega
    rw [tn]
    refine for_range (lo := 0) (n := m) (fun i σ H' => ∃ (vp : List V) (ps : List (Int × Int)) (lc : Addr) (o5 : Option V), σ = [some (.ref r), some (.int 8), some (.int (1 + t0)), some (.ref lc), some (.int (2 + t1)), o5, none] ∧ Sm r H H' ∧ RW H' r sc ∧ H' lc = some (.lst vp) ∧ lc ≠ r ∧ Paired (IL H') vp (ps.map pairL) ∧ ps.length ≤ 8 * i ∧ ∀ e ∈ ps, 0 ≤ e.1 ∧ e.1 < e.2 ∧ e.2 < (m : Int))
      ⟨[], [], l0, _, rfl, sm2, hR3, hl2, nrl.symm, .nil, Nat.le_refl _, fun e h => (nomatch h)⟩ ?_ ?_
    · rintro i σ H3 hi ⟨vp, ps, lc, o5, rfl, sm3, hR4, hlc, nlc, hpp, le, hps⟩
      refine ⟨_, rfl, _, rfl, _, _, rfl, rfl, _, rfl, _, _, rfl, ⟨by omega, by omega, by omega, by omega⟩, fun D hD => ?_⟩
      have nrD : r ≠ D := hR4.ne hD
      have nlD : lc ≠ D := ne_of_none hlc hD
      have jn : ((1 + t0) - (0 + (i : Int) + 1)).toNat ≤ 7 := by omega
      refine loop_it walk_range (fun j H' => ∃ (vq : List V) (qs : List (Int × Int)), Sm r H3 H' ∧ RW H' r sc ∧ H' D = some (.lst vq) ∧ Paired (IL H') vq (qs.map pairL) ∧ qs.length ≤ j ∧ ∀ e ∈ qs, 0 ≤ e.1 ∧ e.1 < e.2 ∧ e.2 < (m : Int))
        ⟨[], [], sSm (smNew (Same.refl _) hD), hR4.upd nrD, upd_same, .nil, Nat.le_refl _, fun e h => (nomatch h)⟩ (fun _ _ _ _ => trivial) ?_ ?_
      · rintro j x H5 H4 hj ⟨vq, qs, sm4, hR5, hDq, hpq, leq, hqs⟩ ⟨rfl, rfl⟩
        refine ⟨rfl, _, rfl, _, rfl, r, _, sc, ns, rfl, hR5, hR.sq hS (sm3.trans sm4), by omega, by omega, fun t2 H6 d0 d1 b6 hR6 => ?_⟩
        have hD6 := (b6 D nrD.symm).trans hDq
        have sm6 := sm4.trans b6.sm
        have hpq6 := ilsTp (hR5.tp b6.sm) hpq
        refine ⟨rfl, _, rfl, iteBC (fun _ => ?_) (fun _ => ⟨vq, qs, sm6, hR6, hD6, hpq6, by omega, hqs⟩)⟩
        refine ⟨_, rfl, _, rfl, by show 2 ≤ sizeLine; decide, fun t ht => ⟨vq, ?_, ?_, vq ++ [.ref t], qs ++ [(0 + (i : Int), 0 + (i : Int) + 1 + (j : Int))], ?_, ?_, upd_same, ?_, ?_, fun e he => ?_⟩⟩
        · rw [upd_ne (ne_of_none hD6 ht)]
          exact hD6
        · have := Paired.length hpq
          rw [List.length_map] at this
          exact lt64 (by omega)
        · exact smU (sm6.trans (sSm (smNew (Same.refl _) ht))) hD
        · exact (hR6.upd (hR6.ne ht)).upd nrD
        · have nDt : D ≠ t := ne_of_none hD6 ht
          have hD7 : upd H6 t (.tup [.int (0 + (i : Int)), .int (0 + (i : Int) + 1 + (j : Int))]) D = some (.lst vq) := by rw [upd_ne nDt]; exact hD6
          rw [List.map_append]
          refine paired_app (ilsTp ((tpNew ht).trans (tpLst hD7)) hpq6) (paired_one ⟨t, rfl, ?_⟩)
          rw [upd_ne nDt.symm, upd_same]
          rfl
        · rw [List.length_append, List.length_singleton]
          omega
        · rcases List.mem_append.1 he with he | he
          · exact hqs e he
          · have : e = (0 + (i : Int), 0 + (i : Int) + 1 + (j : Int)) := by simpa using he
            subst this
            exact ⟨by show 0 ≤ 0 + (i : Int); omega, by show 0 + (i : Int) < 0 + (i : Int) + 1 + (j : Int); omega, by show 0 + (i : Int) + 1 + (j : Int) < _; omega⟩
      · rintro H4 ⟨vq, qs, sm4, hR5, hDq, hpq, leq, hqs⟩
        have hlc4 := sm4 _ _ nlc hlc
        have lv := Paired.length hpp
        have lq := Paired.length hpq
        rw [List.length_map] at lv lq
        refine ⟨lc, D, vp, vq, rfl, rfl, hlc4, hDq, le64 (by omega), fun p hp => ?_⟩
        have s5 : Same H4 (upd H4 p (.lst (vp ++ vq))) := smNew (Same.refl _) hp
        refine ⟨vp ++ vq, ps ++ qs, p, _, rfl, (sm3.trans sm4).trans (sSm s5), hR5.same s5, upd_same, (hR5.ne hp).symm, ?_, ?_, fun e he => ?_⟩
        · rw [List.map_append]
          exact paired_app (ilsTp ((hR4.tp sm4).trans (sTp s5)) hpp) (ilsTp (sTp s5) hpq)
        · rw [List.length_append]
          omega
        · rcases List.mem_append.1 he with he | he
          · exact hps e he
          · exact hqs e he
    · rintro σ H3 ⟨vp, ps, lc, o5, rfl, sm3, hR4, hlc, nlc, hpp, le, hps⟩
      refine ⟨_, rfl, _, rfl, m, lc, vp, ps, by rw [em]; rfl, m8, hlc, hpp, fun e he => ?_, fun v H4 T s4 wt wo => k v H4 T (sm3.trans (sSm s4)) (hR4.same s4) wt (ok_of m1 m8 hps wo)⟩
      obtain ⟨q1, q2, q3⟩ := hps e he
      exact ⟨by omega, q1, by omega, by omega, q3⟩
/-! ### _law_sets -/
def spLawSets : Sp := fun vs H Q _ => ∃ m : Nat, vs = [.int (m : Nat)] ∧ m ≤ 8 ∧ ∀ (l : Addr) (H' : Hp) (vk : List V) (rows : List (List Int)), Same H H' → H l = none → H' l = some (.lst vk) → Paired (IL H') vk rows → rows.length = 2 ^ m → (∀ r ∈ rows, r.Pairwise (· < ·) ∧ ∀ x ∈ r, 0 ≤ x ∧ x < (m : Int)) → Q (.ref l) H'
abbrev N38 : List Str := ["_law_many", "_law_found", "_law_person", "_law_piece"]
theorem sc38 : FnScope N38 ["_law_many"] (defScope (top 38)) := ⟨rfl, rfl, rfl, by decide +kernel, rfl, by decide +kernel, by decide +kernel⟩
theorem pow8 {i : Nat} (h : i ≤ 8) : 2 ^ i ≤ 256 := Nat.le_trans (Nat.pow_le_pow_right (by decide) h) (by decide : 2 ^ 8 ≤ 256)
theorem ok_law_sets (F : Fun K "_law_sets" "_law_sets" (top 38) f fd) (T : Bt mg) : FnOk P w K mg base CX0 1 f fd ["_law_many"] spLawSets := by
  refine F.ok sc38 (fun vs H Q E h => ?_) (fun cdv A outer s H vs Q E hr h => ?_)
  · obtain ⟨m, rfl, _⟩ := h; rfl
  · obtain ⟨m, rfl, h8, k⟩ := h
    refine ⟨_, pss_cons (ps_set (i := 1) sc38.nd rfl (Or.inl rfl) (pe_lst (pa_cons (pe_tup pa_nil) pa_nil)))
      (pss_cons (ps_for PassesOwn.never rfl (pi_range1 (by rfl) T.range (pa_cons (pv 0) pa_nil)) (pg_name (i := 2) sc38.nd rfl (Or.inr rfl))
        (pss_one (ps_set (i := 1) sc38.nd rfl (Or.inl rfl) (pe_op op_cat (pv 1) (pe_lc (own := [("_law_piece", 3)]) (g := gName 3) (tt := tYes) rfl sc38.nd (pi_list (pv 1)) (blkOk_by (N := N38) (sc := defScope (top 38)) (by decide +kernel)) (fun _ _ _ _ _ => pg_name (i := 3) sc38.nd rfl (Or.inl rfl))
          (fun _ _ _ _ _ => pts_nil) (fun _ _ _ _ _ => pe_op (catA K) (pv 3) (pe_tup (pa_cons (pv 2) pa_nil))))))))
      (pss_one (ps_ret (pv 1)))), ?_⟩
    refine ⟨Nat.zero_le _, fun t ht => ⟨by show 1 ≤ sizeLine; decide, fun l0 hl0 => ?_⟩⟩
    have s1 : Same H (upd H t (.tup [])) := smNew (Same.refl _) ht
    have ntl : t ≠ l0 := ne_of_none (H := upd H t (.tup [])) upd_same hl0
    refine ⟨_, rfl, _, rfl, by omega, by omega, ?_⟩
    have tn : ((m : Int)).toNat = m := by omega
    rw [tn]
    refine for_range (lo := 0) (n := m) (fun i σ H' => ∃ (lc : Addr) (vk : List V) (rows : List (List Int)) (o2 : Option V), σ = [some (.int (m : Nat)), some (.ref lc), o2, none] ∧ Same H H' ∧ H lc = none ∧ H' lc = some (.lst vk) ∧ Paired (IL H') vk rows ∧ rows.length = 2 ^ i ∧ ∀ r ∈ rows, r.Pairwise (· < ·) ∧ ∀ x ∈ r, 0 ≤ x ∧ x < (i : Int))
      ⟨l0, [.ref t], [[]], _, rfl, smNew s1 hl0, s1.free hl0, upd_same, paired_one ⟨t, rfl, by rw [upd_ne ntl]; exact upd_same⟩, rfl, fun r hr' => by
        have : r = [] := by simpa using hr'
        subst this
        exact ⟨.nil, fun x h => (nomatch h)⟩⟩ ?_ ?_
    · rintro i σ H3 hi ⟨lc, vk, rows, o2, rfl, s3, zlc, hlc, hpk, hlen, hrows⟩
      have lv := Paired.length hpk
      have b8 := pow8 (i := i) (by omega)
      refine ⟨_, rfl, _, rfl, lc, rfl, ⟨_, SqL.of hlc⟩, fun D hD => ?_⟩
      refine loop_it (walk_list (xs := vk)) (fun j H' => ∃ (vq : List V), Same H3 H' ∧ H' D = some (.lst vq) ∧ Paired (IL H') vq ((rows.take j).map fun r => r ++ [0 + (i : Int)])) ⟨[], smNew (Same.refl _) hD, upd_same, .nil⟩ (fun j H' _ ⟨_, s, _⟩ => SqL.of (s _ _ hlc)) ?_ ?_
      · rintro j x H5 H4 hj ⟨vq, s4, hDq, hpq⟩ ⟨rfl, hx⟩
        obtain ⟨r, hr1, p, rfl, hp1⟩ := paired_at hpk j x hx
        have hp4 := s4 _ _ hp1
        have lq := Paired.length hpq
        rw [List.length_map, List.length_take] at lq
        have rl : r.length ≤ i := by
          obtain ⟨asc, rg⟩ := hrows r (List.mem_of_getElem? hr1)
          exact nodup_len i r (asc.imp fun h => Int.ne_of_lt h) rg
        have done : ∀ (q : Addr) (H6 : Hp), Same H4 H6 → H6 q = some (.tup ((r ++ [0 + (i : Int)]).map V.int)) → ∃ acc, H6 D = some (.lst acc) ∧ acc.length < sizeLine ∧ (fun H' => ∃ (vq : List V), Same H3 H' ∧ H' D = some (.lst vq) ∧ Paired (IL H') vq ((rows.take (j + 1)).map fun r => r ++ [0 + (i : Int)])) (upd H6 D (.lst (acc ++ [.ref q]))) := by
          intro q H6 s6 hq
          have hD6 := s6 _ _ hDq
          refine ⟨vq, hD6, big (by omega), vq ++ [.ref q], smUpd (s4.trans s6) hD, upd_same, ?_⟩
          rw [take_more hr1, List.map_append]
          exact paired_app (ilsTp ((sTp s6).trans (tpLst hD6)) hpq) (paired_one ⟨q, rfl, tpLst hD6 _ _ hq⟩)
        refine ⟨rfl, _, rfl, _, rfl, by show 1 ≤ sizeLine; decide, fun q hq => ?_⟩
        have s5 : Same H4 (upd H4 q (.tup [.int (0 + (i : Int))])) := smNew (Same.refl _) hq
        refine ⟨p, q, _, _, rfl, rfl, SqT.of (s5 _ _ hp4), SqT.of upd_same, ?_, fun e0 => ?_, fun _ e0 => ?_, fun _ _ q2 hq2 => ?_⟩
        · rw [lenI]
          exact le64 (by show r.length + 1 ≤ 64; omega)
        · refine done q _ s5 ?_
          have : r = [] := by
            cases r with
            | nil => rfl
            | cons y l => cases e0
          subst this
          exact upd_same
        · cases e0
        · refine done q2 _ (smNew s5 hq2) ?_
          rw [upd_same, List.map_append]
          rfl
      · rintro H4 ⟨vq, s4, hDq, hpq⟩
        rw [lv, List.take_length] at hpq
        have lq := Paired.length hpq
        rw [List.length_map] at lq
        have hlc4 := s4 _ _ hlc
        refine ⟨lc, D, vk, vq, rfl, rfl, hlc4, hDq, Nat.le_of_lt (big (by omega)), fun p hp => ?_⟩
        have s5 : Same H4 (upd H4 p (.lst (vk ++ vq))) := smNew (Same.refl _) hp
        refine ⟨p, vk ++ vq, rows ++ rows.map (fun r => r ++ [0 + (i : Int)]), _, rfl, (s3.trans s4).trans s5, (s3.trans s4).free hp, upd_same, paired_app (ilsTp (sTp (s4.trans s5)) hpk) (ilsTp (sTp s5) hpq), ?_, fun r hr' => ?_⟩
        · rw [List.length_append, List.length_map, hlen, Nat.pow_succ]
          omega
        · rcases List.mem_append.1 hr' with h | h
          · obtain ⟨a1, a2⟩ := hrows r h
            exact ⟨a1, fun x hx => by have := a2 x hx; omega⟩
          · obtain ⟨r0, h0, rfl⟩ := List.mem_map.1 h
            obtain ⟨a1, a2⟩ := hrows r0 h0
            refine ⟨?_, fun x hx => ?_⟩
            · rw [List.pairwise_append]
              refine ⟨a1, by simp, fun x hx y hy => ?_⟩
              have : y = 0 + (i : Int) := by simpa using hy
              have := a2 x hx
              omega
            · rcases List.mem_append.1 hx with hx | hx
              · have := a2 x hx
                omega
              · have : x = 0 + (i : Int) := by simpa using hx
                omega
    · rintro σ H3 ⟨lc, vk, rows, o2, rfl, s3, zlc, hlc, hpk, hlen, hrows⟩
      exact ⟨_, rfl, k lc _ vk rows s3 zlc hlc hpk hlen hrows⟩
end
end K75
namespace K75
open PySem L2
/-! ### statements that keep, tests that fail -/
def tKeep (Pre : St → Hp → Prop) : TS := fun D σ H => Pre σ H ∧ ∀ H', Same H H' → D.nx σ H'
def tFalse (Pre : St → Hp → Prop) : TT := fun σ H Q => Pre σ H ∧ ∀ H', Same H H' → Q false H'
theorem PSimp {X : Cx} {st : Stmt} {t t' : TS} (h : PS X st t) (f : ∀ D σ H, t' D σ H → t D σ H) : PS X st t' := ⟨fun pins s σ H D I hq => h.run pins s σ H D I (f _ _ _ hq)⟩
theorem if_keep {X : Cx} {c : Expr} {a : List Stmt} {pos : Pos} {Pre : St → Hp → Prop} {ta : TS} (hc : PT X c (tFalse Pre)) (ha : PSs X a ta) : PS X (.If c a [] pos) (tKeep Pre) :=
  PSimp (ps_if hc ha pss_nil) fun D σ H h => ⟨h.1, fun H' s => iteC rfl (h.2 H' s)⟩
theorem toB {Q : Bool → Hp → Prop} {H : Hp} {b c : Bool} (e : b = c) (k : Q c H) : Q b H := e ▸ k
theorem OIL.tp {H H' : Hp} {x : V} {o : Option (List Int)} (h : OIL H x o) (t : Tp H H') : OIL H' x o := by
  cases o with
  | none => exact h
  | some P => exact IL.tp h t
theorem OIL.non {H : Hp} {x : V} {o : Option (List Int)} (h : OIL H x o) : x = .non ↔ o = none := by
  cases o with
  | none => exact ⟨fun _ => rfl, fun _ => h⟩
  | some P =>
    obtain ⟨a, rfl, _⟩ := h
    exact ⟨fun z => (nomatch z), fun z => (nomatch z)⟩
theorem IsD.uniq {W : Web} {w : Int → Nat} {a : Int} {f g : Int → Option Nat} (hf : IsD W w a f) (hg : IsD W w a g) (x : Int) : f x = g x := by
  cases e1 : f x with
  | none =>
    cases e2 : g x with
    | none => rfl
    | some k => exact absurd (hg.sound _ _ e2) (hf.none_iff.1 e1 k)
  | some k =>
    obtain ⟨k1, e2, l1⟩ := hg.least (hf.sound _ _ e1)
    obtain ⟨k2, e3, l2⟩ := hf.least (hg.sound _ _ e2)
    rw [e1] at e3
    cases e3
    rw [e2]
    congr 1
    omega
theorem ON_non (o : Option Nat) : ON o = .non ↔ o = none := by
  cases o with
  | none => exact ⟨fun _ => rfl, fun _ => rfl⟩
  | some k => exact ⟨fun z => (nomatch z), fun z => (nomatch z)⟩
theorem ON_int (o : Option Nat) (k : Nat) : ON o = .int ((k : Nat) : Int) ↔ o = some k := by
  cases o with
  | none => exact ⟨fun z => (nomatch z), fun z => (nomatch z)⟩
  | some j =>
    constructor
    · intro h
      have : ((j : Nat) : Int) = (k : Nat) := V.int.inj h
      congr 1
      omega
    · intro h
      cases h
      rfl
theorem ON_scal (o : Option Nat) (i : Int) : scal (ON o) (.int i) = true := by cases o <;> rfl
theorem ON_scal2 (o : Option Nat) : scal (ON o) (ON o) = true := by cases o <;> rfl
theorem dec_ne {p q : Prop} [Decidable p] [Decidable q] (h : p ↔ q) : (!decide (V.bl (decide p) = V.bl (decide q))) = false := by
  have e : decide p = decide q := decide_eq_decide.2 h
  rw [e]
  simp
/-- the path that a way is, alone or whole -/
theorem res_some {W : Web} {c : List Int} {a b : Int} {P : List Int} (h : ChainRes W c a b (some P)) : (a = b ∧ P = [a]) ∨ Way W c a b P := by
  rcases h with ⟨e, h⟩ | ⟨_, ⟨h, _⟩ | ⟨R, h, w⟩⟩
  · exact .inl ⟨e, Option.some.inj h⟩
  · cases h
  · exact .inr (Option.some.inj h ▸ w)
structure PathF (W : Web) (c : List Int) (a b : Int) (P : List Int) : Prop where
  ne : P ≠ []
  hd : P.getD 0 0 = a
  lst : lastI P = b
  nd : P.Nodup
  inner : ∀ i, 0 < i → i + 1 < P.length → P.getD i 0 ∈ c
  inw : ∀ i, i < P.length → InW W (P.getD i 0)
  step : ∀ i, i + 1 < P.length → P.getD (i + 1) 0 ∈ adj W (P.getD i 0)
  chord : ∀ i, i + 2 < P.length → P.getD (i + 2) 0 ∉ adj W (P.getD i 0)
  len : P.length ≤ 8
theorem pathF {W : Web} {c : List Int} {a b : Int} {P : List Int} (ok : Ok W) (ia : InW W a) (h : ChainRes W c a b (some P)) : PathF W c a b P := by
  rcases res_some h with ⟨e, rfl⟩ | w
  · subst e
    refine ⟨by simp, rfl, rfl, by simp, fun i h0 h => absurd h (by simp), fun i hi => ?_, fun i h => absurd h (by simp), fun i h => absurd h (by simp), by simp⟩
    have : i = 0 := by simpa using hi
    subst this
    exact ia
  · have inw : ∀ i, i < P.length → InW W (P.getD i 0) := by
      intro i hi
      by_cases h0 : i = 0
      · subst h0
        rw [w.hd]
        exact ia
      · exact (w.pre i (by omega) hi).inw ok ia
    refine ⟨fun z => ?_, w.hd, w.lst, w.nd, w.inner, inw, w.step, fun i hi => ?_, ?_⟩
    · have := w.two
      rw [z] at this
      simp at this
    · have := w.chordless (i := i + 2) (by omega) hi
      exact this
    · have := nodup_len W.length P w.nd fun x hx => by
        obtain ⟨i, hi, e⟩ := mem_getD hx
        exact e ▸ inw i hi
      have := ok.hi
      omega
theorem at_getD {P : List Int} {i : Int} (h0 : 0 ≤ i) (h1 : i < (P.length : Int)) : atI (P.map V.int) i = some (.int (P.getD i.toNat 0)) := by
  refine atI_int h0 ?_
  have : i.toNat < P.length := by omega
  rw [List.getElem?_map, List.getElem?_eq_getElem this, List.getD_eq_getElem?_getD, List.getElem?_eq_getElem this]
  rfl
/-- all that the tests of a turn rest on -/
def LawPre (σ : St) (H : Hp) : Prop := ∃ (sv vw vc vt x1 x2 : V) (r wl : Addr) (W T : Web) (c wh : List Int) (a b : Int) (o1 o2 : Option (List Int)), σ = [some sv, some (.ref r), some vw, some vc, some vt, some (.ref wl), some (.int a), some (.int b), some x1, some x2, none, none, none] ∧
  WA H vw W ∧ Ok W ∧ IL H vc c ∧ Set8 W c ∧ WA H vt T ∧ Told W c T ∧ IL H (.ref wl) wh ∧ Set8 W wh ∧ (∀ x, InW W x → x ∈ wh) ∧ InW W a ∧ InW W b ∧ OIL H x1 o1 ∧ ChainRes W c a b o1 ∧ OIL H x2 o2 ∧ ChainRes W c b a o2
theorem LawPre.tp {σ : St} {H H' : Hp} (h : LawPre σ H) (t : Tp H H') : LawPre σ H' := by
  obtain ⟨sv, vw, vc, vt, x1, x2, r, wl, W, T, c, wh, a, b, o1, o2, e, hw, ok, hc, s8, ht, told, hwl, w8, wall, ia, ib, h1, r1, h2, r2⟩ := h
  exact ⟨sv, vw, vc, vt, x1, x2, r, wl, W, T, c, wh, a, b, o1, o2, e, hw.tp t, ok, hc.tp t, s8, ht.tp t, told, hwl.tp t, w8, wall, ia, ib, h1.tp t, r1, h2.tp t, r2⟩
/-- and a way was found -/
def LawPreP (σ : St) (H : Hp) : Prop := LawPre σ H ∧ ¬ σ[8]? = some (some V.non)
theorem LawPreP.tp {σ : St} {H H' : Hp} (h : LawPreP σ H) (t : Tp H H') : LawPreP σ H' := ⟨h.1.tp t, h.2⟩
theorem LawPreP.open {σ : St} {H : Hp} (h : LawPreP σ H) : ∃ (sv vw vc vt : V) (p1 p2 r wl : Addr) (W T : Web) (c wh : List Int) (a b : Int) (P R : List Int), σ = [some sv, some (.ref r), some vw, some vc, some vt, some (.ref wl), some (.int a), some (.int b), some (.ref p1), some (.ref p2), none, none, none] ∧
    WA H vw W ∧ Ok W ∧ IL H vc c ∧ Set8 W c ∧ InW W a ∧ InW W b ∧ H p1 = some (.tup (P.map V.int)) ∧ H p2 = some (.tup (R.map V.int)) ∧ PathF W c a b P ∧ P.length = R.length ∧ ChainRes W c a b (some P) := by
  obtain ⟨⟨sv, vw, vc, vt, x1, x2, r, wl, W, T, c, wh, a, b, o1, o2, e, hw, ok, hc, s8, ht, told, hwl, w8, wall, ia, ib, h1, r1, h2, r2⟩, hn⟩ := h
  subst e
  have n1 : o1 ≠ none := fun z => hn (by rw [h1.non.2 z]; rfl)
  have n2 : o2 ≠ none := fun z => n1 ((law2 ok ia ib r1 r2).2 z)
  cases o1 with
  | none => exact absurd rfl n1
  | some P =>
    cases o2 with
    | none => exact absurd rfl n2
    | some R =>
      obtain ⟨p1, rfl, q1⟩ := h1
      obtain ⟨p2, rfl, q2⟩ := h2
      have len : P.length = R.length := by
        rcases res_some r1 with ⟨e1, rfl⟩ | w1
        · rcases res_some r2 with ⟨_, rfl⟩ | w2
          · rfl
          · rcases r2 with ⟨_, h⟩ | ⟨ne, _⟩
            · cases h; rfl
            · exact absurd e1.symm ne
        · rcases res_some r2 with ⟨e2, rfl⟩ | w2
          · rcases r1 with ⟨_, h⟩ | ⟨ne, _⟩
            · cases h; rfl
            · exact absurd e2.symm ne
          · exact w1.len_eq ok ia ib w2
      exact ⟨sv, vw, vc, vt, p1, p2, r, wl, W, T, c, wh, a, b, P, R, rfl, hw, ok, hc, s8, ia, ib, q1, q2, pathF ok ia r1, len, r1⟩
section
variable {P : Program} {w : World} {K : PySem.W.Frag} {mg : Str → Option Value} {base : Heap} {f : Addr} {fd : FuncData}
def spLaw (K : PySem.W.Frag) : Sp := fun vs H Q _ => ∃ (a : Addr) (ns : List Int), vs = [.ref a] ∧ SqL K H a (ns.map V.int) ∧ ∀ H', Q (.bl true) H'
abbrev N39 : List Str := ["_law_script", "_law_row", "_law_web_here", "_law_called", "_law_there", "_law_whole", "_law_one", "_law_other", "_law_way", "_law_back", "_law_person", "_law_at", "_law_people"]
theorem sc39 : FnScope N39 ["_law_script"] (defScope (top 39)) := ⟨rfl, rfl, rfl, by decide +kernel, rfl, by decide +kernel, by decide +kernel⟩
/-- the parts of the law's loop -/
def bodyOf (s : Stmt) : List Stmt := match s with
  | .For _ _ b _ _ => b
  | _ => []
abbrev X39 (P : Program) (w : World) (K : PySem.W.Frag) (mg : Str → Option Value) (base : Heap) (f : Addr) (cdv : Value) (A : Around) (outer : List Env) (s : Shared) (H : Hp) (E : XK) : Cx := (cxOf CX0 P w K mg base N39 "law" (defScope (top 39)) f cdv A outer s H E).nox
abbrev loopB : List Stmt := bodyOf ((defBody (top 39)).getD 4 (.Pass ⟨0, 0, 0, 0⟩))
abbrev st39 (i : Nat) : Stmt := loopB.getD i (.Pass ⟨0, 0, 0, 0⟩)
def ifB (s : Stmt) : List Stmt := match s with
  | .If _ b _ _ => b
  | _ => []
abbrev in39 (i : Nat) : Stmt := (ifB (st39 4)).getD i (.Pass ⟨0, 0, 0, 0⟩)
/-- the callees -/
structure Cs (P : Program) (w : World) (K : PySem.W.Frag) (mg : Str → Option Value) (base : Heap) : Prop where
  friends : Cl P w K mg base 4 "friends" ["web", "person"] spFriends
  areF : Cl P w K mg base 4 "are_friends" ["web", "one", "other"] spAreFriends
  told : Cl P w K mg base 4 "told" ["web", "called"] spTold
  full : Cl P w K mg base 4 "full_set" ["web", "called"] spFullSet
  chain : Cl P w K mg base 4 "chain" ["web", "called", "one", "other"] spChain
  tables : Cl P w K mg base 4 "tables" ["web", "called"] spTables
  steps : Cl P w K mg base 4 "steps" ["web", "one", "other"] spSteps
  behind : Cl P w K mg base 4 "steps_behind" ["web", "called", "one", "other"] spBehind
  fewest : Cl P w K mg base 4 "fewest_uncalled" ["web", "called", "one", "other"] spFewest
  taken : Cl P w K mg base 1 "_law_taken" ["_law_row", "_law_many"] (spTaken K)
  pick : Cl P w K mg base 2 "_law_pick" ["_law_row", "_law_kinds"] (spPick K)
  web : Cl P w K mg base 2 "_law_web" ["_law_row", "_law_most"] (spLawWeb K)
  sets : Cl P w K mg base 1 "_law_sets" ["_law_many"] spLawSets
variable {cdv : Value} {A : Around} {outer : List Env} {s : Shared} {H : Hp} {E : XK}
theorem w2 (T : Bt mg) (C : Cs P w K mg base) (hr : Room 4 (X39 P w K mg base f cdv A outer s H E).A) : PS (X39 P w K mg base f cdv A outer s H E) (st39 2) (tKeep LawPre) :=
  if_keep (PTimp (pt_cmpR op_ne (pe_cmp (pc_notN (pv 8))) (pe_or (pe_cmpR op_eq (pv 6) (pv 7) (nomark _)) (pe_one (pe_cl C.areF hr (pa_cons (pv 4) (pa_cons (pv 6) (pa_cons (pv 7) pa_nil)))))) (nomark _)) (by
    rintro σ H Q ⟨⟨sv, vw, vc, vt, x1, x2, r, wl, W, T, c, wh, a, b, o1, o2, rfl, hw, ok, hc, s8, ht, told, hwl, w8, wall, ia, ib, h1, r1, h2, r2⟩, k⟩
    have key := law1 ok told ia r1
    refine ⟨_, rfl, _, rfl, _, rfl, rfl, _, rfl, iteBC (fun he => ?_) (fun hne => ?_)⟩
    · have he : a = b := by simpa using he
      have n1 : ¬ x1 = .non := fun z => key.2 (.inl he) (h1.non.1 z)
      refine ⟨rfl, _, rfl, toB (Q := Q) ?_ (k _ (Same.refl _))⟩
      simp [n1]
    · have hne : a ≠ b := by simpa using hne
      have iT : ∀ p, InW W p → InW T p := fun p h => by unfold InW; rw [told.len]; exact h
      refine ⟨_, rfl, _, rfl, _, rfl, vt, T, a, b, rfl, ht, told.ok ok, iT a ia, iT b ib, fun H' s' => ⟨rfl, _, rfl, toB (Q := Q) ?_ (k _ s')⟩⟩
      have : (¬ x1 = .non) ↔ b ∈ adj T a := by
        rw [h1.non]
        exact key.trans ⟨fun z => z.elim (fun q => absurd q hne) id, .inr⟩
      by_cases hx : x1 = .non
      · have h3 : b ∉ adj T a := fun z => this.2 z hx
        simp [hx, h3]
      · have h3 : b ∈ adj T a := this.1 hx
        simp [hx, h3])) (pss_one (ps_ret pe_bl))
theorem w3 (T : Bt mg) (C : Cs P w K mg base) (hr : Room 4 (X39 P w K mg base f cdv A outer s H E).A) : PS (X39 P w K mg base f cdv A outer s H E) (st39 3) (tKeep LawPre) :=
  if_keep (PTimp (pt_cmpR op_ne (pe_cmp (pc_isN (pv 8))) (pe_cmp (pc_isN (pv 9))) (nomark _)) (by
    rintro σ H Q ⟨⟨sv, vw, vc, vt, x1, x2, r, wl, W, T, c, wh, a, b, o1, o2, rfl, hw, ok, hc, s8, ht, told, hwl, w8, wall, ia, ib, h1, r1, h2, r2⟩, k⟩
    have key := law2 ok ia ib r1 r2
    refine ⟨_, rfl, _, rfl, rfl, _, rfl, toB (Q := Q) ?_ (k _ (Same.refl _))⟩
    refine dec_ne ?_
    rw [h1.non, h2.non]
    exact key)) (pss_one (ps_ret pe_bl))
theorem w5 (T : Bt mg) (C : Cs P w K mg base) (hr : Room 4 (X39 P w K mg base f cdv A outer s H E).A) : PS (X39 P w K mg base f cdv A outer s H E) (st39 5) (tKeep LawPre) :=
  if_keep (PTimp (pt_cmpR op_ne (pe_cmp (pc_isN (pe_cl C.chain hr (pa_cons (pv 2) (pa_cons (pv 5) (pa_cons (pv 6) (pa_cons (pv 7) pa_nil))))))) (pe_cmp (pc_isN (pe_cl C.steps hr (pa_cons (pv 2) (pa_cons (pv 6) (pa_cons (pv 7) pa_nil)))))) (nomark _)) (by
    rintro σ H Q ⟨⟨sv, vw, vc, vt, x1, x2, r, wl, W, T, c, wh, a, b, o1, o2, rfl, hw, ok, hc, s8, ht, told, hwl, w8, wall, ia, ib, h1, r1, h2, r2⟩, k⟩
    refine ⟨_, rfl, _, rfl, _, rfl, _, rfl, vw, .ref wl, W, wh, a, b, rfl, hw, ok, hwl, w8, ia, ib, fun x H1 o s1 hx rx => ?_⟩
    refine ⟨_, rfl, _, rfl, _, rfl, vw, W, a, b, rfl, hw.tp (sTp s1), ok, ia, ib, fun H2 g s2 hg => ?_⟩
    refine ⟨rfl, _, rfl, toB (Q := Q) (dec_ne ?_) (k _ (s1.trans s2))⟩
    rw [hx.non, ON_non]
    exact law8 ok ia wall hg rx)) (pss_one (ps_ret pe_bl))
theorem w6 (T : Bt mg) (C : Cs P w K mg base) (hr : Room 4 (X39 P w K mg base f cdv A outer s H E).A) : PS (X39 P w K mg base f cdv A outer s H E) (st39 6) (tKeep LawPre) :=
  if_keep (PTimp (PW.pt (pw_and (pt_cmp (pc_notN (pe_cl C.steps hr (pa_cons (pv 2) (pa_cons (pv 6) (pa_cons (pv 7) pa_nil))))))
    (pw_and1 (pt_cmpR op_ne (pe_callB call_len_seq (by rfl) T.len PySem.boot_len (pa_cons (pe_cl C.chain hr (pa_cons (pv 2) (pa_cons (pv 5) (pa_cons (pv 6) (pa_cons (pv 7) pa_nil))))) pa_nil)) (pe_op op_add (pe_cl C.steps hr (pa_cons (pv 2) (pa_cons (pv 6) (pa_cons (pv 7) pa_nil)))) pe_int) (nomark _))))) (by
    rintro σ H Q ⟨⟨sv, vw, vc, vt, x1, x2, r, wl, W, T, c, wh, a, b, o1, o2, rfl, hw, ok, hc, s8, ht, told, hwl, w8, wall, ia, ib, h1, r1, h2, r2⟩, k⟩
    refine ⟨_, rfl, _, rfl, _, rfl, vw, W, a, b, rfl, hw, ok, ia, ib, fun H1 g s1 hg => ⟨_, rfl, iteBC (fun hn => ?_) (fun hn => k _ s1)⟩⟩
    have hn : ¬ ON (g b) = .non := by simpa using hn
    rw [ON_non] at hn
    obtain ⟨d, ed⟩ := Option.ne_none_iff_exists'.1 hn
    refine ⟨_, rfl, _, rfl, _, rfl, _, rfl, vw, .ref wl, W, wh, a, b, rfl, hw.tp (sTp s1), ok, hwl.tp (sTp s1), w8, ia, ib, fun x H2 o s2 hx rx => ?_⟩
    obtain ⟨R, rfl, lR⟩ := law9 ok ia wall hg rx ed
    obtain ⟨p, rfl, hp⟩ := hx
    refine ⟨p, _, rfl, .inr (SqT.of hp), ?_⟩
    refine ⟨_, rfl, _, rfl, _, rfl, vw, W, a, b, rfl, (hw.tp (sTp s1)).tp (sTp s2), ok, ia, ib, fun H3 g2 s3 hg2 => ?_⟩
    have e2 : g2 b = some d := (hg2.uniq hg b).trans ed
    rw [e2]
    refine ⟨_, _, rfl, rfl, rfl, _, rfl, toB (Q := Q) ?_ (k _ ((s1.trans s2).trans s3))⟩
    rw [lenI, lR]
    simp)) (pss_one (ps_ret pe_bl))
theorem w7 (T : Bt mg) (C : Cs P w K mg base) (hr : Room 4 (X39 P w K mg base f cdv A outer s H E).A) : PS (X39 P w K mg base f cdv A outer s H E) (st39 7) (tKeep LawPre) :=
  if_keep (PTimp (pt_cmpR op_ne (pe_cmpR op_eq (pe_cl C.fewest hr (pa_cons (pv 2) (pa_cons (pv 3) (pa_cons (pv 6) (pa_cons (pv 7) pa_nil))))) pe_int (nomark _)) (pe_cmp (pc_notN (pv 8))) (nomark _)) (by
    rintro σ H Q ⟨⟨sv, vw, vc, vt, x1, x2, r, wl, W, T, c, wh, a, b, o1, o2, rfl, hw, ok, hc, s8, ht, told, hwl, w8, wall, ia, ib, h1, r1, h2, r2⟩, k⟩
    refine ⟨_, rfl, _, rfl, _, rfl, _, rfl, vw, vc, W, c, a, b, rfl, hw, ok, hc, s8, ia, ib, fun H1 g s1 hg => ?_⟩
    refine ⟨ON_scal _ _, _, rfl, rfl, _, rfl, toB (Q := Q) ?_ (k _ s1)⟩
    have key : ON (g b) = .int 0 ↔ ¬ x1 = .non := by
      rw [h1.non]
      exact (ON_int (g b) 0).trans (law10 hg r1)
    by_cases hx : x1 = .non
    · have h3 : ¬ ON (g b) = .int 0 := fun z => key.1 z hx
      simp [hx, h3]
    · have h3 := key.2 hx
      simp [hx, h3])) (pss_one (ps_ret pe_bl))
theorem w8 (T : Bt mg) (C : Cs P w K mg base) (hr : Room 4 (X39 P w K mg base f cdv A outer s H E).A) : PS (X39 P w K mg base f cdv A outer s H E) (st39 8) (tKeep LawPre) :=
  if_keep (PTimp (pt_cmpR op_ne (pe_cl C.fewest hr (pa_cons (pv 2) (pa_cons (pv 3) (pa_cons (pv 6) (pa_cons (pv 7) pa_nil))))) (pe_cl C.fewest hr (pa_cons (pv 2) (pa_cons (pe_cl C.full hr (pa_cons (pv 2) (pa_cons (pv 3) pa_nil))) (pa_cons (pv 7) (pa_cons (pv 6) pa_nil))))) (nomark _)) (by
    rintro σ H Q ⟨⟨sv, vw, vc, vt, x1, x2, r, wl, W, T, c, wh, a, b, o1, o2, rfl, hw, ok, hc, s8, ht, told, hwl, w8, wall, ia, ib, h1, r1, h2, r2⟩, k⟩
    refine ⟨_, rfl, _, rfl, _, rfl, _, rfl, vw, vc, W, c, a, b, rfl, hw, ok, hc, s8, ia, ib, fun H1 g s1 hg => ?_⟩
    have hw1 := hw.tp (sTp s1)
    refine ⟨_, rfl, _, rfl, _, rfl, vw, vc, W, c, rfl, hw1, ok, hc.tp (sTp s1), s8, fun x H2 T2 F s2 told2 full hF => ?_⟩
    refine ⟨_, rfl, _, rfl, vw, x, W, F, b, a, rfl, hw1.tp (sTp s2), ok, hF, ⟨full.asc, fun y hy => ((full.mem y).1 hy).1⟩, ib, ia, fun H3 g2 s3 hg2 => ?_⟩
    have e := fewest_eq ok told2 full s8.inw ia ib hg hg2
    rw [e]
    exact ⟨ON_scal2 _, _, rfl, toB (Q := Q) (by simp) (k _ ((s1.trans s2).trans s3))⟩)) (pss_one (ps_ret pe_bl))
theorem w9 (T : Bt mg) (C : Cs P w K mg base) (hr : Room 4 (X39 P w K mg base f cdv A outer s H E).A) : PS (X39 P w K mg base f cdv A outer s H E) (st39 9) (tKeep LawPre) :=
  if_keep (PTimp (PW.pt (pw_and (pt_cmpR op_ne (pv 6) (pv 7) (nomark _)) (pw_and1 (pt_cmpR op_ne (pe_cmpR op_eq (pe_cl C.behind hr (pa_cons (pv 2) (pa_cons (pv 3) (pa_cons (pv 6) (pa_cons (pv 7) pa_nil))))) pe_int (nomark _)) (pe_cmp (pc_notN (pv 8))) (nomark _))))) (by
    rintro σ H Q ⟨⟨sv, vw, vc, vt, x1, x2, r, wl, W, T, c, wh, a, b, o1, o2, rfl, hw, ok, hc, s8, ht, told, hwl, w8, wall, ia, ib, h1, r1, h2, r2⟩, k⟩
    refine ⟨_, rfl, _, rfl, rfl, _, rfl, iteBC (fun hne => ?_) (fun _ => k _ (Same.refl _))⟩
    have hne : a ≠ b := by simpa using hne
    refine ⟨_, rfl, _, rfl, _, rfl, _, rfl, vw, vc, W, c, a, b, rfl, hw, ok, hc, s8, ia, ib, fun H1 T2 g s1 told2 hg => ?_⟩
    refine ⟨ON_scal _ _, _, rfl, rfl, _, rfl, toB (Q := Q) ?_ (k _ s1)⟩
    have key : ON (g b) = .int 1 ↔ ¬ x1 = .non := by
      rw [h1.non]
      exact (ON_int (g b) 1).trans (law12 told2 ia hg r1 hne)
    by_cases hx : x1 = .non
    · have h3 : ¬ ON (g b) = .int 1 := fun z => key.1 z hx
      simp [hx, h3]
    · have h3 := key.2 hx
      simp [hx, h3])) (pss_one (ps_ret pe_bl))
end
end K75
namespace K75
open PySem L2
/-- the people within a way -/
theorem cut_at {P : List Int} {i : Nat} {x : V} (h : (cutV (P.map V.int) (some 1) (some (-1)))[i]? = some x) : i + 2 < P.length ∧ x = .int (P.getD (i + 1) 0) := by
  have e1 : HT.sIx (P.map V.int).length 0 (some 1) = min 1 (P.map V.int).length := HT.sIx_nat _ 0 1
  have e2 : HT.sIx (P.map V.int).length (P.map V.int).length (some (-1)) = (-1 + ((P.map V.int).length : Int)).toNat := rfl
  unfold cutV at h
  rw [e1, e2, lenI, List.getElem?_take] at h
  split at h
  · rename_i hi
    have hl : i + 2 < P.length := by omega
    rw [List.getElem?_drop, show min 1 P.length + i = i + 1 by omega, List.getElem?_map, List.getElem?_eq_getElem (show i + 1 < P.length by omega)] at h
    refine ⟨hl, ?_⟩
    rw [List.getD_eq_getElem?_getD, List.getElem?_eq_getElem (show i + 1 < P.length by omega)]
    exact (Option.some.inj h).symm
  · cases h
section
variable {P : Program} {w : World} {K : PySem.W.Frag} {mg : Str → Option Value} {base : Heap} {f : Addr} {fd : FuncData}
variable {cdv : Value} {A : Around} {outer : List Env} {s : Shared} {H : Hp} {E : XK}
theorem e0 (T : Bt mg) (C : Cs P w K mg base) (hr : Room 4 (X39 P w K mg base f cdv A outer s H E).A) : PS (X39 P w K mg base f cdv A outer s H E) (in39 0) (tKeep LawPreP) :=
  if_keep (PTimp (PW.pt (pw_or (pt_cmpR op_ne (pe_ix ix_tup (pv 8) pe_int (fun _ _ => rfl)) (pv 6) (nomark _)) (pw_or (pt_cmpR op_ne (pe_ix ix_tup (pv 8) (pe_un un_neg pe_int) (fun _ _ => rfl)) (pv 7) (nomark _))
    (pw_or1 (pt_cmpR op_ne (pe_callB call_len_seq (by rfl) T.len PySem.boot_len (pa_cons (pv 8) pa_nil)) (pe_callB call_len_seq (by rfl) T.len PySem.boot_len (pa_cons (pv 9) pa_nil)) (nomark _)))))) (by
    rintro σ H Q ⟨pre, k⟩
    obtain ⟨sv, vw, vc, vt, p1, p2, r, wl, W, T', c, wh, a, b, R, R2, rfl, hw, ok, hc, s8, ia, ib, h1, h2, pf, len, res⟩ := pre.open
    have l0 := List.length_pos_iff.2 pf.ne
    refine ⟨_, rfl, p1, _, 0, .int (R.getD 0 0), rfl, rfl, SqT.of h1, at_getD (by omega) (by omega), _, rfl, rfl, _, rfl, iteC ?_ ?_⟩
    · rw [pf.hd]
      simp
    refine ⟨_, rfl, _, rfl, p1, _, -1, _, rfl, rfl, SqT.of h1, atI_neg1 pf.ne, _, rfl, rfl, _, rfl, iteC ?_ ?_⟩
    · rw [pf.lst]
      simp
    refine ⟨_, rfl, p1, _, rfl, .inr (SqT.of h1), _, rfl, p2, _, rfl, .inr (SqT.of h2), rfl, _, rfl, toB (Q := Q) ?_ (k _ (Same.refl _))⟩
    rw [lenI, lenI, len]
    simp)) (pss_one (ps_ret pe_bl))
theorem e1 (T : Bt mg) (C : Cs P w K mg base) (hr : Room 4 (X39 P w K mg base f cdv A outer s H E).A) : PS (X39 P w K mg base f cdv A outer s H E) (in39 1) (tKeep LawPreP) :=
  if_keep (PTimp (PW.pt (pw_or (pt_cmpR op_ne (pe_callB cr_lenSet (by rfl) T.len PySem.boot_len (pa_cons (pe_callTy (crSetW w rfl) (by rfl) T.set (by decide +kernel) (pa_cons (pv 8) pa_nil)) pa_nil)) (pe_callB call_len_seq (by rfl) T.len PySem.boot_len (pa_cons (pv 8) pa_nil)) (nomark _))
    (pw_or1 (pt_cmpR (op_neD hr.units) (pe_lc (own := [("_law_person", 10)]) (g := gName 10) rfl sc39.nd (pi_tup (pe_slice sl_tupA (pv 8) (po_some pe_int) (po_some (pe_un un_neg pe_int)))) (blkOk_by (N := N39) (sc := defScope (top 39)) (by decide +kernel)) (fun _ _ _ _ _ => pg_name (i := 10) sc39.nd rfl (Or.inl rfl))
      (fun _ _ _ _ _ => pts_one (pt_cmpR (notInS K) (pv 10) (pv 3) (by rfl))) (fun _ _ _ _ _ => pv 10)) (pe_lst pa_nil) (nomark _))))) (by
    rintro σ H Q ⟨pre, k⟩
    obtain ⟨sv, vw, vc, vt, p1, p2, r, wl, W, T', c, wh, a, b, R, R2, rfl, hw, ok, hc, s8, ia, ib, h1, h2, pf, len, res⟩ := pre.open
    obtain ⟨cw, rfl, hc⟩ := hc
    have l0 := List.length_pos_iff.2 pf.ne
    have l8 := pf.len
    refine ⟨_, rfl, p1, R, rfl, .inr h1, by omega, fun q ks hq nd mem le => ?_⟩
    have kl : ks.length = R.length := by
      refine List.Perm.length_eq ?_
      exact (List.perm_ext_iff_of_nodup nd pf.nd).2 mem
    have s1 : Same H (upd H q (SetO w q (fun j => decide (j ∈ R)) ks.length)) := smNew (Same.refl _) hq
    refine ⟨q, _, _, rfl, upd_same, by omega, _, rfl, p1, _, rfl, .inr (SqT.of (s1 _ _ h1)), rfl, _, rfl, iteC ?_ ?_⟩
    · rw [lenI, kl]
      simp
    generalize upd H q (SetO w q (fun j => decide (j ∈ R)) ks.length) = H1 at s1
    have nw : ¬ (HT.sIx (R.map V.int).length 0 (some 1) = 0 ∧ HT.sIx (R.map V.int).length (R.map V.int).length (some (-1)) = (R.map V.int).length) := by
      have e1 : HT.sIx (R.map V.int).length 0 (some 1) = min 1 (R.map V.int).length := HT.sIx_nat _ 0 1
      rw [e1, lenI]
      omega
    refine ⟨_, rfl, _, rfl, _, rfl, _, rfl, p1, _, rfl, SqT.of (s1 _ _ h1), fun z => absurd z nw, fun _ p hp => ?_⟩
    have s2 : Same H (upd H1 p (.tup (cutV (R.map V.int) (some 1) (some (-1))))) := smNew s1 hp
    have hp2 : upd H1 p (.tup (cutV (R.map V.int) (some 1) (some (-1)))) p = some (.tup (cutV (R.map V.int) (some 1) (some (-1)))) := upd_same
    generalize upd H1 p (.tup (cutV (R.map V.int) (some 1) (some (-1)))) = H2 at s2 hp2
    refine ⟨p, rfl, ⟨_, SqT.of hp2⟩, fun D hD => ?_⟩
    have s3 : Same H (upd H2 D (.lst [])) := smNew s2 hD
    refine loop_it (walk_tup (xs := cutV (R.map V.int) (some 1) (some (-1)))) (fun j H' => H' = upd H2 D (.lst [])) rfl (fun j H' _ e => by rw [e]; exact SqT.of (by rw [upd_ne (ne_of_none hp2 hD)]; exact hp2)) ?_ ?_
    · rintro j x H4 H3 hj rfl ⟨rfl, hx⟩
      obtain ⟨hj2, rfl⟩ := cut_at hx
      refine ⟨rfl, _, rfl, _, rfl, cw, _, rfl, .inr (SqT.of (s3 _ _ hc)), rfl, flat_ints _, _, rfl, iteC ?_ rfl⟩
      show (!inV (.int (R.getD (j + 1) 0)) (c.map V.int)) = false
      rw [inV_ints, decide_eq_true (pf.inner (j + 1) (by omega) hj2)]
      rfl
    · rintro H3 rfl
      refine ⟨Nat.zero_le _, fun l hl => ?_⟩
      refine ⟨.list [], .list [], .lst (SqL.of (by rw [upd_ne (ne_of_none (H := upd H2 D (.lst [])) upd_same hl)]; exact upd_same)) .nil, .lst (SqL.of upd_same) .nil, shapedInts [], shapedInts [], _, rfl, toB (Q := Q) (by rfl) (k _ (smNew s3 hl))⟩)) (pss_one (ps_ret pe_bl))
theorem e2 (T : Bt mg) (C : Cs P w K mg base) (hr : Room 4 (X39 P w K mg base f cdv A outer s H E).A) : PS (X39 P w K mg base f cdv A outer s H E) (in39 2) (tKeep LawPreP) :=
  if_keep (PTimp (pt_cmpR (op_neD hr.units) (pe_lc (own := [("_law_at", 11)]) (g := gName 11) rfl sc39.nd (pi_range2 (by rfl) T.range (pa_cons pe_int (pa_cons (pe_callB call_len_seq (by rfl) T.len PySem.boot_len (pa_cons (pv 8) pa_nil)) pa_nil))) (blkOk_by (N := N39) (sc := defScope (top 39)) (by decide +kernel)) (fun _ _ _ _ _ => pg_name (i := 11) sc39.nd rfl (Or.inl rfl))
      (fun _ _ _ _ _ => pts_one (pt_cmpR (notInS K) (pe_ix (ixT K) (pv 8) (pv 11) (fun _ _ => rfl)) (pe_cl C.friends hr (pa_cons (pv 2) (pa_cons (pe_ix (ixT K) (pv 8) (pe_op op_sub (pv 11) pe_int) (fun _ _ => rfl)) pa_nil))) (by rfl))) (fun _ _ _ _ _ => pv 11)) (pe_lst pa_nil) (nomark _)) (by
    rintro σ H Q ⟨pre, k⟩
    obtain ⟨sv, vw, vc, vt, p1, p2, r, wl, W, T', c, wh, a, b, R, R2, rfl, hw, ok, hc, s8, ia, ib, h1, h2, pf, len, res⟩ := pre.open
    have l8 := pf.len
    refine ⟨_, rfl, p1, _, rfl, .inr (SqT.of h1), _, _, rfl, ⟨by omega, by omega, by omega, by rw [lenI]; omega⟩, fun D hD => ?_⟩
    rw [lenI]
    refine loop_it walk_range (fun j H' => H' D = some (.lst []) ∧ Same H H') ⟨upd_same, smNew (Same.refl _) hD⟩ (fun _ _ _ _ => trivial) ?_ ?_
    · rintro j x H2 H1 hj ⟨hD1, s1⟩ ⟨rfl, rfl⟩
      have hj2 : j + 1 < R.length := by omega
      have e1 : ((1 : Int) + (j : Int)).toNat = j + 1 := by omega
      have e2 : ((1 : Int) + (j : Int) - 1).toNat = j := by omega
      refine ⟨rfl, _, rfl, _, rfl, p1, _, (1 : Int) + (j : Int), _, rfl, rfl, SqT.of (s1 _ _ h1), at_getD (by omega) (by omega), ?_⟩
      refine ⟨_, rfl, _, rfl, _, rfl, _, _, rfl, rfl, p1, _, (1 : Int) + (j : Int) - 1, _, rfl, rfl, SqT.of (s1 _ _ h1), at_getD (by omega) (by omega), ?_⟩
      rw [e1, e2]
      refine ⟨vw, W, R.getD j 0, rfl, hw.tp (sTp s1), ok, pf.inw j (by omega), fun u H2 s2 hu => ?_⟩
      obtain ⟨q, rfl, hq⟩ := hu
      refine ⟨q, _, rfl, .inr (SqT.of hq), rfl, flat_ints _, _, rfl, iteC ?_ ⟨s2 _ _ hD1, s1.trans s2⟩⟩
      show (!inV (.int (R.getD (j + 1) 0)) ((adj W (R.getD j 0)).map V.int)) = false
      rw [inV_ints, decide_eq_true (pf.step j hj2)]
      rfl
    · rintro H1 ⟨hD1, s1⟩
      refine ⟨Nat.zero_le _, fun l hl => ?_⟩
      refine ⟨.list [], .list [], .lst (SqL.of (by rw [upd_ne (ne_of_none hD1 hl)]; exact hD1)) .nil, .lst (SqL.of upd_same) .nil, shapedInts [], shapedInts [], _, rfl, toB (Q := Q) (by rfl) (k _ (smNew s1 hl))⟩)) (pss_one (ps_ret pe_bl))
theorem e3 (T : Bt mg) (C : Cs P w K mg base) (hr : Room 4 (X39 P w K mg base f cdv A outer s H E).A) : PS (X39 P w K mg base f cdv A outer s H E) (in39 3) (tKeep LawPreP) :=
  if_keep (PTimp (pt_cmpR (op_neD hr.units) (pe_lc (own := [("_law_at", 11)]) (g := gName 11) rfl sc39.nd (pi_range2 (by rfl) T.range (pa_cons pe_int (pa_cons (pe_callB call_len_seq (by rfl) T.len PySem.boot_len (pa_cons (pv 8) pa_nil)) pa_nil))) (blkOk_by (N := N39) (sc := defScope (top 39)) (by decide +kernel)) (fun _ _ _ _ _ => pg_name (i := 11) sc39.nd rfl (Or.inl rfl))
      (fun _ _ _ _ _ => pts_one (pt_cmpR (inS K) (pe_ix (ixT K) (pv 8) (pv 11) (fun _ _ => rfl)) (pe_cl C.friends hr (pa_cons (pv 2) (pa_cons (pe_ix (ixT K) (pv 8) (pe_op op_sub (pv 11) pe_int) (fun _ _ => rfl)) pa_nil))) (by rfl))) (fun _ _ _ _ _ => pv 11)) (pe_lst pa_nil) (nomark _)) (by
    rintro σ H Q ⟨pre, k⟩
    obtain ⟨sv, vw, vc, vt, p1, p2, r, wl, W, T', c, wh, a, b, R, R2, rfl, hw, ok, hc, s8, ia, ib, h1, h2, pf, len, res⟩ := pre.open
    have l8 := pf.len
    refine ⟨_, rfl, p1, _, rfl, .inr (SqT.of h1), _, _, rfl, ⟨by omega, by omega, by omega, by rw [lenI]; omega⟩, fun D hD => ?_⟩
    rw [lenI]
    refine loop_it walk_range (fun j H' => H' D = some (.lst []) ∧ Same H H') ⟨upd_same, smNew (Same.refl _) hD⟩ (fun _ _ _ _ => trivial) ?_ ?_
    · rintro j x H2 H1 hj ⟨hD1, s1⟩ ⟨rfl, rfl⟩
      have hj2 : j + 2 < R.length := by omega
      have e1 : ((2 : Int) + (j : Int)).toNat = j + 2 := by omega
      have e2 : ((2 : Int) + (j : Int) - 2).toNat = j := by omega
      refine ⟨rfl, _, rfl, _, rfl, p1, _, (2 : Int) + (j : Int), _, rfl, rfl, SqT.of (s1 _ _ h1), at_getD (by omega) (by omega), ?_⟩
      refine ⟨_, rfl, _, rfl, _, rfl, _, _, rfl, rfl, p1, _, (2 : Int) + (j : Int) - 2, _, rfl, rfl, SqT.of (s1 _ _ h1), at_getD (by omega) (by omega), ?_⟩
      rw [e1, e2]
      refine ⟨vw, W, R.getD j 0, rfl, hw.tp (sTp s1), ok, pf.inw j (by omega), fun u H2 s2 hu => ?_⟩
      obtain ⟨q, rfl, hq⟩ := hu
      refine ⟨q, _, rfl, .inr (SqT.of hq), rfl, flat_ints _, _, rfl, iteC ?_ ⟨s2 _ _ hD1, s1.trans s2⟩⟩
      show inV (.int (R.getD (j + 2) 0)) ((adj W (R.getD j 0)).map V.int) = false
      rw [inV_ints]
      exact decide_eq_false (pf.chord j hj2)
    · rintro H1 ⟨hD1, s1⟩
      refine ⟨Nat.zero_le _, fun l hl => ?_⟩
      refine ⟨.list [], .list [], .lst (SqL.of (by rw [upd_ne (ne_of_none hD1 hl)]; exact hD1)) .nil, .lst (SqL.of upd_same) .nil, shapedInts [], shapedInts [], _, rfl, toB (Q := Q) (by rfl) (k _ (smNew s1 hl))⟩)) (pss_one (ps_ret pe_bl))
theorem e4 (T : Bt mg) (C : Cs P w K mg base) (hr : Room 4 (X39 P w K mg base f cdv A outer s H E).A) : PS (X39 P w K mg base f cdv A outer s H E) (in39 4) (tKeep LawPreP) :=
  if_keep (PTimp (PW.pt (pw_and (pt_cmpR op_gt (pe_callB call_len_seq (by rfl) T.len PySem.boot_len (pa_cons (pv 8) pa_nil)) pe_int (nomark _)) (pw_and1 (pt_cmpR (op_eqD hr.units)
      (pe_lc (own := [("_law_people", 12)]) (g := gName 12) rfl sc39.nd (pi_tup (pe_cl C.tables hr (pa_cons (pv 2) (pa_cons (pv 3) pa_nil)))) (blkOk_by (N := N39) (sc := defScope (top 39)) (by decide +kernel)) (fun _ _ _ _ _ => pg_name (i := 12) sc39.nd rfl (Or.inl rfl))
      (fun _ _ _ _ _ => pts_one (PW.pt (pw_and (pt_cmpR (inS K) (pv 6) (pv 12) (by rfl)) (pw_and1 (pt_cmpR (inS K) (pv 7) (pv 12) (by rfl)))))) (fun _ _ _ _ _ => pv 12)) (pe_lst pa_nil) (nomark _))))) (by
    rintro σ H Q ⟨pre, k⟩
    obtain ⟨sv, vw, vc, vt, p1, p2, r, wl, W, T', c, wh, a, b, R, R2, rfl, hw, ok, hc, s8, ia, ib, h1, h2, pf, len, res⟩ := pre.open
    refine ⟨_, rfl, p1, _, rfl, .inr (SqT.of h1), _, _, rfl, rfl, _, rfl, iteBC (fun hl => ?_) (fun _ => k _ (Same.refl _))⟩
    have hl : 2 < (((R.map V.int).length : Nat) : Int) := of_decide_eq_true hl
    rw [lenI] at hl
    have way : Way W c a b R := by
      rcases res_some res with ⟨_, e⟩ | wy
      · rw [e] at hl
        rw [List.length_singleton] at hl
        omega
      · exact wy
    refine ⟨_, rfl, _, rfl, vw, vc, W, c, rfl, hw, ok, hc, s8, fun t H1 vt' TT s1 ht hpt l8 tabs => ?_⟩
    obtain ⟨t0, ht0, at0, bt0⟩ := law7 ok ia tabs way (by omega)
    have lv := Paired.length hpt
    refine ⟨t, rfl, ⟨_, SqT.of ht⟩, fun D hD => ?_⟩
    refine loop_it (walk_tup (xs := vt')) (fun j H' => ∃ vq : List V, Same H1 H' ∧ H' D = some (.lst vq) ∧ Paired (IL H1) vq ((TT.take j).filter fun z => decide (a ∈ z) && decide (b ∈ z))) ⟨[], smNew (Same.refl _) hD, upd_same, .nil⟩ (fun j H' _ ⟨_, s, _⟩ => SqT.of (s _ _ ht)) ?_ ?_
    · rintro j x H3 H2 hj ⟨vq, s2, hDq, hpq⟩ ⟨rfl, hx⟩
      obtain ⟨z, hz, q, rfl, hq⟩ := paired_at hpt j x hx
      have hq2 := s2 _ _ hq
      have lq := Paired.length hpq
      have fl := List.length_filter_le (fun z => decide (a ∈ z) && decide (b ∈ z)) (TT.take j)
      rw [List.length_take] at fl
      have skip : (decide (a ∈ z) && decide (b ∈ z)) = false → ((TT.take (j + 1)).filter fun z => decide (a ∈ z) && decide (b ∈ z)) = (TT.take j).filter fun z => decide (a ∈ z) && decide (b ∈ z) := by
        intro h
        rw [take_more hz, List.filter_append, List.filter_cons, h]
        simp
      have take : (decide (a ∈ z) && decide (b ∈ z)) = true → ((TT.take (j + 1)).filter fun z => decide (a ∈ z) && decide (b ∈ z)) = ((TT.take j).filter fun z => decide (a ∈ z) && decide (b ∈ z)) ++ [z] := by
        intro h
        rw [take_more hz, List.filter_append, List.filter_cons, h]
        simp
      refine ⟨rfl, _, rfl, _, rfl, q, _, rfl, .inr (SqT.of hq2), rfl, flat_ints _, _, rfl, iteBC (fun ha => ?_) (fun ha => ?_)⟩
      · have ha : a ∈ z := by
          have h : inV (.int a) (z.map V.int) = true := ha
          rw [inV_ints] at h
          simpa using h
        refine ⟨_, rfl, _, rfl, q, _, rfl, .inr (SqT.of hq2), rfl, flat_ints _, _, rfl, iteBC (fun hb => ?_) (fun hb => ?_)⟩
        · have hb : b ∈ z := by
            have h : inV (.int b) (z.map V.int) = true := hb
            rw [inV_ints] at h
            simpa using h
          refine ⟨_, rfl, vq, hDq, lt64 (by omega), vq ++ [.ref q], smUpd s2 hD, upd_same, ?_⟩
          rw [take (by simp [ha, hb])]
          exact paired_app hpq (paired_one ⟨q, rfl, hq⟩)
        · have hb : b ∉ z := by
            have h : inV (.int b) (z.map V.int) = false := hb
            rw [inV_ints] at h
            simpa using h
          refine ⟨vq, s2, hDq, ?_⟩
          rw [skip (by simp [hb])]
          exact hpq
      · have ha : a ∉ z := by
          have h : inV (.int a) (z.map V.int) = false := ha
          rw [inV_ints] at h
          simpa using h
        refine ⟨vq, s2, hDq, ?_⟩
        rw [skip (by simp [ha])]
        exact hpq
    · rintro H2 ⟨vq, s2, hDq, hpq⟩
      rw [lv, List.take_length] at hpq
      refine ⟨Nat.zero_le _, fun l hl' => ?_⟩
      have s3 : Same H1 (upd H2 l (.lst [])) := smNew s2 hl'
      have ne : (TT.filter fun z => decide (a ∈ z) && decide (b ∈ z)) ≠ [] := by
        intro z
        have : t0 ∈ TT.filter fun z => decide (a ∈ z) && decide (b ∈ z) := List.mem_filter.2 ⟨ht0, by simp [at0, bt0]⟩
        rw [z] at this
        cases this
      refine ⟨.list ((TT.filter fun z => decide (a ∈ z) && decide (b ∈ z)).map pyI), .list [], .lst (SqL.of (by rw [upd_ne (ne_of_none hDq hl')]; exact hDq)) (dpTups (ilsTp (sTp s3) hpq)), .lst (SqL.of upd_same) .nil, shapedTups _, shapedInts [], _, rfl, toB (Q := Q) ?_ (k _ (s1.trans s3))⟩
      rw [bne_nil]
      exact decide_eq_false ne)) (pss_one (ps_ret pe_bl))
end
end K75
namespace K75
open PySem L2
def whole (n : Nat) : List Int := (List.range n).map fun i => ((i : Nat) : Int)
theorem rg_whole (n : Nat) : rgV 0 ((n : Nat) : Int) = (whole n).map V.int := by
  unfold rgV whole
  rw [List.map_map, show (((n : Nat) : Int) - 0).toNat = n by omega]
  refine List.map_congr_left fun i _ => ?_
  show V.int (0 + (i : Int)) = V.int (i : Int)
  rw [Int.zero_add]
theorem mem_whole {n : Nat} {x : Int} : x ∈ whole n ↔ 0 ≤ x ∧ x < (n : Int) := by
  unfold whole
  rw [List.mem_map]
  constructor
  · rintro ⟨i, hi, rfl⟩
    have := List.mem_range.1 hi
    omega
  · rintro ⟨h0, h1⟩
    exact ⟨x.toNat, List.mem_range.2 (by omega), by omega⟩
theorem whole_asc (n : Nat) : (whole n).Pairwise (· < ·) := by
  unfold whole
  rw [List.pairwise_map]
  exact List.pairwise_lt_range.imp fun h => by omega
theorem whole8 (W : Web) : Set8 W (whole W.length) := ⟨whole_asc _, fun x hx => mem_whole.1 hx⟩
section
variable {P : Program} {w : World} {K : PySem.W.Frag} {mg : Str → Option Value} {base : Heap} {f : Addr} {fd : FuncData}
section
variable {cdv : Value} {A : Around} {outer : List Env} {s : Shared} {H : Hp} {E : XK}
theorem w4 (T : Bt mg) (C : Cs P w K mg base) (hr : Room 4 (X39 P w K mg base f cdv A outer s H E).A) : PS (X39 P w K mg base f cdv A outer s H E) (st39 4) (tKeep LawPre) :=
  PSimp (ps_if (pt_cmp (pc_notN (pv 8))) (pss_cons (e0 T C hr) (pss_cons (e1 T C hr) (pss_cons (e2 T C hr) (pss_cons (e3 T C hr) (pss_one (e4 T C hr)))))) pss_nil) (by
    rintro D σ H ⟨pre, k⟩
    have pre' := pre
    obtain ⟨sv, vw, vc, vt, x1, x2, r, wl, W, T, c, wh, a, b, o1, o2, rfl, _⟩ := pre'
    refine ⟨_, rfl, _, rfl, iteBC (fun hn => ?_) (fun _ => k _ (Same.refl _))⟩
    have P0 : LawPreP [some sv, some (.ref r), some vw, some vc, some vt, some (.ref wl), some (.int a), some (.int b), some x1, some x2, none, none, none] H := by
      refine ⟨pre, fun z => ?_⟩
      have z : x1 = .non := Option.some.inj (Option.some.inj z)
      subst z
      cases hn
    exact ⟨P0, fun H1 s1 => ⟨P0.tp (sTp s1), fun H2 s2 => ⟨P0.tp (sTp (s1.trans s2)), fun H3 s3 => ⟨P0.tp (sTp ((s1.trans s2).trans s3)), fun H4 s4 => ⟨P0.tp (sTp (((s1.trans s2).trans s3).trans s4)), fun H5 s5 => k _ ((((s1.trans s2).trans s3).trans s4).trans s5)⟩⟩⟩⟩⟩)
end
theorem ok_law (F : Fun K "law" "law" (top 39) f fd) (T : Bt mg) (C : Cs P w K mg base) : FnOk P w K mg base CX0 5 f fd ["_law_script"] (spLaw K) := by
  refine F.ok sc39 (fun vs H Q E h => ?_) (fun cdv A outer s H vs Q E hr h => ?_)
  · obtain ⟨a, ns, rfl, _⟩ := h; rfl
  · obtain ⟨sc, ns, rfl, hS, k⟩ := h
    refine ⟨_, pss_cons (ps_set (i := 1) sc39.nd rfl (Or.inl rfl) (pe_lst (pa_cons (pv 0) (pa_cons pe_int (pa_cons pe_int (pa_cons pe_int pa_nil))))))
      (pss_cons (ps_set (i := 2) sc39.nd rfl (Or.inr rfl) (pe_cl C.web (hr.mono (by decide)) (pa_cons (pv 1) (pa_cons pe_int pa_nil))))
      (pss_cons (ps_set (i := 3) sc39.nd rfl (Or.inr rfl) (pe_cl C.pick (hr.mono (by decide)) (pa_cons (pv 1) (pa_cons (pe_cl C.sets (hr.mono (by decide)) (pa_cons (pe_callB call_len_seq (by rfl) T.len PySem.boot_len (pa_cons (pv 2) pa_nil)) pa_nil)) pa_nil))))
      (pss_cons (ps_par (i := 4) (j := 5) rfl sc39.nd rfl rfl (by decide) rfl rfl (pa_cons (pe_cl C.told hr (pa_cons (pv 2) (pa_cons (pv 3) pa_nil))) (pa_cons (pe_tupRg rfl (by rfl) T.tuple (prg_1 (by rfl) T.range (pe_callB call_len_seq (by rfl) T.len PySem.boot_len (pa_cons (pv 2) pa_nil)))) pa_nil)) (by rfl))
      (pss_cons (ps_for PassesOwn.never rfl (pi_tup (pv 5)) (pg_name (i := 6) sc39.nd rfl (Or.inr rfl))
        (pss_cons (ps_set (i := 7) sc39.nd rfl (Or.inr rfl) (pe_cl C.taken (hr.mono (by decide)) (pa_cons (pv 1) (pa_cons (pe_callB call_len_seq (by rfl) T.len PySem.boot_len (pa_cons (pv 2) pa_nil)) pa_nil))))
        (pss_cons (ps_asg (pe_tup (pa_cons (pe_cl C.chain hr (pa_cons (pv 2) (pa_cons (pv 3) (pa_cons (pv 6) (pa_cons (pv 7) pa_nil))))) (pa_cons (pe_cl C.chain hr (pa_cons (pv 2) (pa_cons (pv 3) (pa_cons (pv 7) (pa_cons (pv 6) pa_nil))))) pa_nil))) (pg_tup rfl (pgs_cons (pg_name (i := 8) sc39.nd rfl (Or.inr rfl)) (pgs_cons (pg_name (i := 9) sc39.nd rfl (Or.inl rfl)) pgs_nil))))
        (pss_cons (w2 T C hr) (pss_cons (w3 T C hr) (pss_cons (w4 T C hr) (pss_cons (w5 T C hr) (pss_cons (w6 T C hr) (pss_cons (w7 T C hr) (pss_cons (w8 T C hr) (pss_one (w9 T C hr))))))))))))
      (pss_one (ps_ret (pe_cmpR (op_eqD hr.units) (pe_cl C.chain hr (pa_cons (pv 2) (pa_cons (pe_tup pa_nil) (pa_cons pe_int (pa_cons pe_int pa_nil))))) (pe_tup (pa_cons pe_int pa_nil)) (nomark _)))))))), ?_⟩
    refine ⟨_, rfl, Nat.le_of_lt (lt64 (by show 4 ≤ 64; decide)), fun r hr0 => ?_⟩
    have s0 : Same H (upd H r (.lst [.ref sc, .int 0, .int 9875, .int 0])) := smNew (Same.refl _) hr0
    have hS0 : SqL K (upd H r (.lst [.ref sc, .int 0, .int 9875, .int 0])) sc (ns.map V.int) := by
      rcases hS with (h | ⟨o, h⟩) | h
      · exact .inl (.inl (s0 _ _ h))
      · exact .inl (.inr ⟨o, s0 _ _ h⟩)
      · exact .inr h
    have hR0 : RW (upd H r (.lst [.ref sc, .int 0, .int 9875, .int 0])) r sc := ⟨0, 9875, 0, upd_same, by decide, by decide, by decide⟩
    generalize upd H r (.lst [.ref sc, .int 0, .int 9875, .int 0]) = H0 at s0 hS0 hR0
    refine ⟨_, rfl, r, sc, ns, rfl, hR0, hS0, fun vw H1 W sm1 hR1 hw1 ok => ?_⟩
    obtain ⟨aw, ws, rfl, hwt, hwp⟩ := hw1
    have lw : ws.length = W.length := Paired.length hwp
    have lo := ok.lo
    have hi := ok.hi
    refine ⟨_, rfl, _, rfl, aw, _, rfl, .inr (SqT.of hwt), W.length, (by rw [lw]; rfl), hi, fun l H2 vk rows s2 zl hl hp hlen hrows => ?_⟩
    have lk := Paired.length hp
    have b8 := pow8 hi
    have b1 : 0 < 2 ^ W.length := Nat.two_pow_pos _
    have hR2 := hR1.same s2
    have sm2 : Sm r H0 H2 := sm1.trans (sSm s2)
    refine ⟨r, l, vk, sc, ns, rfl, hR2, hR0.sq hS0 sm2, hl, (hR1.ne zl).symm, by omega, by omega, fun vc H3 hvc bt3 hR3 => ?_⟩
    have sm3 : Sm r H0 H3 := sm2.trans bt3.sm
    have t13 : Tp H1 H3 := (sTp s2).trans (hR2.tp bt3.sm)
    obtain ⟨i, hi1, hi2⟩ := List.getElem_of_mem hvc
    obtain ⟨c, hc1, hc2⟩ := paired_at hp i vc (by rw [List.getElem?_eq_getElem hi1, hi2])
    have hc3 := IL.tp hc2 (hR2.tp bt3.sm)
    have s8 : Set8 W c := ⟨(hrows c (List.mem_of_getElem? hc1)).1, (hrows c (List.mem_of_getElem? hc1)).2⟩
    have hw3 : WA H3 (.ref aw) W := WA.tp ⟨aw, ws, rfl, hwt, hwp⟩ t13
    refine ⟨_, rfl, _, rfl, .ref aw, vc, W, c, rfl, hw3, ok, hc3, s8, fun vt H4 T s4 ht4 told => ?_⟩
    have hwt4 := (t13.trans (sTp s4)) _ _ hwt
    refine ⟨_, rfl, aw, _, rfl, .inr (SqT.of hwt4), _, rfl, RgOk.of_le (by omega) (by omega) (by omega) (by omega), fun wl hwl => ?_⟩
    rw [lw, rg_whole]
    have s5 : Same H4 (upd H4 wl (.tup ((whole W.length).map V.int))) := smNew (Same.refl _) hwl
    have hwl5 : upd H4 wl (.tup ((whole W.length).map V.int)) wl = some (.tup ((whole W.length).map V.int)) := upd_same
    generalize upd H4 wl (.tup ((whole W.length).map V.int)) = H5 at s5 hwl5
    have s35 := s4.trans s5
    have hw5 := hw3.tp (sTp s35)
    have hwt5 := s5 _ _ hwt4
    have hc5 := hc3.tp (sTp s35)
    have ht5 := ht4.tp (sTp s5)
    have hR5 := hR3.same s35
    have sm5 : Sm r H0 H5 := sm3.trans (sSm s35)
    have lwh : ((whole W.length).map V.int).length = W.length := by rw [lenI]; unfold whole; rw [List.length_map, List.length_range]
    have i0 : InW W 0 := ⟨Int.le_refl _, by omega⟩
    refine ⟨_, _, rfl, _, rfl, wl, rfl, ⟨_, SqT.of hwl5⟩, ?_⟩
    refine for_tup (fun j σ H' => ∃ o6 o7 o8 o9, σ = [some (.ref sc), some (.ref r), some (.ref aw), some vc, some vt, some (.ref wl), o6, o7, o8, o9, none, none, none] ∧ Sm r H5 H' ∧ RW H' r sc)
      ⟨_, _, _, _, rfl, Sm.refl, hR5⟩ (fun j σ H' _ ⟨_, _, _, _, _, sm, _⟩ => SqT.of (hR5.tp sm _ _ hwl5)) ?_ ?_
    · rintro j x σ H6 hx ⟨o6, o7, o8, o9, rfl, sm6, hR6⟩
      obtain ⟨a, ha, rfl⟩ := get_int hx
      have ia : InW W a := mem_whole.1 (List.mem_of_getElem? ha)
      have t6 := hR5.tp sm6
      refine ⟨_, rfl, _, rfl, aw, _, rfl, .inr (SqT.of (t6 _ _ hwt5)), r, _, sc, ns, rfl, hR6, hR0.sq hS0 (sm5.trans sm6), by omega, by omega, fun b H7 b0 b1 bt7 hR7 => ?_⟩
      have ib : InW W b := ⟨b0, by omega⟩
      have sm7 := sm6.trans bt7.sm
      have t7 := hR5.tp sm7
      refine ⟨_, rfl, _, rfl, _, rfl, _, rfl, .ref aw, vc, W, c, a, b, rfl, hw5.tp t7, ok, hc5.tp t7, s8, ia, ib, fun x1 H8 p1 s8' hx1 r1 => ?_⟩
      have t8 := t7.trans (sTp s8')
      refine ⟨_, rfl, _, rfl, _, rfl, _, rfl, .ref aw, vc, W, c, b, a, rfl, hw5.tp t8, ok, hc5.tp t8, s8, ib, ia, fun x2 H9 p2 s9 hx2 r2 => ?_⟩
      have t9 := t8.trans (sTp s9)
      refine ⟨by show 2 ≤ sizeLine; decide, fun q hq => ?_⟩
      have s10 : Same H9 (upd H9 q (.tup [x1, x2])) := smNew (Same.refl _) hq
      refine ⟨q, _, rfl, SqT.of upd_same, rfl, _, _, rfl, _, _, rfl, rfl, ?_⟩
      generalize upd H9 q (.tup [x1, x2]) = H10 at s10
      have t10 := t9.trans (sTp s10)
      have pre : LawPre [some (.ref sc), some (.ref r), some (.ref aw), some vc, some vt, some (.ref wl), some (.int a), some (.int b), some x1, some x2, none, none, none] H10 :=
        ⟨_, _, _, _, _, _, _, _, W, T, c, whole W.length, a, b, p1, p2, rfl, hw5.tp t10, ok, hc5.tp t10, s8, ht5.tp t10, told, ⟨wl, rfl, t10 _ _ hwl5⟩, whole8 W, fun x h => mem_whole.2 h, ia, ib, OIL.tp hx1 (sTp (s9.trans s10)), r1, OIL.tp hx2 (sTp s10), r2⟩
      have s710 := (s8'.trans s9).trans s10
      have hR10 := hR7.same s710
      have sm10 := sm7.trans (sSm s710)
      refine ⟨pre, fun h1 q1 => ?_⟩
      refine ⟨pre.tp (sTp q1), fun h2 q2 => ?_⟩
      have q2 := q1.trans q2
      refine ⟨pre.tp (sTp q2), fun h3 q3 => ?_⟩
      have q3 := q2.trans q3
      refine ⟨pre.tp (sTp q3), fun h4 q4 => ?_⟩
      have q4 := q3.trans q4
      refine ⟨pre.tp (sTp q4), fun h5 q5 => ?_⟩
      have q5 := q4.trans q5
      refine ⟨pre.tp (sTp q5), fun h6 q6 => ?_⟩
      have q6 := q5.trans q6
      refine ⟨pre.tp (sTp q6), fun h7 q7 => ?_⟩
      have q7 := q6.trans q7
      refine ⟨pre.tp (sTp q7), fun h8 q8 => ?_⟩
      have q8 := q7.trans q8
      exact ⟨_, _, _, _, rfl, sm10.trans (sSm q8), hR10.same q8⟩
    · rintro σ H6 ⟨o6, o7, o8, o9, rfl, sm6, hR6⟩
      have t6 := hR5.tp sm6
      refine ⟨_, rfl, Nat.zero_le _, fun e he => ?_⟩
      have se : Same H6 (upd H6 e (.tup [])) := smNew (Same.refl _) he
      have hee : upd H6 e (.tup []) e = some (.tup []) := upd_same
      generalize upd H6 e (.tup []) = H7 at se hee
      have t7 := t6.trans (sTp se)
      refine ⟨.ref aw, .ref e, W, [], 0, 0, rfl, hw5.tp t7, ok, ⟨e, rfl, hee⟩, ⟨.nil, fun x h => (nomatch h)⟩, i0, i0, fun x1 H8 p1 s8' hx1 r1 => ?_⟩
      refine ⟨by show 1 ≤ sizeLine; decide, fun q hq => ?_⟩
      have e1 : p1 = some [0] := by
        rcases r1 with ⟨_, h⟩ | ⟨h, _⟩
        · exact h
        · exact absurd rfl h
      subst e1
      have sq : Same H8 (upd H8 q (.tup [.int 0])) := smNew (Same.refl _) hq
      have hqq : IL (upd H8 q (.tup [.int 0])) (.ref q) [0] := ⟨q, rfl, upd_same⟩
      have hx2 : IL (upd H8 q (.tup [.int 0])) x1 [0] := IL.tp hx1 (sTp sq)
      exact ⟨pyI [0], pyI [0], hx2.dp, hqq.dp, shapedTup _, shapedTup _, k _⟩
end
end K75
namespace K75
open PySem L2
/-! ### what the top has written, the head -/
theorem all_mk {l : PySem.W.OpenLaw} {w : World} {K : PySem.W.Frag} {h : Heap} {mg : Str → Option Value} {fa : Addr} (X : K.In h) (G : h.Ns mainGlobals mg) (hfa : mg "law" = some (.ref fa))
    {f1 f2 f3 f11 f12 f13 f14 f15 f16 f17 f19 f21 f22 f23 f24 f25 f26 f27 f29 f30 f31 f32 f34 f35 f36 f37 f38 f39 : Addr} {od1 an1 od2 an2 od3 an3 od11 an11 od12 an12 od13 an13 od14 an14 od15 an15 od16 an16 od17 an17 od19 an19 od21 an21 od22 an22 od23 an23 od24 an24 od25 an25 od26 an26 od27 an27 od29 an29 od30 an30 od31 an31 od32 an32 od34 an34 od35 an35 od36 an36 od37 an37 od38 an38 od39 an39 : Option Addr} {sl1 sl2 sl3 sl11 sl12 sl13 sl14 sl15 sl16 sl17 sl19 sl21 sl22 sl23 sl24 sl25 sl26 sl27 sl29 sl30 sl31 sl32 sl34 sl35 sl36 sl37 sl38 sl39 : Array (Option Value)} {oc1 kV1 dc1 pm1 cd1 ct1 oc2 kV2 dc2 pm2 cd2 ct2 oc3 kV3 dc3 pm3 cd3 ct3 oc11 kV11 dc11 pm11 cd11 ct11 oc12 kV12 dc12 pm12 cd12 ct12 oc13 kV13 dc13 pm13 cd13 ct13 oc14 kV14 dc14 pm14 cd14 ct14 oc15 kV15 dc15 pm15 cd15 ct15 oc16 kV16 dc16 pm16 cd16 ct16 oc17 kV17 dc17 pm17 cd17 ct17 oc19 kV19 dc19 pm19 cd19 ct19 oc21 kV21 dc21 pm21 cd21 ct21 oc22 kV22 dc22 pm22 cd22 ct22 oc23 kV23 dc23 pm23 cd23 ct23 oc24 kV24 dc24 pm24 cd24 ct24 oc25 kV25 dc25 pm25 cd25 ct25 oc26 kV26 dc26 pm26 cd26 ct26 oc27 kV27 dc27 pm27 cd27 ct27 oc29 kV29 dc29 pm29 cd29 ct29 oc30 kV30 dc30 pm30 cd30 ct30 oc31 kV31 dc31 pm31 cd31 ct31 oc32 kV32 dc32 pm32 cd32 ct32 oc34 kV34 dc34 pm34 cd34 ct34 oc35 kV35 dc35 pm35 cd35 ct35 oc36 kV36 dc36 pm36 cd36 ct36 oc37 kV37 dc37 pm37 cd37 ct37 oc38 kV38 dc38 pm38 cd38 ct38 oc39 kV39 dc39 pm39 cd39 ct39 : Value} {tM : Tok}
    (a1 : PySem.W.nsIn K mainGlobals "is_integer" = some (some (.ref f1)))
    (l1 : K.lookup f1 = some ⟨oc1, od1, .func (PySem.W.fnOf "is_integer" "is_integer" (defArgs (top 1)) (defBody (top 1)) (defScope (top 1)) .none kV1 dc1 pm1 an1 cd1 ct1), sl1⟩)
    (c1 : PySem.W.codeIn K cd1 "is_integer" = true)
    (k1 : PySem.W.keepIn K (.ref f1) = true)
    (a2 : PySem.W.nsIn K mainGlobals "is_in" = some (some (.ref f2)))
    (l2 : K.lookup f2 = some ⟨oc2, od2, .func (PySem.W.fnOf "is_in" "is_in" (defArgs (top 2)) (defBody (top 2)) (defScope (top 2)) .none kV2 dc2 pm2 an2 cd2 ct2), sl2⟩)
    (c2 : PySem.W.codeIn K cd2 "is_in" = true)
    (k2 : PySem.W.keepIn K (.ref f2) = true)
    (a3 : PySem.W.nsIn K mainGlobals "is_list" = some (some (.ref f3)))
    (l3 : K.lookup f3 = some ⟨oc3, od3, .func (PySem.W.fnOf "is_list" "is_list" (defArgs (top 3)) (defBody (top 3)) (defScope (top 3)) .none kV3 dc3 pm3 an3 cd3 ct3), sl3⟩)
    (c3 : PySem.W.codeIn K cd3 "is_list" = true)
    (k3 : PySem.W.keepIn K (.ref f3) = true)
    (a11 : PySem.W.nsIn K mainGlobals "need_web" = some (some (.ref f11)))
    (l11 : K.lookup f11 = some ⟨oc11, od11, .func (PySem.W.fnOf "need_web" "need_web" (defArgs (top 11)) (defBody (top 11)) (defScope (top 11)) .none kV11 dc11 pm11 an11 cd11 ct11), sl11⟩)
    (c11 : PySem.W.codeIn K cd11 "need_web" = true)
    (k11 : PySem.W.keepIn K (.ref f11) = true)
    (a12 : PySem.W.nsIn K mainGlobals "need_person" = some (some (.ref f12)))
    (l12 : K.lookup f12 = some ⟨oc12, od12, .func (PySem.W.fnOf "need_person" "need_person" (defArgs (top 12)) (defBody (top 12)) (defScope (top 12)) .none kV12 dc12 pm12 an12 cd12 ct12), sl12⟩)
    (c12 : PySem.W.codeIn K cd12 "need_person" = true)
    (k12 : PySem.W.keepIn K (.ref f12) = true)
    (a13 : PySem.W.nsIn K mainGlobals "need_people" = some (some (.ref f13)))
    (l13 : K.lookup f13 = some ⟨oc13, od13, .func (PySem.W.fnOf "need_people" "need_people" (defArgs (top 13)) (defBody (top 13)) (defScope (top 13)) .none kV13 dc13 pm13 an13 cd13 ct13), sl13⟩)
    (c13 : PySem.W.codeIn K cd13 "need_people" = true)
    (k13 : PySem.W.keepIn K (.ref f13) = true)
    (a14 : PySem.W.nsIn K mainGlobals "friends" = some (some (.ref f14)))
    (l14 : K.lookup f14 = some ⟨oc14, od14, .func (PySem.W.fnOf "friends" "friends" (defArgs (top 14)) (defBody (top 14)) (defScope (top 14)) .none kV14 dc14 pm14 an14 cd14 ct14), sl14⟩)
    (c14 : PySem.W.codeIn K cd14 "friends" = true)
    (k14 : PySem.W.keepIn K (.ref f14) = true)
    (a15 : PySem.W.nsIn K mainGlobals "are_friends" = some (some (.ref f15)))
    (l15 : K.lookup f15 = some ⟨oc15, od15, .func (PySem.W.fnOf "are_friends" "are_friends" (defArgs (top 15)) (defBody (top 15)) (defScope (top 15)) .none kV15 dc15 pm15 an15 cd15 ct15), sl15⟩)
    (c15 : PySem.W.codeIn K cd15 "are_friends" = true)
    (k15 : PySem.W.keepIn K (.ref f15) = true)
    (a16 : PySem.W.nsIn K mainGlobals "web_by" = some (some (.ref f16)))
    (l16 : K.lookup f16 = some ⟨oc16, od16, .func (PySem.W.fnOf "web_by" "web_by" (defArgs (top 16)) (defBody (top 16)) (defScope (top 16)) .none kV16 dc16 pm16 an16 cd16 ct16), sl16⟩)
    (c16 : PySem.W.codeIn K cd16 "web_by" = true)
    (k16 : PySem.W.keepIn K (.ref f16) = true)
    (a17 : PySem.W.nsIn K mainGlobals "is_table" = some (some (.ref f17)))
    (l17 : K.lookup f17 = some ⟨oc17, od17, .func (PySem.W.fnOf "is_table" "is_table" (defArgs (top 17)) (defBody (top 17)) (defScope (top 17)) .none kV17 dc17 pm17 an17 cd17 ct17), sl17⟩)
    (c17 : PySem.W.codeIn K cd17 "is_table" = true)
    (k17 : PySem.W.keepIn K (.ref f17) = true)
    (a19 : PySem.W.nsIn K mainGlobals "idle_in" = some (some (.ref f19)))
    (l19 : K.lookup f19 = some ⟨oc19, od19, .func (PySem.W.fnOf "idle_in" "idle_in" (defArgs (top 19)) (defBody (top 19)) (defScope (top 19)) .none kV19 dc19 pm19 an19 cd19 ct19), sl19⟩)
    (c19 : PySem.W.codeIn K cd19 "idle_in" = true)
    (k19 : PySem.W.keepIn K (.ref f19) = true)
    (a21 : PySem.W.nsIn K mainGlobals "chain_ends" = some (some (.ref f21)))
    (l21 : K.lookup f21 = some ⟨oc21, od21, .func (PySem.W.fnOf "chain_ends" "chain_ends" (defArgs (top 21)) (defBody (top 21)) (defScope (top 21)) .none kV21 dc21 pm21 an21 cd21 ct21), sl21⟩)
    (c21 : PySem.W.codeIn K cd21 "chain_ends" = true)
    (k21 : PySem.W.keepIn K (.ref f21) = true)
    (a22 : PySem.W.nsIn K mainGlobals "told_in" = some (some (.ref f22)))
    (l22 : K.lookup f22 = some ⟨oc22, od22, .func (PySem.W.fnOf "told_in" "told_in" (defArgs (top 22)) (defBody (top 22)) (defScope (top 22)) .none kV22 dc22 pm22 an22 cd22 ct22), sl22⟩)
    (c22 : PySem.W.codeIn K cd22 "told_in" = true)
    (k22 : PySem.W.keepIn K (.ref f22) = true)
    (a23 : PySem.W.nsIn K mainGlobals "told" = some (some (.ref f23)))
    (l23 : K.lookup f23 = some ⟨oc23, od23, .func (PySem.W.fnOf "told" "told" (defArgs (top 23)) (defBody (top 23)) (defScope (top 23)) .none kV23 dc23 pm23 an23 cd23 ct23), sl23⟩)
    (c23 : PySem.W.codeIn K cd23 "told" = true)
    (k23 : PySem.W.keepIn K (.ref f23) = true)
    (a24 : PySem.W.nsIn K mainGlobals "full_in" = some (some (.ref f24)))
    (l24 : K.lookup f24 = some ⟨oc24, od24, .func (PySem.W.fnOf "full_in" "full_in" (defArgs (top 24)) (defBody (top 24)) (defScope (top 24)) .none kV24 dc24 pm24 an24 cd24 ct24), sl24⟩)
    (c24 : PySem.W.codeIn K cd24 "full_in" = true)
    (k24 : PySem.W.keepIn K (.ref f24) = true)
    (a25 : PySem.W.nsIn K mainGlobals "full_set" = some (some (.ref f25)))
    (l25 : K.lookup f25 = some ⟨oc25, od25, .func (PySem.W.fnOf "full_set" "full_set" (defArgs (top 25)) (defBody (top 25)) (defScope (top 25)) .none kV25 dc25 pm25 an25 cd25 ct25), sl25⟩)
    (c25 : PySem.W.codeIn K cd25 "full_set" = true)
    (k25 : PySem.W.keepIn K (.ref f25) = true)
    (a26 : PySem.W.nsIn K mainGlobals "chain" = some (some (.ref f26)))
    (l26 : K.lookup f26 = some ⟨oc26, od26, .func (PySem.W.fnOf "chain" "chain" (defArgs (top 26)) (defBody (top 26)) (defScope (top 26)) .none kV26 dc26 pm26 an26 cd26 ct26), sl26⟩)
    (c26 : PySem.W.codeIn K cd26 "chain" = true)
    (k26 : PySem.W.keepIn K (.ref f26) = true)
    (a27 : PySem.W.nsIn K mainGlobals "tables" = some (some (.ref f27)))
    (l27 : K.lookup f27 = some ⟨oc27, od27, .func (PySem.W.fnOf "tables" "tables" (defArgs (top 27)) (defBody (top 27)) (defScope (top 27)) .none kV27 dc27 pm27 an27 cd27 ct27), sl27⟩)
    (c27 : PySem.W.codeIn K cd27 "tables" = true)
    (k27 : PySem.W.keepIn K (.ref f27) = true)
    (a29 : PySem.W.nsIn K mainGlobals "steps_from" = some (some (.ref f29)))
    (l29 : K.lookup f29 = some ⟨oc29, od29, .func (PySem.W.fnOf "steps_from" "steps_from" (defArgs (top 29)) (defBody (top 29)) (defScope (top 29)) .none kV29 dc29 pm29 an29 cd29 ct29), sl29⟩)
    (c29 : PySem.W.codeIn K cd29 "steps_from" = true)
    (k29 : PySem.W.keepIn K (.ref f29) = true)
    (a30 : PySem.W.nsIn K mainGlobals "steps" = some (some (.ref f30)))
    (l30 : K.lookup f30 = some ⟨oc30, od30, .func (PySem.W.fnOf "steps" "steps" (defArgs (top 30)) (defBody (top 30)) (defScope (top 30)) .none kV30 dc30 pm30 an30 cd30 ct30), sl30⟩)
    (c30 : PySem.W.codeIn K cd30 "steps" = true)
    (k30 : PySem.W.keepIn K (.ref f30) = true)
    (a31 : PySem.W.nsIn K mainGlobals "steps_behind" = some (some (.ref f31)))
    (l31 : K.lookup f31 = some ⟨oc31, od31, .func (PySem.W.fnOf "steps_behind" "steps_behind" (defArgs (top 31)) (defBody (top 31)) (defScope (top 31)) .none kV31 dc31 pm31 an31 cd31 ct31), sl31⟩)
    (c31 : PySem.W.codeIn K cd31 "steps_behind" = true)
    (k31 : PySem.W.keepIn K (.ref f31) = true)
    (a32 : PySem.W.nsIn K mainGlobals "fewest_uncalled" = some (some (.ref f32)))
    (l32 : K.lookup f32 = some ⟨oc32, od32, .func (PySem.W.fnOf "fewest_uncalled" "fewest_uncalled" (defArgs (top 32)) (defBody (top 32)) (defScope (top 32)) .none kV32 dc32 pm32 an32 cd32 ct32), sl32⟩)
    (c32 : PySem.W.codeIn K cd32 "fewest_uncalled" = true)
    (k32 : PySem.W.keepIn K (.ref f32) = true)
    (a34 : PySem.W.nsIn K mainGlobals "_law_taken" = some (some (.ref f34)))
    (l34 : K.lookup f34 = some ⟨oc34, od34, .func (PySem.W.fnOf "_law_taken" "_law_taken" (defArgs (top 34)) (defBody (top 34)) (defScope (top 34)) .none kV34 dc34 pm34 an34 cd34 ct34), sl34⟩)
    (c34 : PySem.W.codeIn K cd34 "_law_taken" = true)
    (k34 : PySem.W.keepIn K (.ref f34) = true)
    (a35 : PySem.W.nsIn K mainGlobals "_law_pick" = some (some (.ref f35)))
    (l35 : K.lookup f35 = some ⟨oc35, od35, .func (PySem.W.fnOf "_law_pick" "_law_pick" (defArgs (top 35)) (defBody (top 35)) (defScope (top 35)) .none kV35 dc35 pm35 an35 cd35 ct35), sl35⟩)
    (c35 : PySem.W.codeIn K cd35 "_law_pick" = true)
    (k35 : PySem.W.keepIn K (.ref f35) = true)
    (a36 : PySem.W.nsIn K mainGlobals "_law_by" = some (some (.ref f36)))
    (l36 : K.lookup f36 = some ⟨oc36, od36, .func (PySem.W.fnOf "_law_by" "_law_by" (defArgs (top 36)) (defBody (top 36)) (defScope (top 36)) .none kV36 dc36 pm36 an36 cd36 ct36), sl36⟩)
    (c36 : PySem.W.codeIn K cd36 "_law_by" = true)
    (k36 : PySem.W.keepIn K (.ref f36) = true)
    (a37 : PySem.W.nsIn K mainGlobals "_law_web" = some (some (.ref f37)))
    (l37 : K.lookup f37 = some ⟨oc37, od37, .func (PySem.W.fnOf "_law_web" "_law_web" (defArgs (top 37)) (defBody (top 37)) (defScope (top 37)) .none kV37 dc37 pm37 an37 cd37 ct37), sl37⟩)
    (c37 : PySem.W.codeIn K cd37 "_law_web" = true)
    (k37 : PySem.W.keepIn K (.ref f37) = true)
    (a38 : PySem.W.nsIn K mainGlobals "_law_sets" = some (some (.ref f38)))
    (l38 : K.lookup f38 = some ⟨oc38, od38, .func (PySem.W.fnOf "_law_sets" "_law_sets" (defArgs (top 38)) (defBody (top 38)) (defScope (top 38)) .none kV38 dc38 pm38 an38 cd38 ct38), sl38⟩)
    (c38 : PySem.W.codeIn K cd38 "_law_sets" = true)
    (k38 : PySem.W.keepIn K (.ref f38) = true)
    (a39 : PySem.W.nsIn K mainGlobals "law" = some (some (.ref f39)))
    (l39 : K.lookup f39 = some ⟨oc39, od39, .func (PySem.W.fnOf "law" "law" (defArgs (top 39)) (defBody (top 39)) (defScope (top 39)) .none kV39 dc39 pm39 an39 cd39 ct39), sl39⟩)
    (c39 : PySem.W.codeIn K cd39 "law" = true)
    (k39 : PySem.W.keepIn K (.ref f39) = true)
    (zisi : PySem.W.nsIn K mainGlobals "isinstance" = some none)
    (zint : PySem.W.nsIn K mainGlobals "int" = some none)
    (zbool : PySem.W.nsIn K mainGlobals "bool" = some none)
    (ztuple : PySem.W.nsIn K mainGlobals "tuple" = some none)
    (zlen : PySem.W.nsIn K mainGlobals "len" = some none)
    (zall : PySem.W.nsIn K mainGlobals "all" = some none)
    (zany : PySem.W.nsIn K mainGlobals "any" = some none)
    (zlist : PySem.W.nsIn K mainGlobals "list" = some none)
    (zsorted : PySem.W.nsIn K mainGlobals "sorted" = some none)
    (zset : PySem.W.nsIn K mainGlobals "set" = some none)
    (zenum : PySem.W.nsIn K mainGlobals "enumerate" = some none)
    (zrange : PySem.W.nsIn K mainGlobals "range" = some none)
    (zmin : PySem.W.nsIn K mainGlobals "min" = some none)
    (zmost : PySem.W.nsIn K mainGlobals "MOST_PEOPLE" = some (some (.int 8 tM))) :
    ∃ fd : FuncData, (∀ (s : Shared) (v : Value), BindsTo s fd ⟨[v], []⟩ [("_law_script", v)]) ∧ ∀ base : Heap, K.In base → base.Ns mainGlobals mg → FnOk l.prog w K mg base CX0 5 fa fd ["_law_script"] (spLaw K) := by
  have e := hfa.symm.trans (PySem.W.mg_of X G a39)
  cases e
  have T : Bt mg := ⟨PySem.W.mg_none_of X G zisi, PySem.W.mg_none_of X G zint, PySem.W.mg_none_of X G zbool, PySem.W.mg_none_of X G ztuple, PySem.W.mg_none_of X G zlen, PySem.W.mg_none_of X G zall, PySem.W.mg_none_of X G zany, PySem.W.mg_none_of X G zlist, PySem.W.mg_none_of X G zsorted, PySem.W.mg_none_of X G zset, PySem.W.mg_none_of X G zenum, PySem.W.mg_none_of X G zrange, PySem.W.mg_none_of X G zmin, ⟨_, PySem.W.mg_of X G zmost⟩⟩
  have F1 := fun_mk (st := top 1) l1 c1 k1
  have F2 := fun_mk (st := top 2) l2 c2 k2
  have F3 := fun_mk (st := top 3) l3 c3 k3
  have F11 := fun_mk (st := top 11) l11 c11 k11
  have F12 := fun_mk (st := top 12) l12 c12 k12
  have F13 := fun_mk (st := top 13) l13 c13 k13
  have F14 := fun_mk (st := top 14) l14 c14 k14
  have F15 := fun_mk (st := top 15) l15 c15 k15
  have F16 := fun_mk (st := top 16) l16 c16 k16
  have F17 := fun_mk (st := top 17) l17 c17 k17
  have F19 := fun_mk (st := top 19) l19 c19 k19
  have F21 := fun_mk (st := top 21) l21 c21 k21
  have F22 := fun_mk (st := top 22) l22 c22 k22
  have F23 := fun_mk (st := top 23) l23 c23 k23
  have F24 := fun_mk (st := top 24) l24 c24 k24
  have F25 := fun_mk (st := top 25) l25 c25 k25
  have F26 := fun_mk (st := top 26) l26 c26 k26
  have F27 := fun_mk (st := top 27) l27 c27 k27
  have F29 := fun_mk (st := top 29) l29 c29 k29
  have F30 := fun_mk (st := top 30) l30 c30 k30
  have F31 := fun_mk (st := top 31) l31 c31 k31
  have F32 := fun_mk (st := top 32) l32 c32 k32
  have F34 := fun_mk (st := top 34) l34 c34 k34
  have F35 := fun_mk (st := top 35) l35 c35 k35
  have F36 := fun_mk (st := top 36) l36 c36 k36
  have F37 := fun_mk (st := top 37) l37 c37 k37
  have F38 := fun_mk (st := top 38) l38 c38 k38
  refine ⟨PySem.W.fnOf "law" "law" (defArgs (top 39)) (defBody (top 39)) (defScope (top 39)) .none kV39 dc39 pm39 an39 cd39 ct39, fun s v => .of_eq rfl, fun base _ _ => ?_⟩
  have C1 : Cl l.prog w K mg base 1 "is_integer" ["value"] spIsInt := Cl.of F1 (PySem.W.mg_of X G a1) (ok_is_integer F1 T) (F1.binds (ps := ["value"]) fun _ _ _ _ _ _ us hl => match us, hl with | [_], _ => rfl)
  have C2 : Cl l.prog w K mg base 2 "is_in" ["value", "least", "most"] spIsIn := Cl.of F2 (PySem.W.mg_of X G a2) (ok_is_in F2 T C1) (F2.binds (ps := ["value", "least", "most"]) fun _ _ _ _ _ _ us hl => match us, hl with | [_, _, _], _ => rfl)
  have C3 : Cl l.prog w K mg base 1 "is_list" ["value", "least", "most"] spIsList := Cl.of F3 (PySem.W.mg_of X G a3) (ok_is_list F3 T) (F3.binds (ps := ["value", "least", "most"]) fun _ _ _ _ _ _ us hl => match us, hl with | [_, _, _], _ => rfl)
  have C11 : Cl l.prog w K mg base 3 "need_web" ["web"] spNeedWeb := Cl.of F11 (PySem.W.mg_of X G a11) (ok_need_web F11 T C2 C3) (F11.binds (ps := ["web"]) fun _ _ _ _ _ _ us hl => match us, hl with | [_], _ => rfl)
  have C12 : Cl l.prog w K mg base 3 "need_person" ["web", "person"] spPerson := Cl.of F12 (PySem.W.mg_of X G a12) (ok_need_person F12 T C2) (F12.binds (ps := ["web", "person"]) fun _ _ _ _ _ _ us hl => match us, hl with | [_, _], _ => rfl)
  have C13 : Cl l.prog w K mg base 3 "need_people" ["web", "people"] spPeople := Cl.of F13 (PySem.W.mg_of X G a13) (ok_need_people F13 T C2 C3) (F13.binds (ps := ["web", "people"]) fun _ _ _ _ _ _ us hl => match us, hl with | [_, _], _ => rfl)
  have C14 : Cl l.prog w K mg base 4 "friends" ["web", "person"] spFriends := Cl.of F14 (PySem.W.mg_of X G a14) (ok_friends F14 T C11 C12) (F14.binds (ps := ["web", "person"]) fun _ _ _ _ _ _ us hl => match us, hl with | [_, _], _ => rfl)
  have C15 : Cl l.prog w K mg base 4 "are_friends" ["web", "one", "other"] spAreFriends := Cl.of F15 (PySem.W.mg_of X G a15) (ok_are_friends F15 T C11 C12) (F15.binds (ps := ["web", "one", "other"]) fun _ _ _ _ _ _ us hl => match us, hl with | [_, _, _], _ => rfl)
  have C16 : Cl l.prog w K mg base 1 "web_by" ["people", "some"] spWebBy := Cl.of F16 (PySem.W.mg_of X G a16) (ok_web_by F16 T) (F16.binds (ps := ["people", "some"]) fun _ _ _ _ _ _ us hl => match us, hl with | [_, _], _ => rfl)
  have C17 : Cl l.prog w K mg base 1 "is_table" ["web", "people"] spTable := Cl.of F17 (PySem.W.mg_of X G a17) (ok_is_table F17 T) (F17.binds (ps := ["web", "people"]) fun _ _ _ _ _ _ us hl => match us, hl with | [_, _], _ => rfl)
  have C19 : Cl l.prog w K mg base 2 "idle_in" ["web"] spIdle := Cl.of F19 (PySem.W.mg_of X G a19) (ok_idle_in F19 T C17) (F19.binds (ps := ["web"]) fun _ _ _ _ _ _ us hl => match us, hl with | [_], _ => rfl)
  have C21 : Cl l.prog w K mg base 1 "chain_ends" ["web", "called", "person"] spEnds := Cl.of F21 (PySem.W.mg_of X G a21) (ok_chain_ends F21 T) (F21.binds (ps := ["web", "called", "person"]) fun _ _ _ _ _ _ us hl => match us, hl with | [_, _, _], _ => rfl)
  have C22 : Cl l.prog w K mg base 2 "told_in" ["web", "called"] spToldIn := Cl.of F22 (PySem.W.mg_of X G a22) (ok_told_in F22 T C21 C16) (F22.binds (ps := ["web", "called"]) fun _ _ _ _ _ _ us hl => match us, hl with | [_, _], _ => rfl)
  have C23 : Cl l.prog w K mg base 4 "told" ["web", "called"] spTold := Cl.of F23 (PySem.W.mg_of X G a23) (ok_told F23 T C11 C13 C22) (F23.binds (ps := ["web", "called"]) fun _ _ _ _ _ _ us hl => match us, hl with | [_, _], _ => rfl)
  have C24 : Cl l.prog w K mg base 3 "full_in" ["web", "called"] spFullIn := Cl.of F24 (PySem.W.mg_of X G a24) (ok_full_in F24 T C19 C22) (F24.binds (ps := ["web", "called"]) fun _ _ _ _ _ _ us hl => match us, hl with | [_, _], _ => rfl)
  have C25 : Cl l.prog w K mg base 4 "full_set" ["web", "called"] spFullSet := Cl.of F25 (PySem.W.mg_of X G a25) (ok_full_set F25 T C11 C13 C24) (F25.binds (ps := ["web", "called"]) fun _ _ _ _ _ _ us hl => match us, hl with | [_, _], _ => rfl)
  have C26 : Cl l.prog w K mg base 4 "chain" ["web", "called", "one", "other"] spChain := Cl.of F26 (PySem.W.mg_of X G a26) (ok_chain F26 T C11 C13 C12) (F26.binds (ps := ["web", "called", "one", "other"]) fun _ _ _ _ _ _ us hl => match us, hl with | [_, _, _, _], _ => rfl)
  have C27 : Cl l.prog w K mg base 4 "tables" ["web", "called"] spTables := Cl.of F27 (PySem.W.mg_of X G a27) (ok_tables F27 T C11 C13) (F27.binds (ps := ["web", "called"]) fun _ _ _ _ _ _ us hl => match us, hl with | [_, _], _ => rfl)
  have C29 : Cl l.prog w K mg base 1 "steps_from" ["web", "person"] spStepsFrom := Cl.of F29 (PySem.W.mg_of X G a29) (ok_steps_from F29 T) (F29.binds (ps := ["web", "person"]) fun _ _ _ _ _ _ us hl => match us, hl with | [_, _], _ => rfl)
  have C30 : Cl l.prog w K mg base 4 "steps" ["web", "one", "other"] spSteps := Cl.of F30 (PySem.W.mg_of X G a30) (ok_steps F30 T C11 C12 C29) (F30.binds (ps := ["web", "one", "other"]) fun _ _ _ _ _ _ us hl => match us, hl with | [_, _, _], _ => rfl)
  have C31 : Cl l.prog w K mg base 4 "steps_behind" ["web", "called", "one", "other"] spBehind := Cl.of F31 (PySem.W.mg_of X G a31) (ok_steps_behind F31 T C11 C13 C12 C22 C29) (F31.binds (ps := ["web", "called", "one", "other"]) fun _ _ _ _ _ _ us hl => match us, hl with | [_, _, _, _], _ => rfl)
  have C32 : Cl l.prog w K mg base 4 "fewest_uncalled" ["web", "called", "one", "other"] spFewest := Cl.of F32 (PySem.W.mg_of X G a32) (ok_fewest F32 T C11 C13 C12) (F32.binds (ps := ["web", "called", "one", "other"]) fun _ _ _ _ _ _ us hl => match us, hl with | [_, _, _, _], _ => rfl)
  have C34 : Cl l.prog w K mg base 1 "_law_taken" ["_law_row", "_law_many"] (spTaken K) := Cl.of F34 (PySem.W.mg_of X G a34) (ok_taken F34 T) (F34.binds (ps := ["_law_row", "_law_many"]) fun _ _ _ _ _ _ us hl => match us, hl with | [_, _], _ => rfl)
  have C35 : Cl l.prog w K mg base 2 "_law_pick" ["_law_row", "_law_kinds"] (spPick K) := Cl.of F35 (PySem.W.mg_of X G a35) (ok_pick F35 T C34) (F35.binds (ps := ["_law_row", "_law_kinds"]) fun _ _ _ _ _ _ us hl => match us, hl with | [_, _], _ => rfl)
  have C36 : Cl l.prog w K mg base 1 "_law_by" ["_law_many", "_law_couples"] spLawBy := Cl.of F36 (PySem.W.mg_of X G a36) (ok_law_by F36 T) (F36.binds (ps := ["_law_many", "_law_couples"]) fun _ _ _ _ _ _ us hl => match us, hl with | [_, _], _ => rfl)
  have C37 : Cl l.prog w K mg base 2 "_law_web" ["_law_row", "_law_most"] (spLawWeb K) := Cl.of F37 (PySem.W.mg_of X G a37) (ok_law_web F37 T C34 C36) (F37.binds (ps := ["_law_row", "_law_most"]) fun _ _ _ _ _ _ us hl => match us, hl with | [_, _], _ => rfl)
  have C38 : Cl l.prog w K mg base 1 "_law_sets" ["_law_many"] spLawSets := Cl.of F38 (PySem.W.mg_of X G a38) (ok_law_sets F38 T) (F38.binds (ps := ["_law_many"]) fun _ _ _ _ _ _ us hl => match us, hl with | [_], _ => rfl)
  exact ok_law (fun_mk (st := top 39) l39 c39 k39) T ⟨C14, C15, C23, C25, C26, C27, C30, C31, C32, C34, C35, C37, C38⟩
theorem walk {l : PySem.W.OpenLaw} {q : Program} {loose : List Str} {XP : (Str → Option Value) → Heap → Prop} {YP : World → Heap → Prop} {d : DefRec} {K : Params → PySem.W.Frag} (hn : l.most = some 63) (hdf : d.params.defaults = [])
    (hY : ∀ (w : World) (h : Heap), YP w h → (K w.params).In h)
    (F : ∀ (w : World) (mg : Str → Option Value) (fa : Addr) (h : Heap), (K w.params).In h → h.Ns mainGlobals mg → mg d.name = some (.ref fa) →
      ∃ fd : FuncData, (∀ (s : Shared) (u : Value), BindsTo s fd ⟨[u], []⟩ [("_law_script", u)]) ∧ ∀ base : Heap, (K w.params).In base → base.Ns mainGlobals mg → FnOk l.prog w (K w.params) mg base CX0 5 fa fd ["_law_script"] (spLaw (K w.params))) :
    PySem.W.WalkO q loose XP YP l.row.toRowW d [] (fun f vs => PySem.call f vs) :=
  L2.walk_of (n := 63) (k := 5) (x := "_law_script") (CX := fun _ => CX0) (sp := fun w => spLaw (K w.params)) hn (by decide) hdf ⟨rfl, by decide, by decide⟩ hY F (fun _ _ a ns _ _ hS => ⟨a, ns, rfl, hS, fun _ => rfl⟩) fun _ _ _ _ _ z => z
end K75
open PySem PySem.W PyProof.Rows in
set_option maxRecDepth 100000 in
set_option maxHeartbeats 0 in
theorem PySem.Challenge.cw_introducers_k75_whole_chains_compared_holds : PySem.Challenge.rw_introducers_k75_whole_chains_compared.Holds := by
  w_on; o_law; k_head; (case hw => w_witness2)
  k_fill
  refine K75.walk (l := PySem.Challenge.rw_introducers_k75_whole_chains_compared) rfl rfl (fun w h Y => PySem.W.kIn_of Y) ?F
  case F =>
    intro w mg fa h KX G hmg
    refine' K75.all_mk KX G hmg ?a1 ?l1 ?c1 ?k1 ?a2 ?l2 ?c2 ?k2 ?a3 ?l3 ?c3 ?k3 ?a11 ?l11 ?c11 ?k11 ?a12 ?l12 ?c12 ?k12 ?a13 ?l13 ?c13 ?k13 ?a14 ?l14 ?c14 ?k14 ?a15 ?l15 ?c15 ?k15 ?a16 ?l16 ?c16 ?k16 ?a17 ?l17 ?c17 ?k17 ?a19 ?l19 ?c19 ?k19 ?a21 ?l21 ?c21 ?k21 ?a22 ?l22 ?c22 ?k22 ?a23 ?l23 ?c23 ?k23 ?a24 ?l24 ?c24 ?k24 ?a25 ?l25 ?c25 ?k25 ?a26 ?l26 ?c26 ?k26 ?a27 ?l27 ?c27 ?k27 ?a29 ?l29 ?c29 ?k29 ?a30 ?l30 ?c30 ?k30 ?a31 ?l31 ?c31 ?k31 ?a32 ?l32 ?c32 ?k32 ?a34 ?l34 ?c34 ?k34 ?a35 ?l35 ?c35 ?k35 ?a36 ?l36 ?c36 ?k36 ?a37 ?l37 ?c37 ?k37 ?a38 ?l38 ?c38 ?k38 ?a39 ?l39 ?c39 ?k39 ?zisi ?zint ?zbool ?ztuple ?zlen ?zall ?zany ?zlist ?zsorted ?zset ?zenum ?zrange ?zmin ?zmost
    (case a1 => k_is)
    (case l1 => k_is)
    (case c1 => k_is)
    (case k1 => k_is)
    (case a2 => k_is)
    (case l2 => k_is)
    (case c2 => k_is)
    (case k2 => k_is)
    (case a3 => k_is)
    (case l3 => k_is)
    (case c3 => k_is)
    (case k3 => k_is)
    (case a11 => k_is)
    (case l11 => k_is)
    (case c11 => k_is)
    (case k11 => k_is)
    (case a12 => k_is)
    (case l12 => k_is)
    (case c12 => k_is)
    (case k12 => k_is)
    (case a13 => k_is)
    (case l13 => k_is)
    (case c13 => k_is)
    (case k13 => k_is)
    (case a14 => k_is)
    (case l14 => k_is)
    (case c14 => k_is)
    (case k14 => k_is)
    (case a15 => k_is)
    (case l15 => k_is)
    (case c15 => k_is)
    (case k15 => k_is)
    (case a16 => k_is)
    (case l16 => k_is)
    (case c16 => k_is)
    (case k16 => k_is)
    (case a17 => k_is)
    (case l17 => k_is)
    (case c17 => k_is)
    (case k17 => k_is)
    (case a19 => k_is)
    (case l19 => k_is)
    (case c19 => k_is)
    (case k19 => k_is)
    (case a21 => k_is)
    (case l21 => k_is)
    (case c21 => k_is)
    (case k21 => k_is)
    (case a22 => k_is)
    (case l22 => k_is)
    (case c22 => k_is)
    (case k22 => k_is)
    (case a23 => k_is)
    (case l23 => k_is)
    (case c23 => k_is)
    (case k23 => k_is)
    (case a24 => k_is)
    (case l24 => k_is)
    (case c24 => k_is)
    (case k24 => k_is)
    (case a25 => k_is)
    (case l25 => k_is)
    (case c25 => k_is)
    (case k25 => k_is)
    (case a26 => k_is)
    (case l26 => k_is)
    (case c26 => k_is)
    (case k26 => k_is)
    (case a27 => k_is)
    (case l27 => k_is)
    (case c27 => k_is)
    (case k27 => k_is)
    (case a29 => k_is)
    (case l29 => k_is)
    (case c29 => k_is)
    (case k29 => k_is)
    (case a30 => k_is)
    (case l30 => k_is)
    (case c30 => k_is)
    (case k30 => k_is)
    (case a31 => k_is)
    (case l31 => k_is)
    (case c31 => k_is)
    (case k31 => k_is)
    (case a32 => k_is)
    (case l32 => k_is)
    (case c32 => k_is)
    (case k32 => k_is)
    (case a34 => k_is)
    (case l34 => k_is)
    (case c34 => k_is)
    (case k34 => k_is)
    (case a35 => k_is)
    (case l35 => k_is)
    (case c35 => k_is)
    (case k35 => k_is)
    (case a36 => k_is)
    (case l36 => k_is)
    (case c36 => k_is)
    (case k36 => k_is)
    (case a37 => k_is)
    (case l37 => k_is)
    (case c37 => k_is)
    (case k37 => k_is)
    (case a38 => k_is)
    (case l38 => k_is)
    (case c38 => k_is)
    (case k38 => k_is)
    (case a39 => k_is)
    (case l39 => k_is)
    (case c39 => k_is)
    (case k39 => k_is)
    (case zisi => k_is)
    (case zint => k_is)
    (case zbool => k_is)
    (case ztuple => k_is)
    (case zlen => k_is)
    (case zall => k_is)
    (case zany => k_is)
    (case zlist => k_is)
    (case zsorted => k_is)
    (case zset => k_is)
    (case zenum => k_is)
    (case zrange => k_is)
    (case zmin => k_is)
    (case zmost => k_is)
