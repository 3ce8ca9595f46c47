import PyProof.Rows.All
import Wide.All
import OpenK.AllK
import Wide.FinOn
import HandS.ForMost
import HandS.Exc
import HandS.Defaults
import HandS.IsInst
import HandS.SortInts
import HandS.Wide
import HandS.Style
import HandS.Flow
import HandS.Star
import HandS.Codes
import KE.KDictPairs
import KE.GoesMore
import PyProof.ReprRoads
import KE.KRevSl
import HandS.Head0
import HandS.Head1
import HandS.Head2
import HandS.HeadEnd
import HandS.HeadHook1
import HandS.HeadHook2
import HandS.Walk
import PySem.Challenge.RW_samegaps_k84_whole_kept_differences
set_option Elab.async false
set_option linter.all false
set_option maxRecDepth 100000
set_option maxHeartbeats 4000000
/-! ## SgA1 -/
namespace Sg
open PySem PySem.Spec PyProof.Rows L2
section
variable {X : Cx}
/-! ### repr of data -/
def rRepr (K : PySem.W.Frag) : List V → Hp → VK → Prop := fun xs H Q => ∃ (a : Addr) (d : PyData), xs = [.ref a] ∧ Dp K H (.ref a) d ∧ d.showable = true ∧ d.hasDict = false ∧ d.depth ≤ 60 ∧ d.shown.length ≤ sizeLine ∧ Q (.str d.shown) H
theorem call_reprD (hg : X.A.guards = some []) (hu : X.A.units + 64 < cLine) : CallR X (.builtin "repr") (rRepr X.K) := by
  intro pins s σ H xs us Q I r h
  obtain ⟨a, d, rfl, hd, h1, h2, h3, h4, q⟩ := h
  obtain ⟨u, rfl, rx⟩ := vals1 r
  cases rx
  obtain ⟨as, hr⟩ := Dp.reads I d _ _ hd rfl
  exact repr_of_reads' hr h1 (PyData.noDict_hsm h2) hg (by omega) (fun _ _ e => e) (fun h' t tk hk => ⟨.str d.shown, H, I.kept hk, ⟨t, rfl⟩, q⟩) h4
/-! ### tuple(list): a new tuple, known to the object -/
def rTupF (K : PySem.W.Frag) : List V → Hp → VK → Prop := fun xs H Q => ∃ (p : Addr) (ys : List V), xs = [.ref p] ∧ SqL K H p ys ∧ ∀ (l : Addr) (o : Obj), H l = none → o.dict = none → Q (.ref l) (upd H l (.frz o (.tup ys)))
theorem call_tupF : CallR X (.type "tuple") (rTupF X.K) := by
  intro pins s σ H xs us Q I r h
  obtain ⟨p, ys, rfl, hq, q⟩ := h
  obtain ⟨u, rfl, rx⟩ := vals1 r
  cases rx
  obtain ⟨its, rv, pl, hz⟩ := I.list hq
  have hlen := rv.length
  refine call_tuple_list pl.isList (fun h' kp => ?_) (by rw [List.size_toArray]; omega)
  have I1 : Inv X pins σ H { s with heap := h' } := I.kept (t' := s.toks) kp
  have hn := I1.hok.fresh (Nat.le_refl h'.objs.size)
  have e : (h'.push { cls := .type "tuple", data := .seq its.toArray }).get? h'.objs.size = some { cls := .type "tuple", data := .seq its.toArray } := Heap.get?_push_size _ rfl
  exact ⟨.ref h'.objs.size, _, I1.laid (t' := s.toks) (o := .frz { cls := .type "tuple", data := .seq its.toArray } (.tup ys)) (fun b o e => Heap.get?_push_of_some _ e) (Nat.le_refl _)
    (show ObjOk X.prog X.w _ _ _ (.frz _ (.tup ys)) from ⟨e, hz, its, rv, _, e, rfl, _, rfl⟩), rfl, q _ _ hn rfl⟩
/-! ### == and != with an empty list -/
def rEqNil (K : PySem.W.Frag) (neg : Bool) : R2 := fun x y H Q => ∃ (a b : Addr) (xs : List V), x = .ref a ∧ y = .ref b ∧ SqL K H a xs ∧ SqL K H b [] ∧ Q (.bl (if neg = true then !xs.isEmpty else xs.isEmpty)) H
theorem op_eqNil (hu : X.A.units < cLine) : OpR X (compareOp .Eq) (rEqNil X.K false) := by
  intro pins s σ H x y v u Q I rx ry h
  obtain ⟨a, b, xs, rfl, rfl, ha, hb, q⟩ := h
  cases rx
  cases ry
  obtain ⟨its, r1, p1, _⟩ := I.list ha
  obtain ⟨ity, r2, p2, _⟩ := I.list hb
  cases r2
  cases r1 with
  | nil =>
    refine SeqAt.RcAt.lists (e := fun _ => true) p1.isList p2.isList rfl hu (fun j h1 _ => absurd h1 (Nat.not_lt_zero j)) _ _ _ _ ?_
    exact ⟨.bl true, H, I, rfl, q⟩
  | cons h t =>
    refine SeqAt.RcAt.lists_lengths p1.isList p2.isList ?_ hu _ _ _ _ ?_
    · simp
    · exact ⟨.bl false, H, I, rfl, q⟩
theorem op_neNil (hu : X.A.units < cLine) : OpR X (compareOp .NotEq) (rEqNil X.K true) := by
  intro pins s σ H x y v u Q I rx ry h
  obtain ⟨a, b, xs, rfl, rfl, ha, hb, q⟩ := h
  cases rx
  cases ry
  obtain ⟨its, r1, p1, _⟩ := I.list ha
  obtain ⟨ity, r2, p2, _⟩ := I.list hb
  cases r2
  cases r1 with
  | nil =>
    refine SeqAt.RcNeAt.lists (e := fun _ => true) p1.isList p2.isList rfl hu (fun j h1 _ => absurd h1 (Nat.not_lt_zero j)) _ _ _ _ ?_
    exact ⟨.bl false, H, I, rfl, q⟩
  | cons h t =>
    refine SeqAt.RcNeAt.lists_lengths p1.isList p2.isList ?_ hu _ _ _ _ ?_
    · simp
    · exact ⟨.bl true, H, I, rfl, q⟩
end
end Sg
/-! ## SgA2 -/
namespace Sg
open PySem PySem.Spec PyProof.Rows L2
section
variable {X : Cx}
/-! ### dict(t), t a tuple of pairs -/
theorem pairs_raw {pins : List (Addr × Obj)} {σ : L2.St} {H : Hp} {s : Shared} (I : Inv X pins σ H s) : ∀ {ps : List Addr} {kvs : List (Key × V)}, Paired (fun p kv => SqT X.K H p [kV kv.1, kv.2]) ps kvs →
    ∃ (raw : List (Value × Value)) (prs : List (Key × Value)), KV kvs prs ∧ raw.length = ps.length ∧ prs.length = ps.length ∧
      ∀ (j : Nat) (k v : Value), raw[j]? = some (k, v) → ps[j]? = some (ps.getD j 0) ∧ PairAt s.heap (ps.getD j 0) k v ∧ ∃ key, prs[j]? = some (key, v) ∧ (mixKind X.prog X.w).is key k = true
  | _, _, .nil => ⟨[], [], .nil, rfl, rfl, fun j k v e => by simp at e⟩
  | _, _, .cons (a := p) (b := kv) h t => by
    obtain ⟨raw, prs, rel, h1, h2, hp⟩ := pairs_raw I t
    obtain ⟨its, rv, ht, _⟩ := I.tuple h
    obtain ⟨u, y, ei, ru, ry⟩ := vals2 rv
    subst ei
    refine ⟨(u, y) :: raw, (kv.1, y) :: prs, .cons ⟨rfl, ry⟩ rel, congrArg Nat.succ h1, congrArg Nat.succ h2, fun j k v e => ?_⟩
    cases j with
    | zero =>
      cases (show (u, y) = (k, v) from Option.some.inj e)
      exact ⟨rfl, .inl ht, kv.1, rfl, kV_is ru⟩
    | succ j => exact hp j k v e
def rDictT (K : PySem.W.Frag) : List V → Hp → VK → Prop := fun xs H Q => ∃ (a : Addr) (o : Obj) (ps : List Addr) (kvs : List (Key × V)), xs = [.ref a] ∧ H a = some (.frz o (.tup (ps.map V.ref))) ∧ o.dict = none ∧
  Paired (fun p kv => SqT K H p [kV kv.1, kv.2]) ps kvs ∧ ∀ p, H p = none → Q (.ref p) (upd H p (.dK (mergeK [] kvs)))
theorem call_dictT (hcalm : X.calm = true) : CallR X (.type "dict") (rDictT X.K) := by
  intro pins s σ H xs us Q I r h
  obtain ⟨a, o, ps, kvs, rfl, ha, hod, hp, q⟩ := h
  obtain ⟨u, rfl, rx⟩ := vals1 r
  cases rx
  obtain ⟨ho, hz, its, rv, o2, ho2, hc, n, hdat⟩ := I.hok a _ ha
  rw [ho] at ho2
  cases ho2
  have ei := refs_at rv
  subst ei
  rw [List.length_map] at hz
  obtain ⟨raw, prs, rel, h1, h2, hpr⟩ := pairs_raw I hp
  have ok : PlainSeq "tuple" s.heap a (ps.map Value.ref).toArray ∧ PairItems s.heap (ps.map Value.ref).toArray (fun j => ps.getD j 0) raw := by
    refine ⟨⟨_, n, ho, hc, hod, hdat⟩, by rw [List.size_toArray, List.length_map, h1], fun j k v e => ?_⟩
    obtain ⟨e1, e2, _⟩ := hpr j k v e
    refine ⟨?_, e2⟩
    rw [List.getElem?_toArray, List.getElem?_map, e1]
    rfl
  refine PySem.call_dict_pairs (knd := mixKind X.prog X.w) (kvs := prs) (PairArg.tuple a (ps.map Value.ref).toArray (fun j => ps.getD j 0) raw) (I.ok.hd hcalm) ok ⟨by rw [h2, h1], fun i key v e => ?_⟩ (by rw [h1]; exact hz) fun h' tk hd' hk => ?_
  · obtain ⟨_, _, key', e3, e4⟩ := hpr i key v e
    exact ⟨key', e3, e4⟩
  · have hm : (s.heap.objs.size == sysModules) = false := beq_eq_false_iff_ne.mpr (Nat.ne_of_gt I.big)
    have hlen : (mergeK [] kvs).length ≤ sizeLine := by
      refine Nat.le_trans (length_mergeK kvs []) ?_
      rw [List.length_nil, Nat.zero_add, rel.length, h2]
      exact hz
    exact ⟨.ref s.heap.objs.size, upd H s.heap.objs.size (.dK (mergeK [] kvs)), I.laid (t' := tk) (fun b o e => hk b o (by simp) e) (Nat.le_refl _)
      (show ObjOk X.prog X.w _ _ _ (.dK (mergeK [] kvs)) from ⟨hlen, hm, merged [] prs, KV.merge rel .nil, hd'⟩), rfl, q _ (I.hok.fresh (Nat.le_refl _))⟩
/-! ### sorted(d), d a dict of any number of int keys -/
def rSortD : List V → Hp → VK → Prop := fun xs H Q => ∃ (a : Addr) (kvs : List (Key × V)) (ks : List Int), xs = [.ref a] ∧ Rd H a (.dK kvs) ∧ kvs.map (·.1) = ks.map Sum.inl ∧
  ∀ (ys : List Int) (p : Addr), ys.Perm ks → ys.Pairwise (· ≤ ·) → H p = none → Q (.ref p) (upd H p (.lst (ys.map V.int)))
theorem call_sortDA (hcalm : X.calm = true) : CallR X (.builtin "sorted") rSortD := by
  intro pins s σ H xs us Q I r h
  obtain ⟨a, kvs, ks, rfl, hd, hks, q⟩ := h
  obtain ⟨u, rfl, rx⟩ := vals1 r
  cases rx
  obtain ⟨z, lo, vs, rel, dd⟩ := dk_rd I.hok hd
  obtain ⟨ep, hat⟩ := dd.dictAt
  have hkeys : vs.map (·.1) = ks.map Sum.inl := rel.keys.symm.trans hks
  have hl : vs.length = ks.length := by
    have e := congrArg List.length hkeys
    rw [List.length_map, List.length_map] at e
    exact e
  have hz : vs.length ≤ sizeLine := by rw [← rel.length]; exact z
  refine Calls.call_function_entry PyProof.Rows.kind_sorted PyProof.Rows.plain_sorted PyProof.Rows.entry_sorted (PyProof.Rows.args_sorted1 _) ?_
  unfold Builtin.«sorted»
  refine wpAny_bind (m := checkCount "sorted" 1 1 _) (wpAny_pure ?_)
  refine wpAny_bind (PySem.W.kdu_collect (A := X.A.in1) (PySem.W.kdl_dict (knd := mixKind X.prog X.w) (kvs := vs) (ep := ep) lo) (I.ok.hd hcalm) hat hz fun h' tk acc hk hacc => ?_)
  have hal : acc.toList.length = ks.length := by rw [Array.length_toList, hacc.1, hl]
  have hS : IntsAre acc.toList ks := ints_each hal fun j v e => by
    obtain ⟨k, x, e1, e2⟩ := hacc.2 j v (by rw [← Array.getElem?_toList]; exact e)
    have e3 : (vs.map (·.1))[j]? = some k := by rw [List.getElem?_map, e1]; rfl
    rw [hkeys, List.getElem?_map] at e3
    cases e4 : ks[j]? with
    | none => rw [e4] at e3; cases e3
    | some y =>
      rw [e4] at e3
      cases (show Sum.inl y = k from Option.some.inj e3)
      rcases keyIs_shape (show keyIs (Sum.inl y) v = true from e2) with ⟨i, t, ek, ev⟩ | ⟨z, t, ek, ev⟩
      · cases ek
        exact ⟨y, t, rfl, ev⟩
      · cases ek
  have hz2 : acc.toList.length ≤ sizeLine := by rw [hal, ← hl]; exact hz
  have I1 : Inv X pins σ H { s with heap := h', toks := tk } := I.kept hk
  refine wpAny_bind (wpAny_newList ?_ hz2)
  have hoL : (h'.push (seqObj "list" acc.toList.toArray 0)).get? h'.objs.size = some (seqObj "list" acc.toList.toArray 0) := Heap.get?_push_size _ rfl
  show wpAny _ _ _ _ _ { s with heap := h'.push (seqObj "list" acc.toList.toArray 0), toks := tk }
  refine wpAny_bind (wpAny_holding (wpAny_call_entry PyProof.Rows.slot_list_sort ⟨_, hoL, rfl⟩ PyProof.Rows.entry_list_sort
    (SrtO.list_sort_ord SrtO.swo_int hoL hz2 (fun k2 => SrtO.ints_sortable hS k2) fun out g1 g2 => ⟨_, rfl, ?_⟩) (PyProof.Rows.args_list_sort _)))
  obtain ⟨k1, k2, k3⟩ := SrtO.ints_out hS g1 g2
  obtain ⟨e', he'⟩ := PyProof.Rows.sortedHeap_at (vs := acc.toList) (out := out.toArray) hoL
  have hlen : ((out.map SrtO.iv).map V.int).length ≤ sizeLine := by
    rw [List.length_map, k2.length_eq, ← hl]
    exact hz
  refine wpAny_pure ⟨_, rfl, .ref h'.objs.size, upd H h'.objs.size (.lst ((out.map SrtO.iv).map V.int)), I1.laid (t' := tk) (fun b u e => ?_) (Nat.le_refl _)
    (show ObjOk X.prog X.w _ _ _ (.lst ((out.map SrtO.iv).map V.int)) from ⟨hlen, out, e', vals_of_ints k1, he'⟩), rfl, q _ _ k2 k3 (I1.hok.fresh (Nat.le_refl _))⟩
  have hb : b < h'.objs.size := Heap.lt_size e
  rw [PyProof.Rows.sortedHeap_old (Nat.ne_of_lt hb) (by rw [size_push']; exact Nat.lt_succ_of_lt hb)]
  exact Heap.get?_push_of_some _ e
end
end Sg
/-! ## SgA3 -/
namespace Sg
open PySem PySem.Spec PyProof.Rows L2
/-! ### enumerate(t), t a tuple -/
theorem enum_newT (l : Addr) (items : Array Value) :
    Meets (Builtin.«enumerate.__new__» ⟨[.type "enumerate", .ref l], []⟩) (fun _ R s => s.heap.IsTuple l items ∧
      R (.ok (.ret (.ref (s.heap.push { cls := .type "tuple_iterator", data := .fields #[.ref l, .int 0 0] }).objs.size)))
        { s with heap := (s.heap.push { cls := .type "tuple_iterator", data := .fields #[.ref l, .int 0 0] }).push { cls := .type "enumerate", data := .fields #[.none, .bool false, .ref s.heap.objs.size, rawInt 0, .none, .none] } }) :=
  .of_wp fun prog w A R s h => by
    obtain ⟨hp, g, d, tk, os⟩ := s
    obtain ⟨hl, h⟩ := h
    have hsub := sub_enumerate
    have q1 : ∀ {A' : Around} {E : Value → Shared → Prop} {Q : Value → Shared → Prop}, Q (.ref hp.objs.size) ⟨hp.push { cls := .type "tuple_iterator", data := .fields #[.ref l, .int 0 0] }, g, d, tk, os⟩ → wpAny (model prog w) A' (pyIter (.ref l)) Q E ⟨hp, g, d, tk, os⟩ :=
      fun q => wpAny_pyIter_tuple hl q
    wp_walk using q1
    refine wpAny_stack_any fun st => wpAny_pure ?_
    split
    · rename_i c _ _ _ _ _
      cases (c == Value.type "enumerate")
      · wp_walk using q1
        exact ⟨_, rfl, h⟩
      · wp_walk using q1
        exact ⟨_, rfl, h⟩
    · wp_walk using q1
      exact ⟨_, rfl, h⟩
section
variable {prog : Program} {w : World} {A : Around} {E : Value → Shared → Prop} {s : Shared}
theorem enum_callT {l : Addr} {items : Array Value} {Q : Value → Shared → Prop} (hL : s.heap.IsTuple l items)
    (h : ∀ h', IsEnum h' (s.heap.objs.size + 1) s.heap.objs.size 0 .none → h'.IsTupleIter s.heap.objs.size l 0 → (∀ b o, s.heap.get? b = some o → h'.get? b = some o) → Q (.ref (s.heap.objs.size + 1)) { s with heap := h' }) :
    wpAny (model prog w) A (call (.type "enumerate") [.ref l]) Q E s := by
  refine callType_new F.called_enumerate (by decide) (F.typeCall_enumerate_1 _) (F.newCall_enumerate_1 _) (fun obj => F.args_object_init_2 obj _) F.entry_enumerate_new (enum_newT l items) ⟨hL, ?_⟩
  have hz : (s.heap.push { cls := .type "tuple_iterator", data := .fields #[.ref l, .int 0 0] }).objs.size = s.heap.objs.size + 1 := Heap.size_push ..
  show _ ∧ _
  rw [hz]
  have he : IsEnum ((s.heap.push { cls := .type "tuple_iterator", data := .fields #[.ref l, .int 0 0] }).push
      { cls := .type "enumerate", data := .fields #[.none, .bool false, .ref s.heap.objs.size, rawInt 0, .none, .none] }) (s.heap.objs.size + 1) s.heap.objs.size 0 .none := by
    have q := Heap.get?_push_size (s.heap.push { cls := .type "tuple_iterator", data := .fields #[.ref l, .int 0 0] })
      (o := { cls := .type "enumerate", data := .fields #[.none, .bool false, .ref s.heap.objs.size, rawInt 0, .none, .none] }) rfl
    rw [hz] at q
    exact q
  exact ⟨⟨_, he, rfl⟩, h _ he ⟨_, Heap.get?_push_of_some _ (Heap.get?_push_size _ rfl), rfl, rfl⟩ fun b o x => Heap.get?_push_of_some _ (Heap.get?_push_of_some _ x)⟩
end
/-- the tuple at a, each item in a new pair -/
def IteT (K : PySem.W.Frag) (a : Addr) : It :=
  ⟨fun i H => ∃ (xs : List V) (x : V), SqT K H a xs ∧ xs[i]? = some x, fun i H v H' => ∃ T x, v = .ref T ∧ H T = none ∧ H' = upd H T (.tup [.int (i : Nat), x]) ∧ ∀ xs, SqT K H a xs → xs[i]? = some x, fun i H => ∃ xs : List V, SqT K H a xs ∧ xs.length = i⟩
theorem turn_enumT {P : Program} {w : World} {K : PySem.W.Frag} {elts : List Expr} {kk : Nat} {tpos : Pos} (a e it : Addr) :
    Turn P w K (.Tuple elts kk tpos) (IteT K a) [e, it] e (fun i h => (∃ old, IsEnum h e it ((i : Nat) : Int) old) ∧ h.IsTupleIter it a i ∧ e ≠ it ∧ e ≠ a ∧ it ≠ a) where
  mem := by simp
  obj := fun i h st b hb => by
    obtain ⟨⟨old, he⟩, ⟨o, ho, hc, hd⟩, _⟩ := st
    rcases (show b = e ∨ b = it by simpa using hb) with z | z
    · rw [z]; exact ⟨_, he, fun v q => nomatch q⟩
    · rw [z]; exact ⟨o, ho, fun v q => by rw [hd] at q; cases q⟩
  keep := fun i h h' st k => let ⟨⟨old, he⟩, hi, hne⟩ := st; ⟨⟨old, k e (by simp) _ he⟩, hi.at fun o q => k it (by simp) o q, hne⟩
  item := by
    intro X hP hw hK hc i pins s σ H E I hf st hg
    subst hP hw hK
    obtain ⟨⟨old, he⟩, hit, hne, hea, hia⟩ := st
    obtain ⟨xs, x, hq, hx⟩ := hg
    obtain ⟨its, rv, p, hz⟩ := I.tuple hq
    obtain ⟨u, hu, ru⟩ := rv.get hx
    have hel : e < s.heap.objs.size := Heap.lt_size he
    have hil : it < s.heap.objs.size := by obtain ⟨_, q, _⟩ := hit; exact Heap.lt_size q
    have hlt : i < its.toArray.size := by
      have q := (List.getElem?_eq_some_iff.mp hu).1
      simpa using q
    have hh : X.A.in1.handled = none := I.ok.hd hc
    refine wpAny_pyNext_enum_itemD (Draws.tuple (prog := X.prog) (w := X.w) (A := X.A.in1) hh it a (Ne.symm hia) its.toArray) he ⟨hit, p⟩ hlt hne (by simp [hne, hea]) fun y h' tk hy ho hit' hT hsz hk => ?_
    have hyu : u = y := by
      have q : its.toArray[i]? = some y := hy
      rw [List.getElem?_toArray, hu] at q
      exact Option.some.inj q
    subst hyu
    refine ⟨_, rfl, wpAny_letOwnedTupleGo_enum (s := { s with heap := h', toks := tk + 1 }) ho fun h'' he' sb => ?_⟩
    have hT2 : h''.get? s.heap.objs.size = some { cls := .type "tuple", data := .seq #[.int i tk, u] } := (sb.2 _ (Nat.ne_of_gt hel)).trans hT
    have new : ObjOk X.prog X.w (upd H s.heap.objs.size (.tup [.int (i : Nat), x])) h'' s.heap.objs.size (.tup [.int (i : Nat), x]) :=
      ⟨by show 2 ≤ sizeLine; decide, [.int i tk, u], .cons ⟨_, rfl⟩ (.cons ru .nil), ⟨_, hT2, rfl, _, rfl⟩⟩
    have I1 : Inv X pins σ (upd H s.heap.objs.size (.tup [.int (i : Nat), x])) { s with heap := h'', toks := tk + 1 } :=
      I.turnedNew (ch := [e, it]) (fun b ob hb q => (sb.2 b (fun z => hb (by simp [z]))).trans (hk b ob (fun z => hb (by simp [z])) (fun z => hb (by simp [z])) q)) hf (Nat.le_refl _) new
    refine ⟨.ref s.heap.objs.size, _, I1, rfl, ⟨_, x, rfl, I.hok.fresh (Nat.le_refl _), rfl, fun ys hy => by rw [I.tuple_inj hy hq]; exact hx⟩, ⟨⟨u, ?_⟩, hit'.1.at fun o q => (sb.2 it (Ne.symm hne)).trans q, hne, hea, hia⟩, fun b hb => ?_⟩
    · rw [show ((i + 1 : Nat) : Int) = (i : Int) + 1 by omega]
      exact he'
    · have hb' : b < s.heap.objs.size := by
        rcases (show b = e ∨ b = it by simpa using hb) with z | z
        · rw [z]; exact hel
        · rw [z]; exact hil
      rw [upd_ne (Nat.ne_of_lt hb')]
      exact (hf b hb).1
  done := by
    intro X hP hw hK hc i pins s σ H E I hf st hg
    subst hP hw hK
    obtain ⟨⟨old, he⟩, hit, hne, hea, hia⟩ := st
    obtain ⟨xs, hq, hx⟩ := hg
    obtain ⟨its, rv, p, hz⟩ := I.tuple hq
    obtain ⟨f0, f1, f2, f3, f4, f5⟩ := hf it (by simp)
    have hh : X.A.in1.handled = none := I.ok.hd hc
    have hl := rv.length
    have hn : its.toArray.size = i := by
      rw [List.size_toArray]
      omega
    subst hn
    exact wpAny_pyNext_enum_endD (Draws.tuple (prog := X.prog) (w := X.w) (A := X.A.in1) hh it a (Ne.symm hia) its.toArray) he ⟨hit, p⟩ fun h' eb => ⟨rfl, I.turned (t' := s.toks) (fun b o hb q => eb b o hb q) f0 f1 f3 f4 f5⟩
  self := fun A i s Q E st h => let ⟨⟨_, he⟩, _⟩ := st; wpAny_pyIter_enum he h
def iEnumT (K : PySem.W.Frag) (ta : TA) : TI := fun σ H R => ta σ H fun vs H1 => ∃ a xs, vs = [.ref a] ∧ SqT K H1 a xs ∧ R (IteT K a) H1
theorem pi_enumT {X : Cx} {e : Expr} {ta : TA} {p pos tpos : Pos} {elts : List Expr} {kk : Nat} (hg : Gl X "enumerate") (hm : X.mg "enumerate" = none) (ha : PA X [e] ta) (hs : starEach [e] X.env = [(false, eval e X.env)] := by rfl) :
    PI X (.Tuple elts kk tpos) (.Call (.Name "enumerate" p) [e] [] pos) (iEnumT X.K ta) := by
  refine ⟨fun pins s σ H R I h => ?_⟩
  refine Call_ (ld_blt I hg hm boot_enumerate (PyProof.Rows.callWith_type1 (thn (ha.run pos pins s σ H _ I h) fun us s1 ⟨vs, H1, I1, r1, q1⟩ => ?_) hs rfl))
  obtain ⟨a, xs, ex, hq, q⟩ := q1
  subst ex
  cases r1 with
  | cons r rr =>
    cases rr
    cases r
    obtain ⟨its, rv, p', hz⟩ := I1.tuple hq
    refine enum_callT (show s1.heap.IsTuple a its.toArray from p') fun h' he hit hk => wpAny_pyIter_enum he ?_
    have I2 : Inv X pins σ H1 { s1 with heap := h' } := I1.kept (t' := s1.toks) hk
    have hal : a < s1.heap.objs.size := p'.lt
    refine ⟨s1.heap.objs.size + 1, [s1.heap.objs.size + 1, s1.heap.objs.size], _, _, H1, rfl, I2, turn_enumT a (s1.heap.objs.size + 1) s1.heap.objs.size, ⟨⟨.none, he⟩, hit, Nat.succ_ne_self _, Nat.ne_of_gt (Nat.lt_succ_of_lt hal), Nat.ne_of_gt hal⟩, fun b hb => ?_, q⟩
    have hle : s1.heap.objs.size ≤ b := by
      rcases (show b = s1.heap.objs.size + 1 ∨ b = s1.heap.objs.size by simpa using hb) with z | z
      · rw [z]; exact Nat.le_add_right _ _
      · rw [z]; exact Nat.le_refl _
    exact I1.fpOk hle (I1.hok.fresh hle)
/-- the loop -/
theorem for_enumT {K : PySem.W.Frag} {a : Addr} {xs : List V} {g : TG} {tb : TS} {D : Ends} {σ : L2.St} {H : Hp} (Pv : Nat → L2.St → Hp → Prop) (h0 : Pv 0 σ H) (hq : ∀ i σ H, Pv i σ H → SqT K H a xs)
    (hs : ∀ (i : Nat) (x : V) (T : Addr) (σ : L2.St) (H : Hp), xs[i]? = some x → Pv i σ H → H T = none → g (.ref T) σ (upd H T (.tup [.int (i : Nat), x])) fun σ2 H2 => tb { D with nx := Pv (i + 1), ct := Pv (i + 1), bk := D.nx } σ2 H2)
    (hd : ∀ σ H, Pv xs.length σ H → D.nx σ H) :
    ∃ W : Nat → Nat → L2.St → Hp → Prop, (∃ m, W 0 m σ H) ∧ ∀ i m σ H, W i m σ H → ((IteT K a).stop i H ∧ D.nx σ H) ∨ ((IteT K a).go i H ∧ ∃ N : L2.St → Hp → Prop, (∀ σ' H', N σ' H' → ∃ m', m' < m ∧ W (i + 1) m' σ' H') ∧
      ∀ x H', (IteT K a).yld i H x H' → g x σ H' fun σ2 H2 => tb { D with nx := N, ct := N, bk := D.nx } σ2 H2) := by
  refine ⟨fun i m σ H => m = xs.length - i ∧ i ≤ xs.length ∧ Pv i σ H, ⟨xs.length, by simp, Nat.zero_le _, h0⟩, ?_⟩
  rintro i m σ H ⟨rfl, hi, p⟩
  have q := hq i σ H p
  by_cases hlt : i < xs.length
  · refine .inr ⟨⟨xs, xs[i], q, by simp [hlt]⟩, Pv (i + 1), fun σ' H' p' => ⟨xs.length - (i + 1), by omega, rfl, hlt, p'⟩, fun x H' y => ?_⟩
    obtain ⟨T, z, e, hn, e2, y⟩ := y
    subst e e2
    exact hs i z T σ H (y xs q) p hn
  · obtain rfl : i = xs.length := by omega
    exact .inl ⟨⟨xs, q, rfl⟩, hd σ H p⟩
end Sg
/-! ## SgA4 -/
namespace Sg
open PySem PySem.Spec PyProof.Rows L2
/-! ### t[::-1], t a tuple -/
section
variable {prog : Program} {w : World} {A : Around} {E : Value → Shared → Prop} {s : Shared}
theorem rev_places (n : Nat) : Builtin.Slice.slicePlaces ((n : Int) - 1) (-1) (-1) = n := by
  unfold Builtin.Slice.slicePlaces
  have h1 : ¬ ((-1 : Int) > 0) := by omega
  rw [if_neg h1]
  have h2 : (-(-1) : Int) = 1 := by omega
  rw [h2, Int.ediv_one]
  split <;> omega
theorem fm_some {α β : Type} (f : α → Option β) (g : α → β) : ∀ l : List α, (∀ a ∈ l, f a = some (g a)) → l.filterMap f = l.map g
  | [], _ => rfl
  | a :: l, h => by
    rw [List.filterMap_cons, h a List.mem_cons_self, List.map_cons, fm_some f g l fun b hb => h b (List.mem_cons_of_mem _ hb)]
theorem rev_pick (xs : List Value) : ((List.range xs.length).filterMap fun (k : Nat) => xs.toArray[(((xs.length : Nat) : Int) - 1 + (k : Int) * (-1)).toNat]?).toArray = xs.reverse.toArray := by
  congr 1
  apply List.ext_getElem?
  intro i
  have e : (List.range xs.length).filterMap (fun (k : Nat) => xs.toArray[(((xs.length : Nat) : Int) - 1 + (k : Int) * (-1)).toNat]?) = (List.range xs.length).map (fun k => xs.getD (xs.length - 1 - k) .none) := by
    refine fm_some _ _ _ fun k hk => ?_
    have hk' := List.mem_range.mp hk
    have e1 : (((xs.length : Nat) : Int) - 1 + (k : Int) * (-1)).toNat = xs.length - 1 - k := by omega
    rw [e1, List.getElem?_toArray, List.getD_eq_getElem?_getD, List.getElem?_eq_getElem (by omega)]
    rfl
  rw [e, List.getElem?_map]
  by_cases hi : i < xs.length
  · rw [List.getElem?_range hi, List.getElem?_reverse hi, Option.map_some, List.getD_eq_getElem?_getD, List.getElem?_eq_getElem (by omega)]
    rfl
  · rw [List.getElem?_eq_none (by simp; omega), List.getElem?_eq_none (by simp; omega)]
    rfl
theorem getItem_tuple_rev {t sl : Addr} {its : List Value} {vl vu vs : Value} {Q : Value → Shared → Prop} (ht : IsTup s.heap t its.toArray) (hs : s.heap.IsSliceOf sl vl vu vs) (pl : IsPart vl none) (pu : IsPart vu none) (ps : IsPart vs (some (-1)))
    (h : Q (.ref s.heap.objs.size) { s with heap := s.heap.push { cls := .type "tuple", data := .seq its.reverse.toArray } }) (hsz : its.length ≤ sizeLine) : wpAny (model prog w) A (getItem (.ref t) (.ref sl)) Q E s := by
  obtain ⟨os, hos, hcs, hds⟩ := id hs
  have hTs : s.TypeIs (.ref sl) "slice" := ⟨os, hos, hcs⟩
  unfold getItem
  try with_reducible refine wpAny_holding ?_
  first | refine wpAny_bind (wpAny_pure ?_) | skip
  refine wpAny_bind (wpAny_sequenceKey ht.typeIs (by decide) ?_)
  refine wpAny_bind (wpAny_callSpecial?_slot (name := Str.ofString "__getitem__") ht.typeIs PyProof.Rows.slot_tuple_getitem
    (wpAny_call_entry PyProof.Rows.slot_tuple_getitem ht.typeIs entry_tuple_getitem ?_ (args_tuple_getitem _ _)))
  show wpAny _ _ (Builtin.Tuple.tupleItemsOf (.ref t) >>= _) _ _ s
  refine wpAny_bind (tupleItemsOf_ ht ?_)
  refine wpAny_bind (wpAny_typeOf hTs ?_)
  rw [if_pos (by decide)]
  have happ : ∀ {Q' : Int × Int × Nat → Shared → Prop} {E'}, Q' (((its.length : Nat) : Int) - 1, -1, its.length) s → wpAny (model prog w) A.in1 (Builtin.Slice.sliceApplied (.ref sl) (pure ((its.toArray.size : Nat) : Int))) Q' E' s := by
    intro Q' E' hq
    unfold Builtin.Slice.sliceApplied Builtin.Slice.sliceFields
    refine wpAny_bind (wpAny_bind (wpAny_field hos hds (x := vl) rfl (wpAny_bind (wpAny_field hos hds (x := vu) rfl (wpAny_bind (wpAny_field hos hds (x := vs) rfl (wpAny_pure ?_)))))))
    refine wpAny_bind (HT.slicePart_ ps ?_)
    show wpAny _ _ (if ((-1 : Int) == 0) = true then _ else _) _ _ s
    rw [if_neg (by decide)]
    refine wpAny_bind (HT.slicePart_ pl (wpAny_bind (HT.slicePart_ pu (wpAny_bind (wpAny_pure ?_)))))
    show wpAny _ _ (pure ((((its.toArray.size : Nat) : Int) - 1), (-1 : Int), Builtin.Slice.slicePlaces (((its.toArray.size : Nat) : Int) - 1) (-1) (-1))) _ _ s
    rw [rev_places, List.size_toArray]
    exact wpAny_pure hq
  refine wpAny_bind (happ ?_)
  show wpAny _ _ (if (((((its.length : Nat) : Int) - 1) == 0) && (-1 : Int) == 1 && its.length == its.toArray.size) = true then _ else _) _ _ s
  rw [if_neg (by simp), rev_pick]
  have hz : sizeOk (.seq its.reverse.toArray) := by
    show its.reverse.toArray.size ≤ sizeLine
    rw [List.size_toArray, List.length_reverse]
    exact hsz
  first
    | exact wpAny_bind (m := Builtin.Tuple.tupleExact _) (wpAny_newObj_type (wpAny_pure ⟨_, rfl, wpAny_pure h⟩) hz)
    | exact wpAny_bind (wpAny_bind (m := Builtin.Tuple.tupleExact _) (wpAny_newObj_type (wpAny_pure (wpAny_pure ⟨_, rfl, wpAny_pure h⟩)) hz))
end
section
variable {X : Cx}
def tRevT (K : PySem.W.Frag) (te : TE) : TE := fun σ H Q => te σ H fun x H1 => ∃ a xs, x = .ref a ∧ SqT K H1 a xs ∧ ∀ p, H1 p = none → Q (.ref p) (upd H1 p (.tup xs.reverse))
theorem pe_revT {e : Expr} {te : TE} {k : Nat} {p1 p2 p3 pos : Pos} (he : PE X e te) : PE X (.Subscript e (.Slice none none (some (.UnaryOp .USub (.Constant (.int 1) k p1) p2)) p3) pos) (tRevT X.K te) := by
  refine ⟨fun pins s σ H Q I h => ?_⟩
  refine Subscript_ (thn (he.run pins s σ H _ I h) fun v s1 ⟨x, H1, I1, r1, q1⟩ => ?_)
  obtain ⟨a, xs, ex, hx, q⟩ := q1
  subst ex
  cases r1
  have hst : PO X (some (.UnaryOp .USub (.Constant (.int 1) k p1) p2)) (tPart (tUn (rU fun i => .int (-i)) (tC (.int 1)))) := po_some (pe_un un_neg pe_int)
  refine wpAny_Slice (thn (po_none.run pins s1 σ H1 (fun o H2 => o = none ∧ H2 = H1) I1 ⟨rfl, rfl⟩) fun vl s2 ⟨l, H2, I2, pl, el, e2⟩ => ?_)
  subst el e2
  refine thn (po_none.run pins s2 σ H2 (fun o H3 => o = none ∧ H3 = H2) I2 ⟨rfl, rfl⟩) fun vu s3 ⟨u, H3, I3, pu, eu, e3⟩ => ?_
  subst eu e3
  refine thn (hst.run pins s3 σ H3 (fun o H4 => o = some (-1) ∧ H4 = H3) I3 ⟨1, rfl, -1, rfl, rfl, rfl⟩) fun vs s4 ⟨o, H4, I4, ps, eo, e4⟩ => ?_
  subst eo e4
  have I5 : Inv X pins σ H4 { s4 with heap := s4.heap.push { cls := .type "slice", data := .fields #[vl, vu, vs] } } := I4.kept (t' := s4.toks) fun b ob q => Heap.get?_push_of_some _ q
  obtain ⟨its, r, ht, hz⟩ := I5.tuple hx
  have hlen := r.length
  show wpAny (model X.prog X.w) X.A (subscriptTail e (.Slice none none (some (.UnaryOp .USub (.Constant (.int 1) k p1) p2)) p3) (.ref a) (.ref s4.heap.objs.size)) (EP X pins σ Q) X.xe { s4 with heap := s4.heap.push { cls := .type "slice", data := .fields #[vl, vu, vs] } }
  refine tail_any (ops := [.ref a, .ref s4.heap.objs.size]) ht.typeIs (PyProof.Rows.slot_tuple_getitem.lookup) ?_ (by with_unfolding_all rfl)
  refine getItem_tuple_rev ht (Heap.IsSliceOf.new _ vl vu vs) pl pu ps ?_ (by omega)
  exact ⟨.ref _, _, I5.laid (t' := s4.toks) (o := .tup xs.reverse) (fun b ob q => Heap.get?_push_of_some _ q) (Nat.le_refl _) ⟨by rw [List.length_reverse]; exact hz, _, r.reverse, IsTup.new _ _⟩, rfl, q _ (I5.hok.fresh (Nat.le_refl _))⟩
end
end Sg
/-! ## SgA5 -/
namespace Sg
open PySem PySem.Spec PyProof.Rows L2
/-! ### defs that are called where no repr is under way -/
structure FnG (P : Program) (w : World) (K : PySem.W.Frag) (mg : Str → Option Value) (base : Heap) (k : Nat) (f : Addr) (fd : FuncData) (ps : List Str) (sp : Sp) : Prop where
  len : ∀ vs H Q E, sp vs H Q E → vs.length = ps.length
  run : ∀ (A : Around) (outer : List Env) (s : Shared) (H : Hp) (args : Args) (us : List Value) (vs : List V) (Q : VK), Room k A → A.guards = some [] → Env0 P w K mg base A outer s H → BindsTo s fd args (ps.zip us) → Vals vs us → sp vs H Q E0 →
    codeAny (model P w) A (.call (.ref f) args) (CR CX0 outer P w H s Q E0) s
section
variable {P : Program} {w : World} {K : PySem.W.Frag} {mg : Str → Option Value} {base : Heap} {x qual : Str} {params : Arguments} {body : List Stmt} {scope : Scope} {dvs : List V} {kws : List (Str × V)} {f : Addr} {fd : FuncData}
theorem okG {N ps : List Str} {k : Nat} {sp : Sp} (F : FunD K x qual params body scope dvs kws f fd) (S : FnScope N ps scope) (len : ∀ vs H Q E, sp vs H Q E → vs.length = ps.length)
    (hbody : ∀ (cdv : Value) (A : Around) (outer : List Env) (s : Shared) (H : Hp) (vs : List V) (Q : VK), Room k (A.deeper (envOfC qual scope s.heap.objs.size f cdv)) → A.guards = some [] → sp vs H Q E0 →
      ∃ t, PSs (cxOf CX0 P w K mg base N qual scope f cdv A outer s H E0).nox body t ∧ t { nx := fun _ H' => Q .non H', rt := Q } (start N vs) H) : FnG P w K mg base (k + 1) f fd ps sp := by
  obtain ⟨oc, od, dV, kV, doc, pm, an, cdv, ct, osl, rfl, lk, hcd, _, _⟩ := F.ex
  refine ⟨len, fun A outer s H args us vs Q hr hG e0 hb r hsp => ?_⟩
  have hl := len _ _ _ _ hsp
  have KX : K.In s.heap := e0.mod.kin.keeps fun b o e => (e0.bs b o e).1
  have lim : s.heap.NoLimit := e0.mod.nolimit.keeps fun b o e => (e0.bs b o e).1
  refine codeAny_call_function hr.depth (KX _ _ lk) rfl S.co S.gen rfl (PySem.W.codeRec_of KX hcd) (hb _ _ _ _ (wpAny_newFunctionEnv_cells S.kind (fun ⟨n, v⟩ hy => ?_) fun env he s1 x => ?_))
  · rcases S.par n (List.of_mem_zip hy).1 with q | q
    · exact .inl q
    · exact .inr ⟨q, PySem.W.cellsFrom_some _ _ _ (.inl q)⟩
  subst he
  refine ⟨lim.keeps x.toInCall.keep, codeAny_func ?_⟩
  obtain ⟨t, ht, hq⟩ := hbody cdv A outer s H vs Q (hr.deeper _) hG hsp
  have I := inv_start (CX := CX0) (E := E0) (f := f) (cd := cdv) (qual := qual) S hr.hd e0 hl r x
  refine wpAny_mono (ht.nox.run [] s1 (start N vs) H _ I hq) (fun fl s' hs => ?_) fun e s' hs => hs
  cases fl with
  | ret u =>
    obtain ⟨v, σ', H', J, rv, q⟩ := hs
    exact ⟨v, H', J.os, J.bare, J.base, J.hok, rv, q⟩
  | next =>
    obtain ⟨σ', H', J, q⟩ := hs
    exact ⟨V.non, H', J.os, J.bare, J.base, J.hok, rfl, q⟩
  | brk =>
    obtain ⟨_, _, _, q⟩ := hs
    exact False.elim q
  | cont =>
    obtain ⟨_, _, _, q⟩ := hs
    exact False.elim q
end
section
variable {X : Cx} {k : Nat} {f : Addr} {fd : FuncData} {ps : List Str} {sp : Sp} {x : Str} {p pos : Pos} {e : Expr} {es : List Expr} {t : TA}
theorem pe_callG (F : FnG X.prog X.w X.K X.mg X.base k f fd ps sp) (hr : Room k X.A) (hG : X.A.guards = some []) (hg : Gl X x) (hm : X.mg x = some (.ref f)) (hk : PySem.W.keepIn X.K (.ref f) = true) (hb : Binds X.K fd ps [])
    (ha : PA X (e :: es) t) (hdb : (x == ("__debug__" : Str)) = false := by decide) (he : starEach (e :: es) X.env = (false, eval e X.env) :: starEach es X.env := by rfl) (hpl : (backTo pos (starEach es X.env)).any (·.1) = false := by rfl) :
    PE X (.Call (.Name x p) (e :: es) [] pos) (tCall sp [] E0 t) := by
  refine ⟨fun pins s σ H Q I h => wpAny_Call_Name_kw (ld_glob I hg hm ?_ hdb)⟩
  refine PySem.W.callWith_K (h₀ := X.base) I.ok.mod.kin hk (thn (ha.run pos pins s σ H _ I h) fun us s1 ⟨vs, H1, I1, r, q⟩ => ⟨I1.kIn, ?_⟩) he hpl
  have q : sp (vs ++ []) H1 Q E0 := q
  rw [List.append_nil] at q
  have hl : (us ++ []).length = ps.length := by rw [List.append_nil, ← r.length]; exact F.len _ _ _ _ q
  have b := hb s1 us I1.kIn hl
  rw [List.append_nil] at b
  refine wpAny_call (codeAny_mono (F.run X.A X.stack s1 H1 ⟨us, []⟩ us vs Q hr hG I1.env0 b r q) fun r s' hq => ?_)
  cases r with
  | error e => exact False.elim hq
  | ok fl =>
    cases fl with
    | ret u => exact I1.after hq
    | next => exact False.elim hq
    | brk => exact False.elim hq
    | cont => exact False.elim hq
end
/-! ### the law's end -/
theorem law_callG {P : Program} {w : World} {K : PySem.W.Frag} {mg mb : Str → Option Value} {k : Nat} {fa a : Addr} {fd : FuncData} {x : Str} {sp : Sp} {s₁ : Shared} {vs : List Value} {ns : List Int}
    (KX : K.In s₁.heap) (hns : s₁.heap.Ns mainGlobals mg) (hb : s₁.heap.Ns builtinsNs mb) (hbb : ∀ x : Str, x ≠ "__name__" → mb x = bootBuiltins x) (hlim : s₁.heap.NoLimit) (hg : s₁.gens = #[])
    (ha : s₁.heap.get? a = some { cls := .type "list", data := .seq vs.toArray }) (hi : IntsAre vs ns) (hl : ns.length ≤ sizeLine) (hr : Room k callerA)
    (F : ∀ base : Heap, K.In base → base.Ns mainGlobals mg → FnG P w K mg base k fa fd [x] sp) (hbind : ∀ (s : Shared) (u : Value), BindsTo s fd ⟨[u], []⟩ [(x, u)])
    (hsp : ∀ H : Hp, SqL K H a (ns.map V.int) → sp [.ref a] H (fun v _ => v = .bl true) E0) :
    codeAny (model P w) callerA (.call (.ref fa) ⟨[.ref a], []⟩) (fun r s' => r = .ok (.ret (.bool true)) ∧ OldK s₁.heap s'.heap ∧ s'.os = s₁.os ∧ AllBare s'.gens) s₁ := by
  have rv := vals_ints hi
  have lenV := hi.length
  -- the script's object as a thing that is known: read, never written; where the module holds it, nothing is tracked
  have core : ∀ H : Hp, SqL K H a (ns.map V.int) → HOk P w H s₁.heap → (∀ b, H b ≠ none → b = a ∧ ∃ o xs, H b = some (.frz o (.lst xs))) → (H a ≠ none → K.lookup a = none) →
      codeAny (model P w) callerA (.call (.ref fa) ⟨[.ref a], []⟩) (fun r s' => r = .ok (.ret (.bool true)) ∧ OldK s₁.heap s'.heap ∧ s'.os = s₁.os ∧ AllBare s'.gens) s₁ := by
    intro H hS hok hA hK
    have noA : ∀ {b : Addr} {o : Obj} {es : Array DictEntry} {ep : Nat}, s₁.heap.get? b = some o → o.data = .dict es ep → H b = none := fun {b o es ep} e d => by
      cases q : H b with
      | none => rfl
      | some u =>
        obtain ⟨rfl, _⟩ := hA b (by rw [q]; simp)
        rw [ha] at e
        cases e
        cases (show Data.seq vs.toArray _ = Data.dict es ep from d)
    have nsK : ∀ {b : Addr} {m : Str → Option Value}, s₁.heap.Ns b m → (hidT s₁.heap H).Ns b m := fun {b m} ⟨o, es, ep, e, d, r⟩ => ⟨o, es, ep, hidT_get e (noA e d), d, r⟩
    have hKb : K.In (hidT s₁.heap H) := fun b o e => hidT_get (KX b o e) (by
      cases q : H b with
      | none => rfl
      | some u =>
        obtain ⟨rfl, _⟩ := hA b (by rw [q]; simp)
        rw [hK (by rw [q]; simp)] at e
        cases e)
    have hM : Mod K mg (hidT s₁.heap H) := ⟨hKb, nsK hns, ⟨mb, nsK hb, hbb⟩, let ⟨mc, h1, h2⟩ := hlim; ⟨mc, nsK h1, h2⟩⟩
    have e0 : Env0 P w K mg (hidT s₁.heap H) callerA [] s₁ H := ⟨rfl, hM, fun b o e => of_hidT e, Nat.le_of_eq (hidT_size _ _), trivial, fun b hb => absurd (show b ∈ ([] : List Addr) from hb) (by simp), hok, .of_eq hg⟩
    refine codeAny_mono ((F _ hKb (nsK hns)).run callerA [] s₁ H ⟨[.ref a], []⟩ [.ref a] [.ref a] _ hr rfl e0 (hbind s₁ (.ref a)) (.cons rfl .nil) (hsp H hS)) fun r s' h => ?_
    cases r with
    | error e => exact False.elim h
    | ok fl =>
      cases fl with
      | next => exact False.elim h
      | brk => exact False.elim h
      | cont => exact False.elim h
      | ret u =>
        obtain ⟨v, H', os, bare, un, hok', r', q⟩ := h
        cases (show v = .bl true from q)
        cases (show u = Value.bool true from r')
        refine ⟨rfl, OldK.of_keep fun b o e => ?_, os, bare⟩
        cases q : H b with
        | none => exact un.keep b o e q (fun z => absurd (show b ∈ ([] : List Addr) from z) (by simp)) (by simp)
        | some u =>
          obtain ⟨_, ob, xs, z⟩ := hA b (by rw [q]; simp)
          obtain ⟨e1, _⟩ := hok b _ z
          obtain ⟨e2, _⟩ := hok' b _ (un.frzs b ob _ z)
          rw [e] at e1
          cases e1
          exact e2
  cases hk : K.lookup a with
  | some o =>
    have e := KX a o hk
    rw [ha] at e
    cases e
    exact core (fun _ => none) (.inr ⟨_, vs.toArray, _, hk, rfl, rfl, rfl, by rw [List.size_toArray, lenV]; exact hl, by simpa using rv⟩) (fun b u z => by cases (show (none : Option HO) = some u from z)) (fun b z => absurd rfl z) fun z => absurd rfl z
  | none =>
    refine core (fun b => if b = a then some (.frz { cls := .type "list", data := .seq vs.toArray } (.lst (ns.map V.int))) else none) (.inl (.inr ⟨_, if_pos rfl⟩)) (fun b u z => ?_) (fun b z => ?_) fun _ => hk
    · by_cases hb : b = a
      · cases (if_pos hb).symm.trans z
        subst hb
        exact ⟨ha, by rw [List.length_map]; exact hl, vs, _, rv, ha⟩
      · cases (if_neg hb).symm.trans z
    · by_cases hb : b = a
      · exact ⟨hb, _, _, if_pos hb⟩
      · exact absurd (if_neg hb) z
theorem walk_G {l : PySem.W.OpenLaw} {n k : Nat} {q : Program} {loose : List Str} {XP : (Str → Option Value) → Heap → Prop} {YP : World → Heap → Prop} {d : DefRec} {x : Str}
    (hn : l.most = some n) (hn2 : n ≤ sizeLine) (hdf : d.params.defaults = []) (hr : Room k callerA)
    (F : ∀ (w : World) (mg : Str → Option Value) (fa : Addr) (h : Heap), YP w h → h.Ns mainGlobals mg → mg d.name = some (.ref fa) →
      ∃ (K : PySem.W.Frag) (fd : FuncData) (sp : Sp), K.In h ∧ (∀ (s : Shared) (u : Value), BindsTo s fd ⟨[u], []⟩ [(x, u)]) ∧
        (∀ (H : Hp) (a : Addr) (ns : List Int), ns.length ≤ n → SqL K H a (ns.map V.int) → sp [.ref a] H (fun v _ => v = .bl true) E0) ∧
        ∀ base : Heap, K.In base → base.Ns mainGlobals mg → FnG l.prog w K mg base k fa fd [x] sp) :
    PySem.W.WalkO q loose XP YP l.row.toRowW d [] (fun f vs => PySem.call f vs) := by
  refine Att.attach_call hn hdf fun w s₀ s₁ mg mb fa o pm cd doc a vs ns G Y ho hd hcd hmg hobj hints hlen hg => ?_
  obtain ⟨K, fd, sp, KX, hb, hsp, hF⟩ := F w mg fa _ Y G.T.g hmg
  exact law_callG KX G.T.g G.T.b G.T.builtins G.T.nolimit hg hobj hints (Nat.le_trans hlen hn2) hr hF hb fun H hS => hsp H a ns hlen hS
end Sg
/-! ## SgM -/
namespace Sg
/-! ### rows as lists of pairs, dicts as lists of pairs: what the program and the law both reckon -/
abbrev Row := List (Int × Int)
def lookI (kvs : Row) (k : Int) : Option Int := (kvs.find? fun p => decide (p.1 = k)).map (·.2)
def putI (kvs : Row) (k v : Int) : Row := if (kvs.any fun p => decide (p.1 = k)) = true then kvs.map (fun p => if p.1 = k then (p.1, v) else p) else kvs ++ [(k, v)]
def addI (kvs : Row) (k d : Int) : Row := putI kvs k ((lookI kvs k).getD 0 + d)
def fromRow (r : Row) : Row := r.foldl (fun acc p => putI acc p.1 p.2) []
def plusD (r r2 : Row) : Row := r2.foldl (fun acc q => addI acc q.1 q.2) (fromRow r)
def prodD (r s : Row) : Row := r.foldl (fun acc p => s.foldl (fun acc q => addI acc (p.1 + q.1) (p.2 * q.2)) acc) []
def keysS (kvs : Row) : List Int := (kvs.map (·.1)).mergeSort (fun a b => decide (a ≤ b))
def packK (kvs : Row) (ks : List Int) : Row := ks.filterMap fun k => if (lookI kvs k).getD 0 ≠ 0 then some (k, (lookI kvs k).getD 0) else none
def pack (kvs : Row) : Row := packK kvs (keysS kvs)
def mirror (r : Row) : Row := r.reverse.map fun p => (-p.1, p.2)
def times (r s : Row) : Row := pack (prodD r s)
def gaps (r : Row) : Row := times r (mirror r)
def plus (r r2 : Row) : Row := pack (plusD r r2)

/-! ### look and put -/
theorem lookI_nil (k : Int) : lookI [] k = none := rfl
theorem lookI_pos {p : Int × Int} {r : Row} {k : Int} (e : p.1 = k) : lookI (p :: r) k = some p.2 := by simp [lookI, List.find?_cons, e]
theorem lookI_neg {p : Int × Int} {r : Row} {k : Int} (e : ¬ p.1 = k) : lookI (p :: r) k = lookI r k := by simp [lookI, List.find?_cons, e]
theorem lookI_mem : ∀ {r : Row} {k v : Int}, lookI r k = some v → (k, v) ∈ r
  | [], k, v, h => by cases h
  | p :: r, k, v, h => by
    by_cases e : p.1 = k
    · rw [lookI_pos e] at h
      cases h
      rw [← e]
      exact List.mem_cons_self
    · rw [lookI_neg e] at h
      exact List.mem_cons_of_mem _ (lookI_mem h)
theorem lookI_key : ∀ {r : Row} {k : Int}, k ∈ r.map (·.1) → ∃ v, lookI r k = some v
  | [], k, h => by cases h
  | p :: r, k, h => by
    by_cases e : p.1 = k
    · exact ⟨_, lookI_pos e⟩
    · rw [lookI_neg e]
      rw [List.map_cons, List.mem_cons] at h
      rcases h with h | h
      · exact absurd h.symm e
      · exact lookI_key h
theorem lookI_none : ∀ {r : Row} {k : Int}, ¬ k ∈ r.map (·.1) → lookI r k = none
  | [], k, h => rfl
  | p :: r, k, h => by
    rw [List.map_cons, List.mem_cons, not_or] at h
    rw [lookI_neg fun e => h.1 e.symm]
    exact lookI_none h.2
theorem lookI_of_mem : ∀ {r : Row} {p : Int × Int}, (r.map (·.1)).Nodup → p ∈ r → lookI r p.1 = some p.2
  | [], p, _, h => by cases h
  | q :: r, p, hn, h => by
    rw [List.map_cons, List.nodup_cons] at hn
    rcases List.mem_cons.mp h with e | h
    · rw [e]
      exact lookI_pos rfl
    · rw [lookI_neg fun e => hn.1 (List.mem_map.mpr ⟨p, h, e.symm⟩)]
      exact lookI_of_mem hn.2 h
theorem any_key {r : Row} {k : Int} : (r.any fun p => decide (p.1 = k)) = true ↔ k ∈ r.map (·.1) := by
  rw [List.any_eq_true, List.mem_map]
  constructor
  · rintro ⟨p, hp, e⟩
    exact ⟨p, hp, of_decide_eq_true e⟩
  · rintro ⟨p, hp, e⟩
    exact ⟨p, hp, decide_eq_true e⟩
theorem putI_old {r : Row} {k v : Int} (h : k ∈ r.map (·.1)) : putI r k v = r.map (fun p => if p.1 = k then (p.1, v) else p) := if_pos (any_key.mpr h)
theorem putI_new {r : Row} {k v : Int} (h : ¬ k ∈ r.map (·.1)) : putI r k v = r ++ [(k, v)] := if_neg fun q => h (any_key.mp q)
theorem putI_keys {r : Row} {k v : Int} (h : k ∈ r.map (·.1)) : (putI r k v).map (·.1) = r.map (·.1) := by
  rw [putI_old h, List.map_map]
  refine List.map_congr_left fun p _ => ?_
  show (if p.1 = k then (p.1, v) else p).1 = p.1
  split <;> rfl
theorem nodup_snoc {l : List Int} {k : Int} (h : l.Nodup) (hk : ¬ k ∈ l) : (l ++ [k]).Nodup := by
  rw [List.nodup_append]
  refine ⟨h, by simp, fun a ha b hb e => ?_⟩
  rw [List.mem_singleton] at hb
  rw [e, hb] at ha
  exact hk ha
theorem putI_nodup {r : Row} (k v : Int) (h : (r.map (·.1)).Nodup) : ((putI r k v).map (·.1)).Nodup := by
  by_cases hk : k ∈ r.map (·.1)
  · rw [putI_keys hk]
    exact h
  · rw [putI_new hk, List.map_append]
    exact nodup_snoc h hk
theorem putI_len (r : Row) (k v : Int) : (putI r k v).length ≤ r.length + 1 := by
  by_cases hk : k ∈ r.map (·.1)
  · rw [putI_old hk, List.length_map]
    exact Nat.le_succ _
  · rw [putI_new hk, List.length_append]
    exact Nat.le_refl _
theorem putI_len_old {r : Row} {k v : Int} (h : k ∈ r.map (·.1)) : (putI r k v).length = r.length := by
  rw [putI_old h, List.length_map]
theorem putI_mem {r : Row} {k v : Int} {p : Int × Int} (h : p ∈ putI r k v) : p ∈ r ∨ p = (k, v) := by
  by_cases hk : k ∈ r.map (·.1)
  · rw [putI_old hk] at h
    obtain ⟨q, hq, e⟩ := List.mem_map.mp h
    by_cases z : q.1 = k
    · rw [if_pos z, z] at e
      exact .inr e.symm
    · rw [if_neg z] at e
      exact .inl (e ▸ hq)
  · rw [putI_new hk] at h
    rcases List.mem_append.mp h with h | h
    · exact .inl h
    · exact .inr (List.mem_singleton.mp h)
theorem addI_nodup {r : Row} (k d : Int) (h : (r.map (·.1)).Nodup) : ((addI r k d).map (·.1)).Nodup := putI_nodup _ _ h
theorem addI_len (r : Row) (k d : Int) : (addI r k d).length ≤ r.length + 1 := putI_len _ _ _
theorem fold_put_nodup : ∀ (s acc : Row), (acc.map (·.1)).Nodup → ((s.foldl (fun acc p => putI acc p.1 p.2) acc).map (·.1)).Nodup
  | [], _, h => h
  | p :: s, acc, h => fold_put_nodup s _ (putI_nodup _ _ h)
theorem fold_add_nodup (f g : Int × Int → Int) : ∀ (s acc : Row), (acc.map (·.1)).Nodup → ((s.foldl (fun acc q => addI acc (f q) (g q)) acc).map (·.1)).Nodup
  | [], _, h => h
  | p :: s, acc, h => fold_add_nodup f g s _ (addI_nodup _ _ h)
theorem fromRow_nodup (r : Row) : ((fromRow r).map (·.1)).Nodup := fold_put_nodup r [] List.nodup_nil
theorem plusD_nodup (r r2 : Row) : ((plusD r r2).map (·.1)).Nodup := fold_add_nodup _ _ r2 _ (fromRow_nodup r)
theorem prodD_nodup (r s : Row) : ((prodD r s).map (·.1)).Nodup := by
  have key : ∀ (r acc : Row), (acc.map (·.1)).Nodup → ((r.foldl (fun acc p => s.foldl (fun acc q => addI acc (p.1 + q.1) (p.2 * q.2)) acc) acc).map (·.1)).Nodup := by
    intro r
    induction r with
    | nil => exact fun _ h => h
    | cons p r ih => exact fun acc h => ih _ (fold_add_nodup (fun q => p.1 + q.1) (fun q => p.2 * q.2) s acc h)
  exact key r [] List.nodup_nil
theorem fold_add_len (f g : Int × Int → Int) : ∀ (s acc : Row), (s.foldl (fun acc q => addI acc (f q) (g q)) acc).length ≤ acc.length + s.length
  | [], acc => Nat.le_refl _
  | p :: s, acc => by
    have h1 := fold_add_len f g s (addI acc (f p) (g p))
    have h2 := addI_len acc (f p) (g p)
    rw [List.foldl_cons, List.length_cons]
    omega
theorem prodD_len (r s : Row) : (prodD r s).length ≤ r.length * s.length := by
  have key : ∀ (r acc : Row), (r.foldl (fun acc p => s.foldl (fun acc q => addI acc (p.1 + q.1) (p.2 * q.2)) acc) acc).length ≤ acc.length + r.length * s.length := by
    intro r
    induction r with
    | nil => exact fun acc => by simp
    | cons p r ih =>
      intro acc
      have h1 := ih (s.foldl (fun acc q => addI acc (p.1 + q.1) (p.2 * q.2)) acc)
      have h2 := fold_add_len (fun q => p.1 + q.1) (fun q => p.2 * q.2) s acc
      rw [List.foldl_cons, List.length_cons, Nat.succ_mul]
      omega
  have h := key r []
  rw [List.length_nil, Nat.zero_add] at h
  exact h

/-! ### what is packed -/
theorem sorted_one : ∀ {l l' : List Int}, l.Perm l' → l.Pairwise (· ≤ ·) → l'.Pairwise (· ≤ ·) → l = l'
  | [], l', h, _, _ => h.nil_eq
  | a :: l, [], h, _, _ => by
    have := h.length_eq
    simp at this
  | a :: l, b :: l', h, h1, h2 => by
    have e : a = b := by
      have ha : a ∈ b :: l' := h.mem_iff.mp List.mem_cons_self
      have hb : b ∈ a :: l := h.mem_iff.mpr List.mem_cons_self
      rw [List.pairwise_cons] at h1 h2
      rcases List.mem_cons.mp ha with q | q
      · exact q
      · rcases List.mem_cons.mp hb with z | z
        · exact z.symm
        · have x := h1.1 b z
          have y := h2.1 a q
          omega
    subst e
    rw [sorted_one ((List.perm_cons a).mp h) (List.pairwise_cons.mp h1).2 (List.pairwise_cons.mp h2).2]
theorem keysS_perm (kvs : Row) : (keysS kvs).Perm (kvs.map (·.1)) := List.mergeSort_perm _ _
theorem keysS_le (kvs : Row) : (keysS kvs).Pairwise (· ≤ ·) := by
  have h := List.pairwise_mergeSort (le := fun a b : Int => decide (a ≤ b)) (fun a b c h1 h2 => by
    have x := of_decide_eq_true h1
    have y := of_decide_eq_true h2
    exact decide_eq_true (by omega)) (fun a b => by
    by_cases h : a ≤ b
    · simp [h]
    · simp [h]
      omega) (kvs.map (·.1))
  exact h.imp fun q => of_decide_eq_true q
theorem keysS_one {kvs : Row} {ys : List Int} (h : ys.Perm (kvs.map (·.1))) (hs : ys.Pairwise (· ≤ ·)) : ys = keysS kvs := sorted_one (h.trans (keysS_perm kvs).symm) hs (keysS_le kvs)
theorem keysS_len (kvs : Row) : (keysS kvs).length = kvs.length := by rw [(keysS_perm kvs).length_eq, List.length_map]
theorem keysS_in {kvs : Row} {k : Int} (h : k ∈ keysS kvs) : ∃ v, lookI kvs k = some v := lookI_key ((keysS_perm kvs).mem_iff.mp h)
theorem keysS_lt {kvs : Row} (hn : (kvs.map (·.1)).Nodup) : (keysS kvs).Pairwise (· < ·) := by
  have h1 : (keysS kvs).Nodup := (keysS_perm kvs).nodup_iff.mpr hn
  exact (List.pairwise_and_iff.mpr ⟨keysS_le kvs, h1⟩).imp fun {a b} ⟨x, y⟩ => by
    have y' : a ≠ b := y
    omega
/-- a ROW: ascending, no weight 0 -/
structure RowOk (r : Row) : Prop where
  asc : r.Pairwise fun p q => p.1 < q.1
  nz : ∀ p ∈ r, p.2 ≠ 0
theorem packK_mem {kvs : Row} {ks : List Int} {p : Int × Int} (h : p ∈ packK kvs ks) : p.1 ∈ ks ∧ p.2 = (lookI kvs p.1).getD 0 ∧ p.2 ≠ 0 := by
  obtain ⟨k, hk, e⟩ := List.mem_filterMap.mp h
  by_cases z : (lookI kvs k).getD 0 ≠ 0
  · rw [if_pos z] at e
    cases e
    exact ⟨hk, rfl, z⟩
  · rw [if_neg z] at e
    cases e
theorem packK_asc (kvs : Row) : ∀ {ks : List Int}, ks.Pairwise (· < ·) → (packK kvs ks).Pairwise fun p q => p.1 < q.1
  | [], _ => List.Pairwise.nil
  | k :: ks, h => by
    obtain ⟨h1, h2⟩ := List.pairwise_cons.mp h
    have ih := packK_asc kvs h2
    unfold packK
    rw [List.filterMap_cons]
    by_cases z : (lookI kvs k).getD 0 ≠ 0
    · rw [if_pos z]
      exact List.pairwise_cons.mpr ⟨fun q hq => h1 _ (packK_mem (kvs := kvs) hq).1, ih⟩
    · rw [if_neg z]
      exact ih
theorem pack_ok {kvs : Row} (hn : (kvs.map (·.1)).Nodup) : RowOk (pack kvs) := ⟨packK_asc kvs (keysS_lt hn), fun _ hp => (packK_mem hp).2.2⟩
theorem pack_len (kvs : Row) : (pack kvs).length ≤ kvs.length := by
  refine Nat.le_trans (List.length_filterMap_le _ _) ?_
  rw [keysS_len]
  exact Nat.le_refl _
theorem pack_mem {kvs : Row} {p : Int × Int} (h : p ∈ pack kvs) : p ∈ kvs := by
  obtain ⟨h1, h2, h3⟩ := packK_mem h
  obtain ⟨v, e⟩ := keysS_in h1
  rw [e] at h2
  have e2 : p.2 = v := h2
  have m := lookI_mem e
  rw [← e2] at m
  exact m
theorem times_ok (r s : Row) : RowOk (times r s) := pack_ok (prodD_nodup r s)
theorem plus_ok (r s : Row) : RowOk (plus r s) := pack_ok (plusD_nodup r s)
theorem times_len (r s : Row) : (times r s).length ≤ r.length * s.length := Nat.le_trans (pack_len _) (prodD_len r s)
theorem mirror_len (r : Row) : (mirror r).length = r.length := by rw [mirror, List.length_map, List.length_reverse]
theorem gaps_len (r : Row) : (gaps r).length ≤ r.length * r.length := by
  have h := times_len r (mirror r)
  rw [mirror_len] at h
  exact h
theorem gaps_ok (r : Row) : RowOk (gaps r) := times_ok _ _

/-! ### weight given to a row -/
theorem asc_nodup : ∀ {r : Row}, (r.Pairwise fun p q => p.1 < q.1) → (r.map (·.1)).Nodup
  | [], _ => List.nodup_nil
  | p :: r, h => by
    obtain ⟨h1, h2⟩ := List.pairwise_cons.mp h
    rw [List.map_cons, List.nodup_cons]
    refine ⟨fun m => ?_, asc_nodup h2⟩
    obtain ⟨q, hq, e⟩ := List.mem_map.mp m
    have := h1 q hq
    omega
theorem fold_put_self : ∀ (s acc : Row), ((acc ++ s).map (·.1)).Nodup → s.foldl (fun acc p => putI acc p.1 p.2) acc = acc ++ s
  | [], acc, _ => (List.append_nil _).symm
  | p :: s, acc, h => by
    rw [List.foldl_cons]
    have hk : ¬ p.1 ∈ acc.map (·.1) := by
      rw [List.map_append, List.nodup_append] at h
      exact fun m => h.2.2 _ m _ (by rw [List.map_cons]; exact List.mem_cons_self) rfl
    rw [putI_new hk]
    have e : acc ++ [(p.1, p.2)] ++ s = acc ++ p :: s := by rw [List.append_assoc]; rfl
    rw [fold_put_self s _ (by rw [e]; exact h), e]
theorem fromRow_self {r : Row} (h : RowOk r) : fromRow r = r := by
  have q := fold_put_self r [] (by rw [List.nil_append]; exact asc_nodup h.asc)
  rw [List.nil_append] at q
  exact q
theorem plus_one {r : Row} (h : RowOk r) (p w : Int) : plusD r [(p, w)] = addI r p w := by
  unfold plusD
  rw [fromRow_self h]
  rfl
theorem plus_one_len {r : Row} (h : RowOk r) (p w : Int) (hl : p ∈ r.map (·.1) ∨ r.length < 20) (h20 : r.length ≤ 20) : (plus r [(p, w)]).length ≤ 20 := by
  refine Nat.le_trans (pack_len _) ?_
  rw [plus_one h]
  rcases hl with hl | hl
  · have e : (addI r p w).length = r.length := putI_len_old hl
    omega
  · have e := addI_len r p w
    omega

/-! ### how great the numbers are -/
/-- all places up to P, all weights up to W -/
def Bnd (P W : Nat) (r : Row) : Prop := ∀ p ∈ r, p.1.natAbs ≤ P ∧ p.2.natAbs ≤ W
theorem Bnd.nil (P W : Nat) : Bnd P W [] := fun p hp => nomatch hp
theorem Bnd.mono {P W P' W' : Nat} {r : Row} (h : Bnd P W r) (h1 : P ≤ P') (h2 : W ≤ W') : Bnd P' W' r := fun p hp => ⟨Nat.le_trans (h p hp).1 h1, Nat.le_trans (h p hp).2 h2⟩
theorem Bnd.pack {P W : Nat} {r : Row} (h : Bnd P W r) : Bnd P W (pack r) := fun p hp => h p (pack_mem hp)
theorem Bnd.look {P W : Nat} {r : Row} (h : Bnd P W r) (k : Int) : ((lookI r k).getD 0).natAbs ≤ W := by
  cases e : lookI r k with
  | none => exact Nat.zero_le _
  | some v => exact (h _ (lookI_mem e)).2
theorem Bnd.put {P W : Nat} {r : Row} (h : Bnd P W r) {k v : Int} (hk : k.natAbs ≤ P) (hv : v.natAbs ≤ W) : Bnd P W (putI r k v) := fun p hp => by
  rcases putI_mem hp with q | q
  · exact h p q
  · rw [q]
    exact ⟨hk, hv⟩
theorem Bnd.add {P W D : Nat} {r : Row} (h : Bnd P W r) {k d : Int} (hk : k.natAbs ≤ P) (hd : d.natAbs ≤ D) : Bnd P (W + D) (addI r k d) :=
  (h.mono (Nat.le_refl _) (Nat.le_add_right _ _)).put hk (by
    have := h.look k
    omega)
theorem Bnd.foldAdd {P D : Nat} {f g : Int × Int → Int} : ∀ (s : Row) {W : Nat} {acc : Row}, Bnd P W acc → (∀ q ∈ s, (f q).natAbs ≤ P ∧ (g q).natAbs ≤ D) → Bnd P (W + s.length * D) (s.foldl (fun acc q => addI acc (f q) (g q)) acc)
  | [], W, acc, h, _ => h.mono (Nat.le_refl _) (by simp)
  | q :: s, W, acc, h, hs => by
    obtain ⟨h1, h2⟩ := hs q List.mem_cons_self
    have ih := Bnd.foldAdd s (h.add h1 h2) fun z hz => hs z (List.mem_cons_of_mem _ hz)
    refine ih.mono (Nat.le_refl _) ?_
    rw [List.length_cons, Nat.succ_mul]
    omega
theorem Bnd.prod {P W P2 W2 : Nat} {s : Row} (hs : Bnd P2 W2 s) : ∀ (r : Row) {W0 : Nat} {acc : Row}, Bnd (P + P2) W0 acc → Bnd P W r →
    Bnd (P + P2) (W0 + r.length * (s.length * (W * W2))) (r.foldl (fun acc p => s.foldl (fun acc q => addI acc (p.1 + q.1) (p.2 * q.2)) acc) acc)
  | [], W0, acc, h, _ => h.mono (Nat.le_refl _) (by simp)
  | p :: r, W0, acc, h, hr => by
    obtain ⟨h1, h2⟩ := hr p List.mem_cons_self
    have step : Bnd (P + P2) (W0 + s.length * (W * W2)) (s.foldl (fun acc q => addI acc (p.1 + q.1) (p.2 * q.2)) acc) :=
      Bnd.foldAdd (f := fun q => p.1 + q.1) (g := fun q => p.2 * q.2) s h fun q hq => by
        obtain ⟨h3, h4⟩ := hs q hq
        refine ⟨by omega, ?_⟩
        rw [Int.natAbs_mul]
        exact Nat.mul_le_mul h2 h4
    have ih := Bnd.prod hs r step fun z hz => hr z (List.mem_cons_of_mem _ hz)
    refine ih.mono (Nat.le_refl _) ?_
    rw [List.length_cons, Nat.succ_mul]
    omega
theorem Bnd.mirror {P W : Nat} {r : Row} (h : Bnd P W r) : Bnd P W (mirror r) := fun p hp => by
  obtain ⟨q, hq, e⟩ := List.mem_map.mp hp
  obtain ⟨h1, h2⟩ := h q (List.mem_reverse.mp hq)
  rw [← e]
  exact ⟨by rw [Int.natAbs_neg]; exact h1, h2⟩
theorem Bnd.times {P W P2 W2 : Nat} {r s : Row} (hr : Bnd P W r) (hs : Bnd P2 W2 s) (l1 : r.length ≤ 20) (l2 : s.length ≤ 20) : Bnd (P + P2) (400 * (W * W2)) (times r s) := by
  have h := (Bnd.prod hs r (Bnd.nil (P + P2) 0) hr).pack
  refine h.mono (Nat.le_refl _) ?_
  rw [Nat.zero_add, ← Nat.mul_assoc]
  exact Nat.mul_le_mul (Nat.le_trans (Nat.mul_le_mul l1 l2) (by decide)) (Nat.le_refl _)
theorem Bnd.gaps {P W : Nat} {r : Row} (hr : Bnd P W r) (l1 : r.length ≤ 20) : Bnd (P + P) (400 * (W * W)) (gaps r) := Bnd.times hr hr.mirror l1 (by rw [mirror_len]; exact l1)
theorem Bnd.plus_one {P W D : Nat} {r : Row} (h : RowOk r) (hr : Bnd P W r) {p w : Int} (hp : p.natAbs ≤ P) (hw : ((lookI r p).getD 0 + w).natAbs ≤ W + D) : Bnd P (W + D) (plus r [(p, w)]) := by
  have q : Bnd P (W + D) (plusD r [(p, w)]) := by
    rw [Sg.plus_one h]
    exact (hr.mono (Nat.le_refl _) (Nat.le_add_right _ _)).put hp hw
  exact q.pack
end Sg
/-! ## SgB -/
namespace Sg
open PySem PySem.Spec PyProof.Rows L2
/-! ### a dict of ints in the heap -/
def enc (kvs : Row) : List (Key × V) := kvs.map fun p => (Sum.inl p.1, V.int p.2)
theorem enc_len (kvs : Row) : (enc kvs).length = kvs.length := List.length_map _
theorem enc_keys (kvs : Row) : (enc kvs).map (·.1) = (kvs.map (·.1)).map Sum.inl := by
  unfold enc
  rw [List.map_map, List.map_map]
  rfl
theorem enc_val : ∀ (kvs : Row) (k : Int), valV (enc kvs) (Sum.inl k : Key) = (lookI kvs k).map V.int
  | [], _ => rfl
  | p :: r, k => by
    have ih := enc_val r k
    show valV ((Sum.inl p.1, V.int p.2) :: enc r) (Sum.inl k : Key) = _
    by_cases e : p.1 = k
    · rw [lookI_pos e, valV_pos (p := (Sum.inl p.1, V.int p.2)) (show (Sum.inl p.1 : Key) = Sum.inl k by rw [e])]
      rfl
    · rw [lookI_neg e, valV_neg (p := (Sum.inl p.1, V.int p.2)) (fun q => e (Sum.inl.inj q))]
      exact ih
theorem enc_put (kvs : Row) (k v : Int) : putK (enc kvs) (Sum.inl k : Key) (V.int v) = enc (putI kvs k v) := by
  have ea : ((enc kvs).any fun kv => decide (kv.1 = (Sum.inl k : Key))) = kvs.any fun p => decide (p.1 = k) := by
    unfold enc
    rw [List.any_map]
    congr 1
    funext p
    show decide ((Sum.inl p.1 : Key) = Sum.inl k) = decide (p.1 = k)
    by_cases e : p.1 = k
    · rw [decide_eq_true e, decide_eq_true (show (Sum.inl p.1 : Key) = Sum.inl k by rw [e])]
    · rw [decide_eq_false e, decide_eq_false (fun q => e (Sum.inl.inj q))]
  unfold putK putI
  rw [ea]
  by_cases h : (kvs.any fun p => decide (p.1 = k)) = true
  · rw [if_pos h, if_pos h]
    unfold enc
    rw [List.map_map, List.map_map]
    refine List.map_congr_left fun p _ => ?_
    show (if (Sum.inl p.1 : Key) = Sum.inl k then ((Sum.inl p.1 : Key), V.int v) else (Sum.inl p.1, V.int p.2)) = ((Sum.inl (if p.1 = k then (p.1, v) else p).1 : Key), V.int (if p.1 = k then (p.1, v) else p).2)
    by_cases e : p.1 = k
    · rw [if_pos e, if_pos (show (Sum.inl p.1 : Key) = Sum.inl k by rw [e])]
    · rw [if_neg e, if_neg (fun q => e (Sum.inl.inj q))]
  · rw [if_neg h, if_neg h]
    unfold enc
    rw [List.map_append]
    rfl
theorem enc_merge : ∀ (r acc : Row), mergeK (enc acc) (enc r) = enc (r.foldl (fun acc p => putI acc p.1 p.2) acc)
  | [], _ => rfl
  | p :: r, acc => by
    show mergeK (putK (enc acc) (Sum.inl p.1 : Key) (V.int p.2)) (enc r) = _
    rw [enc_put]
    exact enc_merge r _
theorem enc_from (r : Row) : mergeK [] (enc r) = enc (fromRow r) := enc_merge r []
/-! ### rows in the heap -/
/-- a pair (PLACE, WEIGHT) -/
def PairAtV (H : Hp) (x : V) (p : Int × Int) : Prop := ∃ t, x = .ref t ∧ H t = some (.tup [.int p.1, .int p.2])
/-- a tuple of pairs -/
structure RowT (K : PySem.W.Frag) (H : Hp) (a : Addr) (r : Row) : Prop where
  ex : ∃ vs, SqT K H a vs ∧ Paired (PairAtV H) vs r
/-- .. made by tuple(..) -/
structure RowV (H : Hp) (a : Addr) (r : Row) : Prop where
  ex : ∃ (o : Obj) (vs : List V), H a = some (.frz o (.tup vs)) ∧ o.dict = none ∧ Paired (PairAtV H) vs r
/-- what never changes is as it was -/
def Stay (H H' : Hp) : Prop := ∀ b o, H b = some o → ((∃ xs, o = .tup xs) ∨ ∃ ob u, o = .frz ob u) → H' b = some o
theorem same_stay {H H' : Hp} (h : Same H H') : Stay H H' := fun b o e _ => h b o e
theorem Stay.refl (H : Hp) : Stay H H := fun _ _ e _ => e
theorem Stay.trans {H H1 H2 : Hp} (a : Stay H H1) (b : Stay H1 H2) : Stay H H2 := fun c o e z => b c o (a c o e z) z
theorem Stay.pair {H H' : Hp} (s : Stay H H') {x : V} {p : Int × Int} (h : PairAtV H x p) : PairAtV H' x p := let ⟨t, e, ht⟩ := h; ⟨t, e, s _ _ ht (.inl ⟨_, rfl⟩)⟩
theorem Stay.pairs {H H' : Hp} (s : Stay H H') {vs : List V} {r : Row} (h : Paired (PairAtV H) vs r) : Paired (PairAtV H') vs r := Paired.mapP h fun _ _ q => s.pair q
theorem Stay.tup {K : PySem.W.Frag} {H H' : Hp} (s : Stay H H') {a : Addr} {xs : List V} (h : SqT K H a xs) : SqT K H' a xs := by
  rcases h with (h | ⟨o, h⟩) | h
  · exact .inl (.inl (s _ _ h (.inl ⟨_, rfl⟩)))
  · exact .inl (.inr ⟨o, s _ _ h (.inr ⟨_, _, rfl⟩)⟩)
  · exact .inr h
theorem RowT.stay {K : PySem.W.Frag} {H H' : Hp} {a : Addr} {r : Row} (h : RowT K H a r) (s : Stay H H') : RowT K H' a r := let ⟨vs, h1, h2⟩ := h.ex; ⟨vs, s.tup h1, s.pairs h2⟩
theorem RowV.stay {H H' : Hp} {a : Addr} {r : Row} (h : RowV H a r) (s : Stay H H') : RowV H' a r := let ⟨o, vs, h1, h2, h3⟩ := h.ex; ⟨o, vs, s _ _ h1 (.inr ⟨_, _, rfl⟩), h2, s.pairs h3⟩
theorem RowV.t {K : PySem.W.Frag} {H : Hp} {a : Addr} {r : Row} (h : RowV H a r) : RowT K H a r := let ⟨o, vs, h1, _, h3⟩ := h.ex; ⟨vs, .inl (.inr ⟨o, h1⟩), h3⟩
theorem same_upd {H : Hp} {p : Addr} {o : HO} (h : H p = none) : Same H (upd H p o) := fun b u e => by rw [upd_ne (ne_of_none e h)]; exact e
theorem same_new {H H' : Hp} (s : Same H H') {p : Addr} {o : HO} (h : H' p = none) : Same H (L2.upd H' p o) := s.trans (same_upd h)
theorem stay_upd {H : Hp} {p : Addr} {o u : HO} (h : H p = some u) (hm : (∀ xs, u ≠ .tup xs) ∧ ∀ ob z, u ≠ .frz ob z) : Stay H (upd H p o) := fun b v e z => by
  have hb : b ≠ p := fun q => by
    rw [q, h] at e
    cases e
    rcases z with ⟨xs, z⟩ | ⟨ob, y, z⟩
    · exact hm.1 xs z
    · exact hm.2 ob y z
  rw [upd_ne hb]
  exact e
theorem stay_lst {H : Hp} {p : Addr} {o : HO} {xs : List V} (h : H p = some (.lst xs)) : Stay H (upd H p o) := stay_upd h ⟨(fun _ q => nomatch q), (fun _ _ q => nomatch q)⟩
theorem stay_dK {H : Hp} {p : Addr} {o : HO} {kvs : List (Key × V)} (h : H p = some (.dK kvs)) : Stay H (upd H p o) := stay_upd h ⟨(fun _ q => nomatch q), (fun _ _ q => nomatch q)⟩
theorem stay_ins {H : Hp} {p C dx : Addr} {o : HO} {fs : List (Str × V)} (h : H p = some (.ins C dx fs)) : Stay H (upd H p o) := stay_upd h ⟨(fun _ q => nomatch q), (fun _ _ q => nomatch q)⟩
theorem Paired.get' {α β : Type} {F : α → β → Prop} : ∀ {l₁ : List α} {l₂ : List β} {i : Nat} {x : α}, Paired F l₁ l₂ → l₁[i]? = some x → ∃ y, l₂[i]? = some y ∧ F x y
  | _, _, _, _, .nil, e => by simp at e
  | _, _, 0, _, .cons r _, e => by
    cases (Option.some.inj e)
    exact ⟨_, rfl, r⟩
  | _, _, i + 1, x, .cons _ t, e => by
    obtain ⟨u, h1, h2⟩ := Paired.get' (i := i) (x := x) t (by simpa using e)
    exact ⟨u, by simpa using h1, h2⟩
theorem Paired.snoc {α β : Type} {F : α → β → Prop} {x : α} {y : β} (h : F x y) : ∀ {l₁ : List α} {l₂ : List β}, Paired F l₁ l₂ → Paired F (l₁ ++ [x]) (l₂ ++ [y])
  | _, _, .nil => .cons h .nil
  | _, _, .cons r t => .cons r (Paired.snoc h t)
theorem Paired.rev {α β : Type} {F : α → β → Prop} : ∀ {l₁ : List α} {l₂ : List β}, Paired F l₁ l₂ → Paired F l₁.reverse l₂.reverse
  | _, _, .nil => .nil
  | _, _, .cons (a := a) (b := b) r t => by
    rw [List.reverse_cons, List.reverse_cons]
    exact Paired.snoc r (Paired.rev t)
/-! ### rows as data -/
def rowD (r : Row) : PyData := .tuple (r.map fun p => .tuple [.int p.1, .int p.2])
theorem pair_dp {K : PySem.W.Frag} {H : Hp} {x : V} {p : Int × Int} (h : PairAtV H x p) : Dp K H x (.tuple [.int p.1, .int p.2]) := by
  obtain ⟨t, rfl, ht⟩ := h
  exact .tup (.inl (.inl ht)) (.cons (.int _) (.cons (.int _) .nil))
theorem pairs_dp {K : PySem.W.Frag} {H : Hp} : ∀ {vs : List V} {r : Row}, Paired (PairAtV H) vs r → DpAll K H vs (r.map fun p => PyData.tuple [.int p.1, .int p.2])
  | _, _, .nil => .nil
  | _, _, .cons h t => .cons (pair_dp h) (pairs_dp t)
theorem RowT.dp {K : PySem.W.Frag} {H : Hp} {a : Addr} {r : Row} (h : RowT K H a r) : Dp K H (.ref a) (rowD r) := let ⟨_, h1, h2⟩ := h.ex; .tup h1 (pairs_dp h2)
theorem pairs_lay : ∀ r : Row, PyData.canLayAll0 (r.map fun p => PyData.tuple [.int p.1, .int p.2]) = true
  | [] => by simp [PyData.canLayAll0]
  | p :: r => by simp [PyData.canLayAll0, PyData.canLay0, pairs_lay r]
theorem rowD_lay (r : Row) : (rowD r).canLay0 = true := by
  have h := pairs_lay r
  simpa [rowD, PyData.canLay0] using h
theorem pairs_depth : ∀ r : Row, PyData.depthAll (r.map fun p => PyData.tuple [.int p.1, .int p.2]) ≤ 1
  | [] => by simp [PyData.depthAll]
  | p :: r => by
    have := pairs_depth r
    simp [PyData.depthAll, PyData.depth]
    omega
theorem rowD_depth (r : Row) : (rowD r).depth ≤ 2 := by
  have h := pairs_depth r
  simp only [rowD, PyData.depth]
  omega
theorem rowD_shaped (r : Row) : SeqAt.shaped (rowD r) = true := by
  unfold SeqAt.shaped
  rw [rowD_lay, Bool.true_and]
  have := rowD_depth r
  exact decide_eq_true (by omega)
theorem rowD_refl (r : Row) : PyData.eqv (rowD r) (rowD r) = true := SeqAt.eqv_refl _ (rowD_lay r)
end Sg
/-! ## SgC -/
namespace Sg
open PySem PySem.Spec PyProof.Rows L2
/-! ### the text by places -/
def top (i : Nat) : Stmt := PySem.Challenge.pw_samegaps_k84_whole_kept_differences.main.body.getD i (.Pass ⟨0, 0, 0, 0⟩)
abbrev s_is_whole : Stmt := top 2
abbrev s_is_pair : Stmt := top 3
abbrev s_power_of : Stmt := top 4
abbrev s_wrong_in_row : Stmt := top 7
abbrev s_row_of_sums : Stmt := top 8
abbrev s_row_plus : Stmt := top 9
abbrev s_row_mirror : Stmt := top 10
abbrev s_row_product : Stmt := top 11
abbrev s_differences_by : Stmt := top 13
abbrev s_with_weight : Stmt := top 14
abbrev s_is_name_by : Stmt := top 21
abbrev s_book_row : Stmt := top 22
abbrev s_book_put : Stmt := top 23
abbrev s_book_more : Stmt := top 24
abbrev s_book_strike : Stmt := top 25
abbrev s_book_join : Stmt := top 26
abbrev s_book_cross : Stmt := top 27
abbrev s_is_great : Stmt := top 28
abbrev s_is_full : Stmt := top 29
abbrev s_check_row : Stmt := top 39
abbrev s_check_both : Stmt := top 40
abbrev s_check_whole : Stmt := top 41
abbrev s_few_pairs : Stmt := top 42
abbrev s_check_name : Stmt := top 44
abbrev s_check_names : Stmt := top 45
abbrev s_differences : Stmt := top 48
abbrev s_grown : Stmt := top 49
abbrev s__law_pot : Stmt := top 51
abbrev s__law_draw : Stmt := top 52
abbrev s__law_pick : Stmt := top 53
abbrev s__law_packed : Stmt := top 54
abbrev s__law_times : Stmt := top 55
abbrev s__law_plus : Stmt := top 56
abbrev s__law_mirror : Stmt := top 57
abbrev s__law_gaps : Stmt := top 58
abbrev s__law_names : Stmt := top 59
abbrev s__law_row : Stmt := top 60
abbrev s__law_is_kept : Stmt := top 61
abbrev s__law_weight : Stmt := top 62
abbrev s__law_fresh : Stmt := top 63
abbrev s__law_is_grown : Stmt := top 64
abbrev s__law_right : Stmt := top 65
abbrev s_law : Stmt := top 66
abbrev m___init__ : Stmt := inClass (top 46) 0
abbrev m__be_new : Stmt := inClass (top 46) 1
abbrev m__be_there : Stmt := inClass (top 46) 2
abbrev m__lead : Stmt := inClass (top 46) 3
abbrev m_put : Stmt := inClass (top 46) 4
abbrev m_more : Stmt := inClass (top 46) 5
abbrev m_strike : Stmt := inClass (top 46) 6
abbrev m_join : Stmt := inClass (top 46) 7
abbrev m_cross : Stmt := inClass (top 46) 8
abbrev m_undo : Stmt := inClass (top 46) 9
abbrev m_row : Stmt := inClass (top 46) 11
abbrev m_kept : Stmt := inClass (top 46) 12
abbrev m_twin : Stmt := inClass (top 46) 17

/-! ### defs of the module, methods of the class, by name -/
/-- a def of the module as the top left it -/
structure Df (K : PySem.W.Frag) (mg : Str → Option Value) (x : Str) (st : Stmt) : Prop where
  ex : ∃ f fd, FunD K x x (defArgs st) (defBody st) (defScope st) [] [] f fd ∧ mg x = some (.ref f)
/-- a method of the class at C -/
structure Md (K : PySem.W.Frag) (C : Addr) (m qual : Str) (st : Stmt) : Prop where
  ex : ∃ f fd, FunD K m qual (defArgs st) (defBody st) (defScope st) [] [] f fd ∧ Meth K C m f
/-- a def that may be called by its name -/
structure Cl (P : Program) (w : World) (K : PySem.W.Frag) (mg : Str → Option Value) (base : Heap) (k : Nat) (x : Str) (ps : List Str) (sp : Sp) : Prop where
  ex : ∃ f fd, FnOk P w K mg base CX0 k f fd ps sp ∧ mg x = some (.ref f) ∧ PySem.W.keepIn K (.ref f) = true ∧ Binds K fd ps []
structure Mt (P : Program) (w : World) (K : PySem.W.Frag) (mg : Str → Option Value) (base : Heap) (k : Nat) (C : Addr) (m : Str) (ps : List Str) (sp : Sp) : Prop where
  ex : ∃ f fd, FnOk P w K mg base CX0 k f fd ps sp ∧ Meth K C m f ∧ Binds K fd ps []
structure ClG (P : Program) (w : World) (K : PySem.W.Frag) (mg : Str → Option Value) (base : Heap) (k : Nat) (x : Str) (ps : List Str) (sp : Sp) : Prop where
  ex : ∃ f fd, FnG P w K mg base k f fd ps sp ∧ mg x = some (.ref f) ∧ PySem.W.keepIn K (.ref f) = true ∧ Binds K fd ps []
abbrev BindB (x qual : Str) (st : Stmt) (ps : List Str) : Prop := ∀ (kV doc pm : Value) (an : Option Addr) (cdv ct : Value) (us : List Value), us.length = ps.length → bindArgs (PySem.W.fnOf x qual (defArgs st) (defBody st) (defScope st) .none kV doc pm an cdv ct) ⟨us, []⟩ = pure (ps.zip us)
section
variable {P : Program} {w : World} {K : PySem.W.Frag} {mg : Str → Option Value} {base : Heap}
abbrev BodyB (P : Program) (w : World) (K : PySem.W.Frag) (mg : Str → Option Value) (base : Heap) (qual : Str) (st : Stmt) (N : List Str) (k : Nat) (sp : Sp) : Prop := ∀ (f : Addr) (cdv : Value) (A : Around) (outer : List Env) (s : Shared) (H : Hp) (vs : List V) (Q : VK) (E : XK), Room k (A.deeper (envOfC qual (defScope st) s.heap.objs.size f cdv)) → sp vs H Q E →
  ∃ t, PSs (cxOf CX0 P w K mg base N qual (defScope st) f cdv A outer s H E).nox (defBody st) t ∧ t { nx := fun _ H' => Q .non H', rt := Q } (start N vs) H
abbrev BodyG (P : Program) (w : World) (K : PySem.W.Frag) (mg : Str → Option Value) (base : Heap) (qual : Str) (st : Stmt) (N : List Str) (k : Nat) (sp : Sp) : Prop := ∀ (f : Addr) (cdv : Value) (A : Around) (outer : List Env) (s : Shared) (H : Hp) (vs : List V) (Q : VK), Room k (A.deeper (envOfC qual (defScope st) s.heap.objs.size f cdv)) → A.guards = some [] → sp vs H Q E0 →
  ∃ t, PSs (cxOf CX0 P w K mg base N qual (defScope st) f cdv A outer s H E0).nox (defBody st) t ∧ t { nx := fun _ H' => Q .non H', rt := Q } (start N vs) H
theorem Df.cl {x : Str} {st : Stmt} {N ps : List Str} {k : Nat} {sp : Sp} (D : Df K mg x st) (S : FnScope N ps (defScope st)) (len : ∀ vs H Q E, sp vs H Q E → vs.length = ps.length) (b : BindB x x st ps) (hbody : BodyB P w K mg base x st N k sp) : Cl P w K mg base (k + 1) x ps sp := by
  obtain ⟨f, fd, F, hm⟩ := D.ex
  refine ⟨f, fd, F.ok S len fun cdv A outer s H vs Q E hr h => ?_, hm, F.kp, F.bindsN b⟩
  obtain ⟨t, ht, q⟩ := hbody f cdv A outer s H vs Q E hr h
  exact ⟨t, ht.nox, q⟩
theorem Df.clG {x : Str} {st : Stmt} {N ps : List Str} {k : Nat} {sp : Sp} (D : Df K mg x st) (S : FnScope N ps (defScope st)) (len : ∀ vs H Q E, sp vs H Q E → vs.length = ps.length) (b : BindB x x st ps) (hbody : BodyG P w K mg base x st N k sp) : ClG P w K mg base (k + 1) x ps sp := by
  obtain ⟨f, fd, F, hm⟩ := D.ex
  exact ⟨f, fd, okG F S len fun cdv A outer s H vs Q hr hG h => hbody f cdv A outer s H vs Q hr hG h, hm, F.kp, F.bindsN b⟩
theorem Md.mt {C : Addr} {m qual : Str} {st : Stmt} {N ps : List Str} {k : Nat} {sp : Sp} (D : Md K C m qual st) (S : FnScope N ps (defScope st)) (len : ∀ vs H Q E, sp vs H Q E → vs.length = ps.length) (b : BindB m qual st ps) (hbody : BodyB P w K mg base qual st N k sp) : Mt P w K mg base (k + 1) C m ps sp := by
  obtain ⟨f, fd, F, hm⟩ := D.ex
  refine ⟨f, fd, F.ok S len fun cdv A outer s H vs Q E hr h => ?_, hm, F.bindsN b⟩
  obtain ⟨t, ht, q⟩ := hbody f cdv A outer s H vs Q E hr h
  exact ⟨t, ht.nox, q⟩
end
section
variable {X : Cx} {k j : Nat} {C : Addr} {x m : Str} {ps : List Str} {sp : Sp} {p pos apos : Pos} {e o : Expr} {es : List Expr} {ta : TE} {t : TA}
def tCl (sp : Sp) (t : TA) : TE := fun σ H Q => t σ H fun vs H1 => sp vs H1 Q E0
def tMtd (C : Addr) (m : Str) (sp : Sp) (ta : TE) (t : TA) : TE := fun σ H Q => ta σ H fun x H1 => ∃ a dx fs, x = .ref a ∧ H1 a = some (.ins C dx fs) ∧ fs.lookup m = none ∧ t σ H1 fun vs H2 => sp (x :: vs) H2 Q E0
theorem pe_eq {e : Expr} {t u : TE} (h : PE X e t) (q : t = u) : PE X e u := q ▸ h
theorem pe_cl (c : Cl X.prog X.w X.K X.mg X.base k x ps sp) (hr : Room j X.A) (hk : k ≤ j) (hg : Gl X x) (ha : PA X (e :: es) t)
    (hdb : (x == ("__debug__" : Str)) = false := by decide) (he : starEach (e :: es) X.env = (false, eval e X.env) :: starEach es X.env := by rfl) (hpl : (backTo pos (starEach es X.env)).any (·.1) = false := by rfl) :
    PE X (.Call (.Name x p) (e :: es) [] pos) (tCl sp t) := by
  obtain ⟨f, fd, F, hm, kp, b⟩ := c.ex
  refine pe_eq (pe_call F (hr.mono hk) hg hm kp b .nil pass0 ha hdb he hpl) ?_
  unfold tCall tCl
  simp only [List.append_nil]
theorem pe_clG (c : ClG X.prog X.w X.K X.mg X.base k x ps sp) (hr : Room j X.A) (hk : k ≤ j) (hG : X.A.guards = some []) (hg : Gl X x) (ha : PA X (e :: es) t)
    (hdb : (x == ("__debug__" : Str)) = false := by decide) (he : starEach (e :: es) X.env = (false, eval e X.env) :: starEach es X.env := by rfl) (hpl : (backTo pos (starEach es X.env)).any (·.1) = false := by rfl) :
    PE X (.Call (.Name x p) (e :: es) [] pos) (tCl sp t) := by
  obtain ⟨f, fd, F, hm, kp, b⟩ := c.ex
  refine pe_eq (pe_callG F (hr.mono hk) hG hg hm kp b ha hdb he hpl) ?_
  unfold tCall tCl
  simp only [List.append_nil]
theorem pe_mtd {pl : Sem Bool} (c : Mt X.prog X.w X.K X.mg X.base k C m ps sp) (cl : Cls X.K C) (hr : Room j X.A) (hk : k ≤ j) (he : PE X o ta) (ha : PA X (e :: es) t)
    (hst : starEach (e :: es) X.env = (false, eval e X.env) :: starEach es X.env := by rfl) (hpl : (backTo pos (starEach es X.env)).any (·.1) = false := by rfl)
    (ht : eval (.Call (.Attribute o m apos) (e :: es) [] pos) X.env = (do
      let ov ← eval o X.env
      standAt apos.atName
      let (f, first) ← holding [ov] (getMethod ov m pl)
      callWith pos f first (backTo pos (starEach (e :: es) X.env)) (backToKw pos (keywordEach [] X.env))) := by rfl) :
    PE X (.Call (.Attribute o m apos) (e :: es) [] pos) (tMtd C m sp ta t) := by
  obtain ⟨f, fd, F, hm, b⟩ := c.ex
  refine pe_eq (pe_meth (pl := pl) he cl hm F (hr.mono hk) b .nil pass0 ha hst hpl ht) ?_
  unfold tMeth tMtd
  simp only [List.append_nil]
theorem pe_mtd0 {pl : Sem Bool} (c : Mt X.prog X.w X.K X.mg X.base k C m ps sp) (cl : Cls X.K C) (hr : Room j X.A) (hk : k ≤ j) (he : PE X o ta)
    (ht : eval (.Call (.Attribute o m apos) [] [] pos) X.env = (do
      let ov ← eval o X.env
      standAt apos.atName
      let (f, first) ← holding [ov] (getMethod ov m pl)
      callWith pos f first (backTo pos (starEach [] X.env)) (backToKw pos (keywordEach [] X.env))) := by rfl) :
    PE X (.Call (.Attribute o m apos) [] [] pos) (tMtd C m sp ta tNil) := by
  obtain ⟨f, fd, F, hm, b⟩ := c.ex
  refine pe_eq (pe_meth0 (pl := pl) he cl hm F (hr.mono hk) b .nil pass0 ht) ?_
  unfold tMeth tMtd
  simp only [List.append_nil]
end
/-- built-in names that the module leaves alone -/
structure Free (mg : Str → Option Value) : Prop where
  isi : mg "isinstance" = none
  int : mg "int" = none
  bool : mg "bool" = none
  tup : mg "tuple" = none
  len : mg "len" = none
  enum : mg "enumerate" = none
  sorted : mg "sorted" = none
  dict : mg "dict" = none
  range : mg "range" = none
  str : mg "str" = none
  all : mg "all" = none
  any : mg "any" = none
  abs : mg "abs" = none
  list : mg "list" = none
  sum : mg "sum" = none
  repr : mg "repr" = none
  max : mg "max" = none
  min : mg "min" = none
  mostP : ∃ t, mg "MOST_PAIRS" = some (.int 400 t)
  mostE : ∃ t, mg "MOST_ENTRIES" = some (.int 12 t)
  mostI : ∃ t, mg "MOST_IN_ENTRY" = some (.int 20 t)
  mostF : ∃ t, mg "MOST_FIGURES" = some (.int 400 t)
  mostL : ∃ t, mg "MOST_LETTERS" = some (.int 8 t)
  letters : ∃ t, mg "LETTERS" = some (.str "abcdefghijklmnopqrstuvwxyz" t)
/-- a module's whole number -/
theorem pe_gi {X : Cx} {x : Str} {i : Int} {pos : Pos} (hg : Gl X x) (h : ∃ t, X.mg x = some (.int i t)) (hd : (x == ("__debug__" : Str)) = false := by decide) : PE X (.Name x pos) (tC (.int i)) := by
  obtain ⟨t, h⟩ := h
  exact pe_glob hg h ⟨t, rfl⟩ hd
theorem pe_gs {X : Cx} {x z : Str} {pos : Pos} (hg : Gl X x) (h : ∃ t, X.mg x = some (.str z t)) (hd : (x == ("__debug__" : Str)) = false := by decide) : PE X (.Name x pos) (tC (.str z)) := by
  obtain ⟨t, h⟩ := h
  exact pe_glob hg h ⟨t, rfl⟩ hd
theorem bind1 {x q : Str} {st : Stmt} {a : Str} (h : ∀ (kV doc pm : Value) (an : Option Addr) (cdv ct u : Value), bindArgs (PySem.W.fnOf x q (defArgs st) (defBody st) (defScope st) .none kV doc pm an cdv ct) ⟨[u], []⟩ = pure [(a, u)]) : BindB x q st [a] := fun kV doc pm an cdv ct us hl => match us, hl with
  | [u], _ => h kV doc pm an cdv ct u
end Sg
/-! ## SgD1 -/
namespace Sg
open PySem PySem.Spec PyProof.Rows L2
section
variable {P : Program} {w : World} {K : PySem.W.Frag} {mg : Str → Option Value} {base : Heap}
theorem ifF {c : Bool} {A B : Prop} (h : c = false) (hb : B) : if c = true then A else B := by
  rw [h]
  exact iteF hb
theorem ifT {c : Bool} {A B : Prop} (h : c = true) (ha : A) : if c = true then A else B := by
  rw [h]
  exact iteT ha
/-! ### is_whole, is_pair, power_of, few_pairs -/
def spWhole : Sp := fun vs H Q _ => ∃ i : Int, vs = [.int i] ∧ Q (.bl true) H
theorem sc_is_whole : FnScope ["value"] ["value"] (defScope s_is_whole) := ⟨rfl, rfl, rfl, by decide +kernel, rfl, by decide +kernel, by decide +kernel⟩
theorem ok_is_whole (D : Df K mg "is_whole" s_is_whole) (T : Free mg) : Cl P w K mg base 1 "is_whole" ["value"] spWhole := by
  refine D.cl sc_is_whole (fun vs H Q E h => ?_) (fun _ _ _ _ _ _ us hl => match us, hl with | [_], _ => rfl) (fun f cdv A outer s H vs Q E hr h => ?_)
  · obtain ⟨i, rfl, _⟩ := h
    rfl
  · obtain ⟨i, rfl, k⟩ := h
    refine ⟨_, pss_one (ps_ret (pe_and (pe_callB call_isi (by rfl) T.isi boot_isinstance (pa_cons (pv 0) (pa_cons (pe_bltn (v := .ty "int") (by rfl) T.int boot_int rfl) pa_nil)))
      (pe_one (pe_not (pe_callB call_isi (by rfl) T.isi boot_isinstance (pa_cons (pv 0) (pa_cons (pe_bltn (v := .ty "bool") (by rfl) T.bool (by decide +kernel) rfl) pa_nil))))))), ?_⟩
    refine ⟨_, rfl, _, _, _, _, true, rfl, .ty _, .base (.int i), kit_ty (by decide +kernel), _, rfl, iteT ?_⟩
    exact ⟨_, rfl, _, _, _, _, false, rfl, .ty _, .base (.int i), kit_ty (by decide +kernel), _, rfl, k⟩
def spPair (K : PySem.W.Frag) : Sp := fun vs H Q _ => ∃ (t : Addr) (x y : V), vs = [.ref t] ∧ H t = some (.tup [x, y]) ∧ Q (.bl true) H
theorem sc_is_pair : FnScope ["value"] ["value"] (defScope s_is_pair) := ⟨rfl, rfl, rfl, by decide +kernel, rfl, by decide +kernel, by decide +kernel⟩
theorem ok_is_pair (D : Df K mg "is_pair" s_is_pair) (T : Free mg) : Cl P w K mg base 1 "is_pair" ["value"] (spPair K) := by
  refine D.cl sc_is_pair (fun vs H Q E h => ?_) (fun _ _ _ _ _ _ us hl => match us, hl with | [_], _ => rfl) (fun f cdv A outer s H vs Q E hr h => ?_)
  · obtain ⟨t, x, y, rfl, _⟩ := h
    rfl
  · obtain ⟨t, x, y, rfl, ht, k⟩ := h
    refine ⟨_, pss_one (ps_ret (pe_and (pe_callB call_isi (by rfl) T.isi boot_isinstance (pa_cons (pv 0) (pa_cons (pe_bltn (v := .ty "tuple") (by rfl) T.tup (by decide +kernel) rfl) pa_nil)))
      (pe_one (pe_cmp (pc_eqI (pe_callB call_len_seq (by rfl) T.len boot_len (pa_cons (pv 0) pa_nil)) pe_int) rfl)))), ?_⟩
    refine ⟨_, rfl, _, _, _, _, true, rfl, .ty _, .base (.tup ht), kit_ty (by decide +kernel), _, rfl, iteT ?_⟩
    exact ⟨_, rfl, t, _, rfl, .inr (.of ht), _, _, rfl, rfl, k⟩
def spPow : Sp := fun vs H Q _ => ∃ i n : Int, vs = [.int i, .int n] ∧ i = 10 ∧ n = 400 ∧ ∀ L : Int, 10 ^ 62 ≤ L → Q (.int L) H
theorem sc_power_of : FnScope ["number", "many", "found", "_"] ["number", "many"] (defScope s_power_of) := ⟨rfl, rfl, rfl, by decide +kernel, rfl, by decide +kernel, by decide +kernel⟩
theorem ten_bits (i : Nat) (h : i ≤ 400) : ((10 : Int) ^ i).natAbs < 2 ^ 1600 := by
  rw [Int.natAbs_pow]
  have h1 : (10 : Nat) ^ i ≤ 10 ^ 400 := Nat.pow_le_pow_right (by decide) h
  have h2 : (10 : Nat) ^ 400 < 2 ^ 1600 := by decide +kernel
  exact Nat.lt_of_le_of_lt h1 h2
theorem ok_power_of (D : Df K mg "power_of" s_power_of) (T : Free mg) : Cl P w K mg base 1 "power_of" ["number", "many"] spPow := by
  refine D.cl sc_power_of (fun vs H Q E h => ?_) (fun _ _ _ _ _ _ us hl => match us, hl with | [_, _], _ => rfl) (fun f cdv A outer s H vs Q E hr h => ?_)
  · obtain ⟨i, n, rfl, _⟩ := h
    rfl
  · obtain ⟨i, n, rfl, rfl, rfl, k⟩ := h
    refine ⟨_, pss_cons (ps_set (i := 2) sc_power_of.nd rfl (Or.inl rfl) pe_int)
      (pss_cons (ps_for PassesOwn.never rfl (pi_range1 (by rfl) T.range (pa_cons (pv 1) pa_nil)) (pg_name (i := 3) sc_power_of.nd rfl (Or.inl rfl))
        (pss_one (ps_set (i := 2) sc_power_of.nd rfl (Or.inl rfl) (pe_op op_mulW (pv 2) (pv 0)))))
      (pss_one (ps_ret (pv 2)))), ?_⟩
    refine ⟨_, rfl, 400, rfl, by decide, by decide, for_range (n := 400) (fun i σ H' => ∃ v, σ = [some (.int 10), some (.int 400), some (.int (10 ^ i)), v] ∧ H' = H) ⟨none, rfl, rfl⟩ ?_ ?_⟩
    · rintro i σ H' hi ⟨v, rfl, rfl⟩
      refine ⟨_, rfl, _, rfl, _, _, rfl, rfl, wide_mul (a := 1600) (b := 4) (ten_bits i (by omega)) (by decide) (by decide) (by decide) (by decide), ?_⟩
      exact ⟨_, by rw [Int.pow_succ]; rfl, rfl⟩
    · rintro σ H' ⟨v, rfl, rfl⟩
      refine ⟨_, rfl, k _ ?_⟩
      have h1 : (10 : Nat) ^ 62 ≤ 10 ^ (62 + 338) := Nat.pow_le_pow_right (by decide) (by decide)
      have h2 : (((10 : Nat) ^ 62 : Nat) : Int) ≤ (((10 : Nat) ^ (62 + 338) : Nat) : Int) := Int.ofNat_le.mpr h1
      rw [Int.natCast_pow, Int.natCast_pow] at h2
      exact h2
def spFew (K : PySem.W.Frag) : Sp := fun vs H Q _ => ∃ (a : Addr) (xs : List V), vs = [.ref a] ∧ SqT K H a xs ∧ xs.length ≤ 400 ∧ Q (.ref a) H
theorem sc_few : FnScope ["row"] ["row"] (defScope s_few_pairs) := ⟨rfl, rfl, rfl, by decide +kernel, rfl, by decide +kernel, by decide +kernel⟩
theorem ok_few (D : Df K mg "few_pairs" s_few_pairs) (T : Free mg) : Cl P w K mg base 1 "few_pairs" ["row"] (spFew K) := by
  refine D.cl sc_few (fun vs H Q E h => ?_) (fun _ _ _ _ _ _ us hl => match us, hl with | [_], _ => rfl) (fun f cdv A outer s H vs Q E hr h => ?_)
  · obtain ⟨a, xs, rfl, _⟩ := h
    rfl
  · obtain ⟨a, xs, rfl, hx, hl, k⟩ := h
    refine ⟨_, pss_cons (ps_if (pt_cmpR op_gt (pe_callB call_len_seq (by rfl) T.len boot_len (pa_cons (pv 0) pa_nil)) (pe_gi (by rfl) T.mostP) (nomark _)) (pss_one ps_never) pss_nil) (pss_one (ps_ret (pv 0))), ?_⟩
    refine ⟨_, rfl, a, xs, rfl, .inr hx, _, _, rfl, rfl, _, rfl, ?_⟩
    refine ifF (decide_eq_false (by omega)) ?_
    exact ⟨_, rfl, k⟩
end
end Sg
/-! ## SgD2 -/
namespace Sg
open PySem PySem.Spec PyProof.Rows L2
/-! ### a dict packed as a row: row_of_sums, _law_packed -/
theorem packK_take {kvs : Row} {ys : List Int} {i : Nat} {k v : Int} (h : ys[i]? = some k) (hv : lookI kvs k = some v) : packK kvs (ys.take (i + 1)) = packK kvs (ys.take i) ++ (if v ≠ 0 then [(k, v)] else []) := by
  rw [List.take_add_one, h]
  unfold packK
  rw [List.filterMap_append]
  congr 1
  show (List.filterMap _ [k]) = _
  rw [List.filterMap_cons, hv]
  by_cases z : v ≠ 0
  · rw [if_pos z]
    rw [if_pos (show (some v).getD 0 ≠ 0 from z)]
    rfl
  · rw [if_neg z]
    rw [if_neg (show ¬ (some v).getD 0 ≠ 0 from z)]
    rfl
theorem packK_len (kvs : Row) (ks : List Int) : (packK kvs ks).length ≤ ks.length := List.length_filterMap_le _ _
theorem Paired.len {α β : Type} {F : α → β → Prop} {l₁ : List α} {l₂ : List β} (h : Paired F l₁ l₂) : l₁.length = l₂.length := PySem.Paired.length h
def spPack (K : PySem.W.Frag) : Sp := fun vs H Q _ => ∃ (d : Addr) (kvs : Row), vs = [.ref d] ∧ H d = some (.dK (enc kvs)) ∧ kvs.length ≤ 1000000 ∧ ∀ p H', Same H H' → RowV H' p (pack kvs) → Q (.ref p) H'
abbrev tPackR (K : PySem.W.Frag) : TS := tRet (tCB (rTupF K) (tCons (tLc (iList K (tCB rSortD (tCons (tVar 0) tNil))) (gName 1) (tTest (tOp rNe (tDGet (tVar 0) (tVar 1)) (tC (.int 0)))) (tTup (tCons (tVar 1) (tCons (tDGet (tVar 0) (tVar 1)) tNil))) [1]) tNil))
theorem read_pack {K : PySem.W.Frag} {H : Hp} {Q : VK} {d : Addr} {kvs : Row} (hd : H d = some (.dK (enc kvs))) (hz : kvs.length ≤ 1000000) (k : ∀ p H', Same H H' → RowV H' p (pack kvs) → Q (.ref p) H') {D : Ends} (hD : D.rt = Q) :
    tPackR K D [some (.ref d), none] H := by
  have hs : (1000000 : Nat) < sizeLine := by decide
  refine ⟨_, rfl, d, enc kvs, kvs.map (·.1), rfl, .inl hd, enc_keys kvs, fun ys p hperm hle hp => ⟨p, rfl, ⟨_, SqL.of upd_same⟩, fun L hL => ?_⟩⟩
  have hys := keysS_one hperm hle
  have hlen : ys.length = kvs.length := by rw [hys, keysS_len]
  have hLp : L ≠ p := fun e => by
    rw [e, upd_same] at hL
    cases hL
  have hHL : H L = none := by
    rw [upd_ne hLp] at hL
    exact hL
  refine lc_list (K := K) (a := p) (xs := ys.map V.int) (fun i H' => ∃ acc : List V, H' L = some (.lst acc) ∧ Paired (PairAtV H') acc (packK kvs (ys.take i)) ∧ Same H H' ∧ H' p = some (.lst (ys.map V.int))) ?_ ?_ ?_ ?_
  · exact ⟨[], upd_same, .nil, same_new (same_upd hp) hL, by rw [upd_ne (Ne.symm hLp), upd_same]⟩
  · exact fun i H' _ ⟨_, _, _, _, h⟩ => SqL.of h
  · rintro i x H' hx ⟨acc, hacc, hpa, hsame, hp'⟩
    obtain ⟨y, hy, rfl⟩ : ∃ y, ys[i]? = some y ∧ x = V.int y := by
      rw [List.getElem?_map] at hx
      cases e : ys[i]? with
      | none => rw [e] at hx; cases hx
      | some y => rw [e] at hx; exact ⟨y, rfl, (Option.some.inj hx).symm⟩
    have hyi : i < ys.length := (List.getElem?_eq_some_iff.mp hy).1
    obtain ⟨v, hv⟩ := keysS_in (kvs := kvs) (k := y) (by rw [← hys]; exact List.mem_of_getElem? hy)
    have hd' : H' d = some (.dK (enc kvs)) := hsame _ _ hd
    have hg : ∀ H2 : Hp, H2 d = some (.dK (enc kvs)) → DGet H2 d (.int y) (some (.int v)) := fun H2 h2 => by
      have q := DGet.k (k := (Sum.inl y : Key)) h2
      rw [enc_val, hv] at q
      exact q
    have hal : acc.length < sizeLine := by
      have h1 := Paired.len hpa
      have h2 := packK_len kvs (ys.take i)
      rw [List.length_take] at h2
      omega
    refine ⟨rfl, _, rfl, _, rfl, d, _, rfl, hg _ hd', rfl, _, rfl, ?_⟩
    refine ite2 (fun hc => ?_) (fun hc => ?_)
    · refine ⟨_, rfl, _, rfl, _, rfl, d, _, rfl, hg _ hd', (by show 2 ≤ sizeLine; decide), fun t ht => ?_⟩
      refine ⟨acc, ?_, hal, acc ++ [.ref t], upd_same, ?_, ?_, ?_⟩
      · rw [upd_ne (ne_of_none hacc ht)]
        exact hacc
      · have st : Stay H' (upd (upd H' t (.tup [.int y, .int v])) L (.lst (acc ++ [.ref t]))) := Stay.trans (same_stay (same_upd ht)) (stay_lst (xs := acc) (by rw [upd_ne (ne_of_none hacc ht)]; exact hacc))
        have hv0 : v ≠ 0 := by
          intro e
          rw [e] at hc
          simp at hc
        rw [packK_take hy hv, if_pos hv0]
        refine Paired.snoc ⟨t, rfl, ?_⟩ (st.pairs hpa)
        rw [upd_ne (fun e => by rw [e, hacc] at ht; cases ht), upd_same]
      · intro b o e
        have hbL : b ≠ L := ne_of_none e hHL
        rw [upd_ne hbL, upd_ne (ne_of_none (hsame _ _ e) ht)]
        exact hsame _ _ e
      · rw [upd_ne (Ne.symm hLp), upd_ne (ne_of_none hp' ht)]
        exact hp'
    · have hv0 : ¬ v ≠ 0 := by
        intro e
        apply hc
        simp [e]
      refine ⟨acc, hacc, ?_, hsame, hp'⟩
      rw [packK_take hy hv, if_neg hv0, List.append_nil]
      exact hpa
  · rintro H' ⟨acc, hacc, hpa, hsame, hp'⟩
    rw [List.length_map, List.take_length] at hpa
    refine ⟨L, acc, rfl, SqL.of hacc, fun l o hl ho => ?_⟩
    rw [hD]
    refine k l _ (same_new hsame hl) ⟨o, acc, upd_same, ho, ?_⟩
    unfold pack
    rw [← hys]
    exact Stay.pairs (same_stay (same_upd hl)) hpa
section
variable {P : Program} {w : World} {K : PySem.W.Frag} {mg : Str → Option Value} {base : Heap}
theorem sc_sums : FnScope ["sums", "place"] ["sums"] (defScope s_row_of_sums) := ⟨rfl, rfl, rfl, by decide +kernel, rfl, by decide +kernel, by decide +kernel⟩
theorem ok_sums (D : Df K mg "row_of_sums" s_row_of_sums) (T : Free mg) : Cl P w K mg base 1 "row_of_sums" ["sums"] (spPack K) := by
  refine D.cl sc_sums (fun vs H Q E h => ?_) (fun _ _ _ _ _ _ us hl => match us, hl with | [_], _ => rfl) (fun f cdv A outer s H vs Q E hr h => ?_)
  · obtain ⟨d, kvs, rfl, _⟩ := h
    rfl
  · obtain ⟨d, kvs, rfl, hd, hz, k⟩ := h
    have hu := hu_of hr
    exact ⟨tPackR K, pss_one (ps_ret (pe_callTy call_tupF (by rfl) T.tup (by decide +kernel) (pa_cons (pe_lc (own := [("place", 1)]) (g := gName 1) (by rfl) sc_sums.nd
      (pi_list (pe_callB (call_sortDA rfl) (by rfl) T.sorted (by decide +kernel) (pa_cons (pv 0) pa_nil))) (blkOk_by (own := [("place", 1)]) (N := ["sums", "place"]) (sc := defScope s_row_of_sums) (by decide +kernel))
      (fun _ _ _ _ _ => pg_name (i := 1) sc_sums.nd rfl (Or.inl rfl)) (fun _ _ _ _ _ => pts_one (pt_cmpR op_ne (pe_dget hu (pv 0) (pv 1) (fun _ _ => rfl)) pe_int (nomark _)))
      (fun _ _ _ _ _ => pe_tup (pa_cons (pv 1) (pa_cons (pe_dget hu (pv 0) (pv 1) (fun _ _ => rfl)) pa_nil)))) pa_nil))), read_pack hd hz k rfl⟩
theorem sc_lpacked : FnScope ["_law_table", "_law_at"] ["_law_table"] (defScope s__law_packed) := ⟨rfl, rfl, rfl, by decide +kernel, rfl, by decide +kernel, by decide +kernel⟩
theorem ok_lpacked (D : Df K mg "_law_packed" s__law_packed) (T : Free mg) : Cl P w K mg base 1 "_law_packed" ["_law_table"] (spPack K) := by
  refine D.cl sc_lpacked (fun vs H Q E h => ?_) (fun _ _ _ _ _ _ us hl => match us, hl with | [_], _ => rfl) (fun f cdv A outer s H vs Q E hr h => ?_)
  · obtain ⟨d, kvs, rfl, _⟩ := h
    rfl
  · obtain ⟨d, kvs, rfl, hd, hz, k⟩ := h
    have hu := hu_of hr
    exact ⟨tPackR K, pss_one (ps_ret (pe_callTy call_tupF (by rfl) T.tup (by decide +kernel) (pa_cons (pe_lc (own := [("_law_at", 1)]) (g := gName 1) (by rfl) sc_lpacked.nd
      (pi_list (pe_callB (call_sortDA rfl) (by rfl) T.sorted (by decide +kernel) (pa_cons (pv 0) pa_nil))) (blkOk_by (own := [("_law_at", 1)]) (N := ["_law_table", "_law_at"]) (sc := defScope s__law_packed) (by decide +kernel))
      (fun _ _ _ _ _ => pg_name (i := 1) sc_lpacked.nd rfl (Or.inl rfl)) (fun _ _ _ _ _ => pts_one (pt_cmpR op_ne (pe_dget hu (pv 0) (pv 1) (fun _ _ => rfl)) pe_int (nomark _)))
      (fun _ _ _ _ _ => pe_tup (pa_cons (pv 1) (pa_cons (pe_dget hu (pv 0) (pv 1) (fun _ _ => rfl)) pa_nil)))) pa_nil))), read_pack hd hz k rfl⟩
end
end Sg
/-! ## SgD3 -/
namespace Sg
open PySem PySem.Spec PyProof.Rows L2
/-! ### a row mirrored -/
def spMirror (K : PySem.W.Frag) : Sp := fun vs H Q _ => ∃ (a : Addr) (r : Row), vs = [.ref a] ∧ RowT K H a r ∧ r.length ≤ 1000000 ∧ ∀ p H', Same H H' → RowV H' p (mirror r) → Q (.ref p) H'
abbrev tMirR (K : PySem.W.Frag) (te : TE) : TS := tRet (tCB (rTupF K) (tCons (tLc (iTup K (tRevT K (tVar 0))) (gTup K 2 (gCons (gName 1) (gCons (gName 2) gNil))) tYes (tTup (tCons te (tCons (tVar 2) tNil))) [1, 2]) tNil))
theorem read_mirror {K : PySem.W.Frag} {te : TE} (hte : ∀ σ H Q (p : Int), σ[1]? = some (some (.int p)) → Q (.int (-p)) H → te σ H Q) {H : Hp} {Q : VK} {a : Addr} {r : Row} (ha : RowT K H a r) (hz : r.length ≤ 1000000)
    (k : ∀ p H', Same H H' → RowV H' p (mirror r) → Q (.ref p) H') {D : Ends} (hD : D.rt = Q) : tMirR K te D [some (.ref a), none, none] H := by
  have hs : (1000000 : Nat) < sizeLine := by decide
  obtain ⟨vs, hv, hp⟩ := ha.ex
  refine ⟨_, rfl, a, vs, rfl, hv, fun q hq => ⟨q, rfl, ⟨_, SqT.of upd_same⟩, fun L hL => ?_⟩⟩
  have hLq : L ≠ q := fun e => by
    rw [e, upd_same] at hL
    cases hL
  have hHL : H L = none := by
    rw [upd_ne hLq] at hL
    exact hL
  have hrev : Paired (PairAtV H) vs.reverse r.reverse := Paired.rev hp
  have hlen : vs.reverse.length = r.reverse.length := Paired.len hrev
  refine lc_tup (K := K) (a := q) (xs := vs.reverse) (fun i H' => ∃ acc : List V, H' L = some (.lst acc) ∧ Paired (PairAtV H') acc ((r.reverse.take i).map fun p => (-p.1, p.2)) ∧ Same H H' ∧ H' q = some (.tup vs.reverse)) ?_ ?_ ?_ ?_
  · exact ⟨[], upd_same, .nil, same_new (same_upd hq) hL, by rw [upd_ne (Ne.symm hLq), upd_same]⟩
  · exact fun i H' _ ⟨_, _, _, _, h⟩ => SqT.of h
  · rintro i x H' hx ⟨acc, hacc, hpa, hsame, hq'⟩
    obtain ⟨p, hpi, t, rfl, ht⟩ := Paired.get' hrev hx
    have hi : i < r.reverse.length := (List.getElem?_eq_some_iff.mp hpi).1
    rw [List.length_reverse] at hi
    have ht' := hsame _ _ ht
    have hal : acc.length < sizeLine := by
      have h1 := Paired.len hpa
      rw [List.length_map, List.length_take] at h1
      omega
    refine ⟨t, _, rfl, .of ht', rfl, _, _, rfl, _, _, rfl, rfl, rfl, ?_⟩
    dsimp only [tYes]
    rw [if_pos rfl]
    refine hte _ _ _ p.1 rfl ⟨_, rfl, (by show 2 ≤ sizeLine; decide), fun u hu => ?_⟩
    have hacc2 : (upd H' u (.tup [.int (-p.1), .int p.2])) L = some (.lst acc) := by
      rw [upd_ne (ne_of_none hacc hu)]
      exact hacc
    refine ⟨acc, hacc2, hal, acc ++ [.ref u], upd_same, ?_, ?_, ?_⟩
    · have e : (r.reverse.take (i + 1)).map (fun p : Int × Int => (-p.1, p.2)) = (r.reverse.take i).map (fun p : Int × Int => (-p.1, p.2)) ++ [(-p.1, p.2)] := by
        rw [List.take_add_one, hpi, List.map_append]
        rfl
      rw [e]
      refine Paired.snoc ⟨u, rfl, ?_⟩ (Stay.pairs (Stay.trans (same_stay (same_upd hu)) (stay_lst hacc2)) hpa)
      rw [upd_ne (fun e => by rw [e, hacc] at hu; cases hu), upd_same]
    · intro b o e
      rw [upd_ne (ne_of_none e hHL), upd_ne (ne_of_none (hsame _ _ e) hu)]
      exact hsame _ _ e
    · rw [upd_ne (Ne.symm hLq), upd_ne (ne_of_none hq' hu)]
      exact hq'
  · rintro H' ⟨acc, hacc, hpa, hsame, hq'⟩
    rw [hlen, List.take_length] at hpa
    refine ⟨L, acc, rfl, SqL.of hacc, fun l o hl ho => ?_⟩
    rw [hD]
    exact k l _ (same_new hsame hl) ⟨o, acc, upd_same, ho, Stay.pairs (same_stay (same_upd hl)) hpa⟩
section
variable {P : Program} {w : World} {K : PySem.W.Frag} {mg : Str → Option Value} {base : Heap}
theorem sc_mirror : FnScope ["row", "place", "weight"] ["row"] (defScope s_row_mirror) := ⟨rfl, rfl, rfl, by decide +kernel, rfl, by decide +kernel, by decide +kernel⟩
theorem ok_mirror (D : Df K mg "row_mirror" s_row_mirror) (T : Free mg) : Cl P w K mg base 1 "row_mirror" ["row"] (spMirror K) := by
  refine D.cl sc_mirror (fun vs H Q E h => ?_) (fun _ _ _ _ _ _ us hl => match us, hl with | [_], _ => rfl) (fun f cdv A outer s H vs Q E hr h => ?_)
  · obtain ⟨a, r, rfl, _⟩ := h
    rfl
  · obtain ⟨a, r, rfl, ha, hz, k⟩ := h
    exact ⟨tMirR K (tUn (rU fun i => .int (-i)) (tVar 1)), pss_one (ps_ret (pe_callTy call_tupF (by rfl) T.tup (by decide +kernel) (pa_cons (pe_lc (own := [("place", 1), ("weight", 2)]) (by rfl) sc_mirror.nd
      (pi_tup (pe_revT (pv 0))) (blkOk_by (own := [("place", 1), ("weight", 2)]) (N := ["row", "place", "weight"]) (sc := defScope s_row_mirror) (by decide +kernel))
      (fun _ _ _ _ _ => pg_tup (by rfl) (pgs_cons (pg_name (i := 1) sc_mirror.nd rfl (Or.inl rfl)) (pgs_cons (pg_name (i := 2) sc_mirror.nd rfl (Or.inl rfl)) pgs_nil))) (fun _ _ _ _ _ => pts_nil)
      (fun _ _ _ _ _ => pe_tup (pa_cons (pe_un un_neg (pv 1)) (pa_cons (pv 2) pa_nil)))) pa_nil))), read_mirror (fun σ H Q p h q => ⟨_, h, p, rfl, q⟩) ha hz k rfl⟩
theorem sc_lmirror : FnScope ["_law_row_here", "_law_at", "_law_weight_here"] ["_law_row_here"] (defScope s__law_mirror) := ⟨rfl, rfl, rfl, by decide +kernel, rfl, by decide +kernel, by decide +kernel⟩
theorem ok_lmirror (D : Df K mg "_law_mirror" s__law_mirror) (T : Free mg) : Cl P w K mg base 1 "_law_mirror" ["_law_row_here"] (spMirror K) := by
  refine D.cl sc_lmirror (fun vs H Q E h => ?_) (fun _ _ _ _ _ _ us hl => match us, hl with | [_], _ => rfl) (fun f cdv A outer s H vs Q E hr h => ?_)
  · obtain ⟨a, r, rfl, _⟩ := h
    rfl
  · obtain ⟨a, r, rfl, ha, hz, k⟩ := h
    exact ⟨tMirR K (tOp (rI0 fun i j => .int (i - j)) (tC (.int 0)) (tVar 1)), pss_one (ps_ret (pe_callTy call_tupF (by rfl) T.tup (by decide +kernel) (pa_cons (pe_lc (own := [("_law_at", 1), ("_law_weight_here", 2)]) (by rfl) sc_lmirror.nd
      (pi_tup (pe_revT (pv 0))) (blkOk_by (own := [("_law_at", 1), ("_law_weight_here", 2)]) (N := ["_law_row_here", "_law_at", "_law_weight_here"]) (sc := defScope s__law_mirror) (by decide +kernel))
      (fun _ _ _ _ _ => pg_tup (by rfl) (pgs_cons (pg_name (i := 1) sc_lmirror.nd rfl (Or.inl rfl)) (pgs_cons (pg_name (i := 2) sc_lmirror.nd rfl (Or.inl rfl)) pgs_nil))) (fun _ _ _ _ _ => pts_nil)
      (fun _ _ _ _ _ => pe_tup (pa_cons (pe_op op_sub pe_int (pv 1)) (pa_cons (pv 2) pa_nil)))) pa_nil))), read_mirror (fun σ H Q p h q => ⟨_, h, 0, p, rfl, rfl, by show Q (.int (0 - p)) H; rw [Int.zero_sub]; exact q⟩) ha hz k rfl⟩
/-! ### products -/
def spProd (K : PySem.W.Frag) : Sp := fun vs H Q _ => ∃ (a b : Addr) (r s : Row), vs = [.ref a, .ref b] ∧ RowT K H a r ∧ RowT K H b s ∧ r.length ≤ 400 ∧ s.length ≤ 400 ∧ (∀ p ∈ r, p.2.natAbs < 2 ^ 210) ∧ (∀ p ∈ s, p.2.natAbs < 2 ^ 210) ∧
  ∀ p H', Same H H' → RowV H' p (times r s) → Q (.ref p) H'
abbrev tProdR (K : PySem.W.Frag) : TS :=
  tSeq (tAsg tDNewK (gName 2)) (tSeq (tFor (iTup K (tVar 0)) (gTup K 2 (gCons (gName 3) (gCons (gName 4) gNil)))
    (tFor (iTup K (tVar 1)) (gTup K 2 (gCons (gName 5) (gCons (gName 6) gNil)))
      (sDPut (tVar 2) (tOp (rI0 fun i j => .int (i + j)) (tVar 3) (tVar 5)) (tOp (rI0 fun i j => .int (i + j)) (tDGet2 (tVar 2) (tOp (rI0 fun i j => .int (i + j)) (tVar 3) (tVar 5)) (tC (.int 0))) (tOp (rI CMulW fun i j => .int (i * j)) (tVar 4) (tVar 6))))))
    (tRet (tCl (spPack K) (tCons (tVar 2) tNil))))
def innerD (p : Int × Int) (s acc : Row) : Row := s.foldl (fun acc q => addI acc (p.1 + q.1) (p.2 * q.2)) acc
def outerD (r s acc : Row) : Row := r.foldl (fun acc p => innerD p s acc) acc
theorem innerD_len (p : Int × Int) (s acc : Row) : (innerD p s acc).length ≤ acc.length + s.length := fold_add_len (fun q => p.1 + q.1) (fun q => p.2 * q.2) s acc
theorem innerD_take {p q : Int × Int} {s acc : Row} {j : Nat} (h : s[j]? = some q) : innerD p (s.take (j + 1)) acc = addI (innerD p (s.take j) acc) (p.1 + q.1) (p.2 * q.2) := by
  unfold innerD
  rw [List.take_add_one, h, List.foldl_append]
  rfl
theorem outerD_take {p : Int × Int} {r s acc : Row} {j : Nat} (h : r[j]? = some p) : outerD (r.take (j + 1)) s acc = innerD p s (outerD (r.take j) s acc) := by
  unfold outerD
  rw [List.take_add_one, h, List.foldl_append]
  rfl
theorem outerD_len (r s : Row) (i : Nat) (h : r.length ≤ 400) (hs : s.length ≤ 400) : (outerD (r.take i) s []).length ≤ 160000 := by
  have h1 : (outerD (r.take i) s []).length ≤ (r.take i).length * s.length := prodD_len (r.take i) s
  have h2 : (r.take i).length ≤ 400 := Nat.le_trans (List.length_take_le' _ _) h
  exact Nat.le_trans h1 (Nat.le_trans (Nat.mul_le_mul h2 hs) (by decide))
theorem get_put {H : Hp} {d : Addr} {kvs : Row} (hd : H d = some (.dK (enc kvs))) (k : Int) : DGet H d (.int k) ((lookI kvs k).map V.int) := by
  have q := DGet.k (k := (Sum.inl k : Key)) hd
  rw [enc_val] at q
  exact q
theorem getD_int (o : Option Int) : (o.map V.int).getD (.int 0) = .int (o.getD 0) := by
  cases o <;> rfl
theorem read_prod {H : Hp} {Q : VK} {a b : Addr} {r s : Row} (ha : RowT K H a r) (hb : RowT K H b s) (hr : r.length ≤ 400) (hs : s.length ≤ 400) (h1 : ∀ p ∈ r, p.2.natAbs < 2 ^ 210) (h2 : ∀ p ∈ s, p.2.natAbs < 2 ^ 210)
    (k : ∀ p H', Same H H' → RowV H' p (times r s) → Q (.ref p) H') {D : Ends} (hD : D.rt = Q) : tProdR K D [some (.ref a), some (.ref b), none, none, none, none, none] H := by
  have hz : (160800 : Nat) < sizeLine := by decide
  obtain ⟨vs, hv, hp⟩ := ha.ex
  obtain ⟨us, hu, hq⟩ := hb.ex
  have lv := Paired.len hp
  have lu := Paired.len hq
  intro d hd
  refine ⟨_, rfl, a, rfl, ⟨_, Stay.tup (same_stay (same_upd hd)) hv⟩, for_tup (K := K) (a := a) (xs := vs) (fun i σ H' => ∃ v3 v4 v5 v6, σ = [some (.ref a), some (.ref b), some (.ref d), v3, v4, v5, v6] ∧ H' d = some (.dK (enc (outerD (r.take i) s []))) ∧ Same H H') ?_ ?_ ?_ ?_⟩
  · exact ⟨none, none, none, none, rfl, upd_same, same_upd hd⟩
  · exact fun i σ H' _ ⟨_, _, _, _, _, _, h⟩ => Stay.tup (same_stay h) hv
  · rintro i x σ H' hx ⟨v3, v4, v5, v6, rfl, hd', hsame⟩
    obtain ⟨p, hpi, t, rfl, ht⟩ := Paired.get' hp hx
    refine ⟨t, _, rfl, .of (hsame _ _ ht), rfl, _, _, rfl, _, _, rfl, rfl, ?_⟩
    refine ⟨_, rfl, b, rfl, ⟨_, Stay.tup (same_stay hsame) hu⟩, for_tup (K := K) (a := b) (xs := us) (fun j σ H2 => ∃ v5 v6, σ = [some (.ref a), some (.ref b), some (.ref d), some (.int p.1), some (.int p.2), v5, v6] ∧ H2 d = some (.dK (enc (innerD p (s.take j) (outerD (r.take i) s [])))) ∧ Same H H2) ?_ ?_ ?_ ?_⟩
    · exact ⟨_, _, rfl, hd', hsame⟩
    · exact fun i σ H' _ ⟨_, _, _, _, h⟩ => Stay.tup (same_stay h) hu
    · rintro j y σ H2 hy ⟨v5, v6, rfl, hd2, hs2⟩
      obtain ⟨q, hqj, t2, rfl, ht2⟩ := Paired.get' hq hy
      have l1 := outerD_len r s i hr hs
      have l2 := innerD_len p (s.take j) (outerD (r.take i) s [])
      have l3 : (s.take j).length ≤ 400 := Nat.le_trans (List.length_take_le' _ _) hs
      refine ⟨t2, _, rfl, .of (hs2 _ _ ht2), rfl, _, _, rfl, _, _, rfl, rfl, ?_⟩
      refine ⟨_, rfl, d, rfl, .inl ⟨_, .inl hd2⟩, _, rfl, _, rfl, _, _, rfl, rfl, _, get_put hd2 _, ?_⟩
      rw [getD_int]
      refine ⟨_, rfl, _, rfl, _, _, rfl, rfl, wide_mul (h1 p (List.mem_of_getElem? hpi)) (h2 q (List.mem_of_getElem? hqj)) (by decide) (by decide) (by decide), _, _, rfl, rfl, ?_⟩
      refine ⟨_, rfl, _, rfl, _, rfl, _, _, rfl, rfl, d, _, rfl, DPut.k (k := (Sum.inl (p.1 + q.1) : Key)) hd2 (by rw [enc_len]; omega), ?_⟩
      refine ⟨_, _, rfl, ?_, fun b' o e => ?_⟩
      · rw [upd_same, enc_put, innerD_take hqj]
        rfl
      · rw [upd_ne (ne_of_none e hd)]
        exact hs2 _ _ e
    · rintro σ H2 ⟨v5, v6, rfl, hd2, hs2⟩
      refine ⟨_, _, _, _, rfl, ?_, hs2⟩
      rw [hd2, lu, List.take_length, outerD_take hpi]
  · rintro σ H' ⟨v3, v4, v5, v6, rfl, hd', hsame⟩
    rw [lv, List.take_length] at hd'
    refine ⟨_, rfl, d, outerD r s [], rfl, hd', ?_, fun p H2 hs2 hp2 => ?_⟩
    · have q := outerD_len r s r.length hr hs
      rw [List.take_length] at q
      omega
    · rw [hD]
      exact k p H2 (Same.trans hsame hs2) hp2
theorem sc_product : FnScope ["row", "other", "sums", "place", "weight", "at", "by"] ["row", "other"] (defScope s_row_product) := ⟨rfl, rfl, rfl, by decide +kernel, rfl, by decide +kernel, by decide +kernel⟩
theorem ok_product (D : Df K mg "row_product" s_row_product) (T : Free mg) (c1 : Cl P w K mg base 1 "row_of_sums" ["sums"] (spPack K)) : Cl P w K mg base 2 "row_product" ["row", "other"] (spProd K) := by
  refine D.cl sc_product (fun vs H Q E h => ?_) (fun _ _ _ _ _ _ us hl => match us, hl with | [_, _], _ => rfl) (fun f cdv A outer s H vs Q E hr h => ?_)
  · obtain ⟨a, b, r, s, rfl, _⟩ := h
    rfl
  · obtain ⟨a, b, r, s, rfl, ha, hb, h1, h2, h3, h4, k⟩ := h
    have hu := hu_of hr
    exact ⟨tProdR K, pss_cons (ps_set (i := 2) sc_product.nd rfl (Or.inl rfl) pe_dnewK)
      (pss_cons (ps_for PassesOwn.never rfl (pi_tup (pv 0)) (pg_tup (by rfl) (pgs_cons (pg_name (i := 3) sc_product.nd rfl (Or.inl rfl)) (pgs_cons (pg_name (i := 4) sc_product.nd rfl (Or.inl rfl)) pgs_nil)))
        (pss_one (ps_for PassesOwn.never rfl (pi_tup (pv 1)) (pg_tup (by rfl) (pgs_cons (pg_name (i := 5) sc_product.nd rfl (Or.inl rfl)) (pgs_cons (pg_name (i := 6) sc_product.nd rfl (Or.inl rfl)) pgs_nil)))
          (pss_one (ps_dput hu (pv 2) (pe_op op_add (pv 3) (pv 5)) (pe_op op_add (pe_dget2 hu (pv 2) (pe_op op_add (pv 3) (pv 5)) pe_int ⟨rfl, rfl, rfl, rfl⟩) (pe_op op_mulW (pv 4) (pv 6))) rfl)))))
      (pss_one (ps_ret (pe_cl c1 hr (by decide) (by rfl) (pa_cons (pv 2) pa_nil))))), read_prod ha hb h1 h2 h3 h4 k rfl⟩
theorem sc_ltimes : FnScope ["_law_one", "_law_two", "_law_table", "_law_at", "_law_weight_here", "_law_spot", "_law_more"] ["_law_one", "_law_two"] (defScope s__law_times) := ⟨rfl, rfl, rfl, by decide +kernel, rfl, by decide +kernel, by decide +kernel⟩
theorem ok_ltimes (D : Df K mg "_law_times" s__law_times) (T : Free mg) (c1 : Cl P w K mg base 1 "_law_packed" ["_law_table"] (spPack K)) : Cl P w K mg base 2 "_law_times" ["_law_one", "_law_two"] (spProd K) := by
  refine D.cl sc_ltimes (fun vs H Q E h => ?_) (fun _ _ _ _ _ _ us hl => match us, hl with | [_, _], _ => rfl) (fun f cdv A outer s H vs Q E hr h => ?_)
  · obtain ⟨a, b, r, s, rfl, _⟩ := h
    rfl
  · obtain ⟨a, b, r, s, rfl, ha, hb, h1, h2, h3, h4, k⟩ := h
    have hu := hu_of hr
    exact ⟨tProdR K, pss_cons (ps_set (i := 2) sc_ltimes.nd rfl (Or.inl rfl) pe_dnewK)
      (pss_cons (ps_for PassesOwn.never rfl (pi_tup (pv 0)) (pg_tup (by rfl) (pgs_cons (pg_name (i := 3) sc_ltimes.nd rfl (Or.inl rfl)) (pgs_cons (pg_name (i := 4) sc_ltimes.nd rfl (Or.inl rfl)) pgs_nil)))
        (pss_one (ps_for PassesOwn.never rfl (pi_tup (pv 1)) (pg_tup (by rfl) (pgs_cons (pg_name (i := 5) sc_ltimes.nd rfl (Or.inl rfl)) (pgs_cons (pg_name (i := 6) sc_ltimes.nd rfl (Or.inl rfl)) pgs_nil)))
          (pss_one (ps_dput hu (pv 2) (pe_op op_add (pv 3) (pv 5)) (pe_op op_add (pe_dget2 hu (pv 2) (pe_op op_add (pv 3) (pv 5)) pe_int ⟨rfl, rfl, rfl, rfl⟩) (pe_op op_mulW (pv 4) (pv 6))) rfl)))))
      (pss_one (ps_ret (pe_cl c1 hr (by decide) (by rfl) (pa_cons (pv 2) pa_nil))))), read_prod ha hb h1 h2 h3 h4 k rfl⟩
end
end Sg
/-! ## SgD4 -/
namespace Sg
open PySem PySem.Spec PyProof.Rows L2
section
variable {P : Program} {w : World} {K : PySem.W.Frag} {mg : Str → Option Value} {base : Heap}
/-! ### differences -/
def spGaps (K : PySem.W.Frag) : Sp := fun vs H Q _ => ∃ (a : Addr) (r : Row), vs = [.ref a] ∧ RowT K H a r ∧ r.length ≤ 400 ∧ (∀ p ∈ r, p.2.natAbs < 2 ^ 210) ∧ ∀ p H', Same H H' → RowV H' p (gaps r) → Q (.ref p) H'
theorem mirror_w {r : Row} (h : ∀ p ∈ r, p.2.natAbs < 2 ^ 210) : ∀ p ∈ mirror r, p.2.natAbs < 2 ^ 210 := fun p hp => by
  obtain ⟨q, hq, e⟩ := List.mem_map.mp hp
  rw [← e]
  exact h q (List.mem_reverse.mp hq)
abbrev tGapR (K : PySem.W.Frag) : TS := tRet (tCl (spProd K) (tCons (tVar 0) (tCons (tCl (spMirror K) (tCons (tVar 0) tNil)) tNil)))
theorem read_gaps {H : Hp} {Q : VK} {a : Addr} {r : Row} (ha : RowT K H a r) (hl : r.length ≤ 400) (hw : ∀ p ∈ r, p.2.natAbs < 2 ^ 210) (k : ∀ p H', Same H H' → RowV H' p (gaps r) → Q (.ref p) H') {D : Ends} (hD : D.rt = Q) : tGapR K D [some (.ref a)] H := by
  refine ⟨_, rfl, _, rfl, a, r, rfl, ha, Nat.le_trans hl (by decide), fun m H1 s1 hm => ?_⟩
  refine ⟨a, m, r, mirror r, rfl, ha.stay (same_stay s1), hm.t, hl, by rw [mirror_len]; exact hl, hw, mirror_w hw, fun p H' s2 hp => ?_⟩
  rw [hD]
  exact k p H' (Same.trans s1 s2) hp
theorem sc_diff : FnScope ["row"] ["row"] (defScope s_differences_by) := ⟨rfl, rfl, rfl, by decide +kernel, rfl, by decide +kernel, by decide +kernel⟩
theorem ok_diff (D : Df K mg "differences_by" s_differences_by) (c1 : Cl P w K mg base 2 "row_product" ["row", "other"] (spProd K)) (c2 : Cl P w K mg base 1 "row_mirror" ["row"] (spMirror K)) : Cl P w K mg base 3 "differences_by" ["row"] (spGaps K) := by
  refine D.cl sc_diff (fun vs H Q E h => ?_) (fun _ _ _ _ _ _ us hl => match us, hl with | [_], _ => rfl) (fun f cdv A outer s H vs Q E hr h => ?_)
  · obtain ⟨a, r, rfl, _⟩ := h
    rfl
  · obtain ⟨a, r, rfl, ha, hl, hw, k⟩ := h
    exact ⟨tGapR K, pss_one (ps_ret (pe_cl c1 hr (by decide) (by rfl) (pa_cons (pv 0) (pa_cons (pe_cl c2 hr (by decide) (by rfl) (pa_cons (pv 0) pa_nil)) pa_nil)))), read_gaps ha hl hw k rfl⟩
theorem sc_lgaps : FnScope ["_law_row_here"] ["_law_row_here"] (defScope s__law_gaps) := ⟨rfl, rfl, rfl, by decide +kernel, rfl, by decide +kernel, by decide +kernel⟩
theorem ok_lgaps (D : Df K mg "_law_gaps" s__law_gaps) (c1 : Cl P w K mg base 2 "_law_times" ["_law_one", "_law_two"] (spProd K)) (c2 : Cl P w K mg base 1 "_law_mirror" ["_law_row_here"] (spMirror K)) : Cl P w K mg base 3 "_law_gaps" ["_law_row_here"] (spGaps K) := by
  refine D.cl sc_lgaps (fun vs H Q E h => ?_) (fun _ _ _ _ _ _ us hl => match us, hl with | [_], _ => rfl) (fun f cdv A outer s H vs Q E hr h => ?_)
  · obtain ⟨a, r, rfl, _⟩ := h
    rfl
  · obtain ⟨a, r, rfl, ha, hl, hw, k⟩ := h
    exact ⟨tGapR K, pss_one (ps_ret (pe_cl c1 hr (by decide) (by rfl) (pa_cons (pv 0) (pa_cons (pe_cl c2 hr (by decide) (by rfl) (pa_cons (pv 0) pa_nil)) pa_nil)))), read_gaps ha hl hw k rfl⟩
/-! ### sums -/
theorem refs_of {H : Hp} : ∀ {vs : List V} {r : Row}, Paired (PairAtV H) vs r → ∃ ps : List Addr, vs = ps.map V.ref ∧ Paired (fun p kv => SqT K H p [kV kv.1, kv.2]) ps (enc r)
  | _, _, .nil => ⟨[], rfl, .nil⟩
  | _, _, .cons (a := x) (b := p) h t => by
    obtain ⟨ps, e, hp⟩ := refs_of t
    obtain ⟨q, rfl, hq⟩ := h
    exact ⟨q :: ps, by rw [e]; rfl, .cons (SqT.of hq) hp⟩
def plusF (s acc : Row) : Row := s.foldl (fun acc q => addI acc q.1 q.2) acc
theorem plusF_take {q : Int × Int} {s acc : Row} {j : Nat} (h : s[j]? = some q) : plusF (s.take (j + 1)) acc = addI (plusF (s.take j) acc) q.1 q.2 := by
  unfold plusF
  rw [List.take_add_one, h, List.foldl_append]
  rfl
theorem plusF_len (s acc : Row) : (plusF s acc).length ≤ acc.length + s.length := fold_add_len (fun q => q.1) (fun q => q.2) s acc
def putF' (s acc : Row) : Row := s.foldl (fun acc q => putI acc q.1 q.2) acc
theorem putF_take {q : Int × Int} {s acc : Row} {j : Nat} (h : s[j]? = some q) : putF' (s.take (j + 1)) acc = putI (putF' (s.take j) acc) q.1 q.2 := by
  unfold putF'
  rw [List.take_add_one, h, List.foldl_append]
  rfl
theorem putF_len : ∀ (s acc : Row), (putF' s acc).length ≤ acc.length + s.length
  | [], acc => Nat.le_refl _
  | q :: s, acc => by
    have h1 := putF_len s (putI acc q.1 q.2)
    have h2 := putI_len acc q.1 q.2
    show (putF' s (putI acc q.1 q.2)).length ≤ _
    rw [List.length_cons]
    omega
theorem from_len (r : Row) : (fromRow r).length ≤ r.length := by
  have h := putF_len r []
  rw [List.length_nil, Nat.zero_add] at h
  exact h
def spPlus (K : PySem.W.Frag) : Sp := fun vs H Q _ => ∃ (a b : Addr) (r s : Row), vs = [.ref a, .ref b] ∧ RowV H a r ∧ RowT K H b s ∧ r.length ≤ 400 ∧ s.length ≤ 400 ∧ ∀ p H', Same H H' → RowV H' p (plus r s) → Q (.ref p) H'
theorem sc_plus : FnScope ["row", "other", "sums", "place", "weight"] ["row", "other"] (defScope s_row_plus) := ⟨rfl, rfl, rfl, by decide +kernel, rfl, by decide +kernel, by decide +kernel⟩
theorem ok_plus (D : Df K mg "row_plus" s_row_plus) (T : Free mg) (c1 : Cl P w K mg base 1 "row_of_sums" ["sums"] (spPack K)) : Cl P w K mg base 2 "row_plus" ["row", "other"] (spPlus K) := by
  refine D.cl sc_plus (fun vs H Q E h => ?_) (fun _ _ _ _ _ _ us hl => match us, hl with | [_, _], _ => rfl) (fun f cdv A outer s H vs Q E hr h => ?_)
  · obtain ⟨a, b, r, s, rfl, _⟩ := h
    rfl
  · obtain ⟨a, b, r, s, rfl, ha, hb, h1, h2, k⟩ := h
    have hu := hu_of hr
    have hz : (1000 : Nat) < sizeLine := by decide
    obtain ⟨o, vs, hv, ho, hp⟩ := ha.ex
    obtain ⟨us, hus, hq⟩ := hb.ex
    have lu := Paired.len hq
    obtain ⟨ps, rfl, hps⟩ := refs_of (K := K) hp
    refine ⟨_, pss_cons (ps_set (i := 2) sc_plus.nd rfl (Or.inl rfl) (pe_callTy (call_dictT rfl) (by rfl) T.dict (by decide +kernel) (pa_cons (pv 0) pa_nil)))
      (pss_cons (ps_for PassesOwn.never rfl (pi_tup (pv 1)) (pg_tup (by rfl) (pgs_cons (pg_name (i := 3) sc_plus.nd rfl (Or.inl rfl)) (pgs_cons (pg_name (i := 4) sc_plus.nd rfl (Or.inl rfl)) pgs_nil)))
        (pss_one (ps_dput hu (pv 2) (pv 3) (pe_op op_add (pe_dget2 hu (pv 2) (pv 3) pe_int ⟨rfl, rfl, rfl, rfl⟩) (pv 4)) rfl)))
      (pss_one (ps_ret (pe_cl c1 hr (by decide) (by rfl) (pa_cons (pv 2) pa_nil))))), ?_⟩
    refine ⟨_, rfl, a, o, ps, enc r, rfl, hv, ho, hps, fun d hd => ?_⟩
    rw [enc_from]
    refine ⟨_, rfl, b, rfl, ⟨_, Stay.tup (same_stay (same_upd hd)) hus⟩, for_tup (K := K) (a := b) (xs := us) (fun j σ H2 => ∃ v3 v4, σ = [some (.ref a), some (.ref b), some (.ref d), v3, v4] ∧ H2 d = some (.dK (enc (plusF (s.take j) (fromRow r)))) ∧ Same H H2) ?_ ?_ ?_ ?_⟩
    · exact ⟨none, none, rfl, upd_same, same_upd hd⟩
    · exact fun i σ H' _ ⟨_, _, _, _, h⟩ => Stay.tup (same_stay h) hus
    · rintro j y σ H2 hy ⟨v3, v4, rfl, hd2, hs2⟩
      obtain ⟨q, hqj, t2, rfl, ht2⟩ := Paired.get' hq hy
      have l1 := from_len r
      have l2 := plusF_len (s.take j) (fromRow r)
      have l3 : (s.take j).length ≤ 400 := Nat.le_trans (List.length_take_le' _ _) h2
      refine ⟨t2, _, rfl, .of (hs2 _ _ ht2), rfl, _, _, rfl, _, _, rfl, rfl, ?_⟩
      refine ⟨_, rfl, d, rfl, .inl ⟨_, .inl hd2⟩, _, rfl, _, get_put hd2 _, ?_⟩
      rw [getD_int]
      refine ⟨_, rfl, _, _, rfl, rfl, ?_⟩
      refine ⟨_, rfl, _, rfl, d, _, rfl, DPut.k (k := (Sum.inl q.1 : Key)) hd2 (by rw [enc_len]; omega), ?_⟩
      refine ⟨_, _, rfl, ?_, fun b' o e => ?_⟩
      · rw [upd_same, enc_put, plusF_take hqj]
        rfl
      · rw [upd_ne (ne_of_none e hd)]
        exact hs2 _ _ e
    · rintro σ H2 ⟨v3, v4, rfl, hd2, hs2⟩
      rw [lu, List.take_length] at hd2
      refine ⟨_, rfl, d, plusF s (fromRow r), rfl, hd2, ?_, fun p H3 hs3 hp3 => k p H3 (Same.trans hs2 hs3) hp3⟩
      have l1 := from_len r
      have l2 := plusF_len s (fromRow r)
      omega
def spWith (K : PySem.W.Frag) : Sp := fun vs H Q _ => ∃ (a : Addr) (r : Row) (p w : Int), vs = [.ref a, .int p, .int w] ∧ RowV H a r ∧ r.length ≤ 400 ∧ ∀ q H', Same H H' → RowV H' q (plus r [(p, w)]) → Q (.ref q) H'
theorem one_pair {H : Hp} {t u : Addr} {p w : Int} (ht : H t = none) (hu : (upd H t (.tup [.int p, .int w])) u = none) : RowT K (upd (upd H t (.tup [.int p, .int w])) u (.tup [.ref t])) u [(p, w)] := by
  refine ⟨[.ref t], SqT.of upd_same, .cons ⟨t, rfl, ?_⟩ .nil⟩
  rw [upd_ne (fun e => by rw [← e, upd_same] at hu; cases hu), upd_same]
theorem sc_with : FnScope ["row", "place", "weight"] ["row", "place", "weight"] (defScope s_with_weight) := ⟨rfl, rfl, rfl, by decide +kernel, rfl, by decide +kernel, by decide +kernel⟩
theorem ok_with (D : Df K mg "with_weight" s_with_weight) (c1 : Cl P w K mg base 2 "row_plus" ["row", "other"] (spPlus K)) : Cl P w K mg base 3 "with_weight" ["row", "place", "weight"] (spWith K) := by
  refine D.cl sc_with (fun vs H Q E h => ?_) (fun _ _ _ _ _ _ us hl => match us, hl with | [_, _, _], _ => rfl) (fun f cdv A outer s H vs Q E hr h => ?_)
  · obtain ⟨a, r, p, w, rfl, _⟩ := h
    rfl
  · obtain ⟨a, r, p, w, rfl, ha, hl, k⟩ := h
    refine ⟨_, pss_one (ps_ret (pe_cl c1 hr (by decide) (by rfl) (pa_cons (pv 0) (pa_cons (pe_tup (pa_cons (pe_tup (pa_cons (pv 1) (pa_cons (pv 2) pa_nil))) pa_nil)) pa_nil)))), ?_⟩
    refine ⟨_, rfl, _, rfl, _, rfl, (by show 2 ≤ sizeLine; decide), fun t ht => ⟨(by show 1 ≤ sizeLine; decide), fun u hu => ?_⟩⟩
    have s1 := same_new (same_upd (o := .tup [.int p, .int w]) ht) (o := .tup [.ref t]) hu
    exact ⟨a, u, r, [(p, w)], rfl, ha.stay (same_stay s1), one_pair ht hu, hl, Nat.le_of_ble_eq_true rfl, fun q H' s2 hq => k q H' (Same.trans s1 s2) hq⟩
def spLPlus (K : PySem.W.Frag) : Sp := fun vs H Q _ => ∃ (a b : Addr) (r s : Row), vs = [.ref a, .ref b, .int 1] ∧ RowT K H a r ∧ RowT K H b s ∧ r.length ≤ 400 ∧ s.length ≤ 400 ∧ ∀ p H', Same H H' → RowV H' p (plus r s) → Q (.ref p) H'
theorem sc_lplus : FnScope ["_law_one", "_law_two", "_law_many", "_law_table", "_law_at", "_law_weight_here"] ["_law_one", "_law_two", "_law_many"] (defScope s__law_plus) := ⟨rfl, rfl, rfl, by decide +kernel, rfl, by decide +kernel, by decide +kernel⟩
theorem ok_lplus (D : Df K mg "_law_plus" s__law_plus) (T : Free mg) (c1 : Cl P w K mg base 1 "_law_packed" ["_law_table"] (spPack K)) : Cl P w K mg base 2 "_law_plus" ["_law_one", "_law_two", "_law_many"] (spLPlus K) := by
  refine D.cl sc_lplus (fun vs H Q E h => ?_) (fun _ _ _ _ _ _ us hl => match us, hl with | [_, _, _], _ => rfl) (fun f cdv A outer s H vs Q E hr h => ?_)
  · obtain ⟨a, b, r, s, rfl, _⟩ := h
    rfl
  · obtain ⟨a, b, r, s, rfl, ha, hb, h1, h2, k⟩ := h
    have hu := hu_of hr
    have hz : (1000 : Nat) < sizeLine := by decide
    obtain ⟨vs, hv, hp⟩ := ha.ex
    obtain ⟨us, hus, hq⟩ := hb.ex
    have lv := Paired.len hp
    have lu := Paired.len hq
    refine ⟨_, pss_cons (ps_set (i := 3) sc_lplus.nd rfl (Or.inl rfl) pe_dnewK)
      (pss_cons (ps_for PassesOwn.never rfl (pi_tup (pv 0)) (pg_tup (by rfl) (pgs_cons (pg_name (i := 4) sc_lplus.nd rfl (Or.inl rfl)) (pgs_cons (pg_name (i := 5) sc_lplus.nd rfl (Or.inl rfl)) pgs_nil)))
        (pss_one (ps_dput hu (pv 3) (pv 4) (pv 5) rfl)))
      (pss_cons (ps_for PassesOwn.never rfl (pi_tup (pv 1)) (pg_tup (by rfl) (pgs_cons (pg_name (i := 4) sc_lplus.nd rfl (Or.inl rfl)) (pgs_cons (pg_name (i := 5) sc_lplus.nd rfl (Or.inl rfl)) pgs_nil)))
        (pss_one (ps_dput hu (pv 3) (pv 4) (pe_op op_add (pe_dget2 hu (pv 3) (pv 4) pe_int ⟨rfl, rfl, rfl, rfl⟩) (pe_op op_mul (pv 2) (pv 5))) rfl)))
      (pss_one (ps_ret (pe_cl c1 hr (by decide) (by rfl) (pa_cons (pv 3) pa_nil)))))), ?_⟩
    intro d hd
    refine ⟨_, rfl, a, rfl, ⟨_, Stay.tup (same_stay (same_upd hd)) hv⟩, for_tup (K := K) (a := a) (xs := vs) (fun j σ H2 => ∃ v4 v5, σ = [some (.ref a), some (.ref b), some (.int 1), some (.ref d), v4, v5] ∧ H2 d = some (.dK (enc (putF' (r.take j) []))) ∧ Same H H2) ?_ ?_ ?_ ?_⟩
    · exact ⟨none, none, rfl, upd_same, same_upd hd⟩
    · exact fun i σ H' _ ⟨_, _, _, _, h⟩ => Stay.tup (same_stay h) hv
    · rintro j y σ H2 hy ⟨v4, v5, rfl, hd2, hs2⟩
      obtain ⟨q, hqj, t2, rfl, ht2⟩ := Paired.get' hp hy
      have l2 := putF_len (r.take j) []
      have l3 : (r.take j).length ≤ 400 := Nat.le_trans (List.length_take_le' _ _) h1
      rw [List.length_nil] at l2
      refine ⟨t2, _, rfl, .of (hs2 _ _ ht2), rfl, _, _, rfl, _, _, rfl, rfl, ?_⟩
      refine ⟨_, rfl, _, rfl, _, rfl, d, _, rfl, DPut.k (k := (Sum.inl q.1 : Key)) hd2 (by rw [enc_len]; omega), ?_⟩
      refine ⟨_, _, rfl, ?_, fun b' o e => ?_⟩
      · rw [upd_same, enc_put, putF_take hqj]
      · rw [upd_ne (ne_of_none e hd)]
        exact hs2 _ _ e
    · rintro σ H1 ⟨v4, v5, rfl, hd1, hs1⟩
      rw [lv, List.take_length] at hd1
      refine ⟨_, rfl, b, rfl, ⟨_, Stay.tup (same_stay hs1) hus⟩, for_tup (K := K) (a := b) (xs := us) (fun j σ H2 => ∃ v4 v5, σ = [some (.ref a), some (.ref b), some (.int 1), some (.ref d), v4, v5] ∧ H2 d = some (.dK (enc (plusF (s.take j) (fromRow r)))) ∧ Same H H2) ?_ ?_ ?_ ?_⟩
      · exact ⟨_, _, rfl, hd1, hs1⟩
      · exact fun i σ H' _ ⟨_, _, _, _, h⟩ => Stay.tup (same_stay h) hus
      · rintro j y σ H2 hy ⟨v4, v5, rfl, hd2, hs2⟩
        obtain ⟨q, hqj, t2, rfl, ht2⟩ := Paired.get' hq hy
        have l1 := from_len r
        have l2 := plusF_len (s.take j) (fromRow r)
        have l3 : (s.take j).length ≤ 400 := Nat.le_trans (List.length_take_le' _ _) h2
        refine ⟨t2, _, rfl, .of (hs2 _ _ ht2), rfl, _, _, rfl, _, _, rfl, rfl, ?_⟩
        refine ⟨_, rfl, d, rfl, .inl ⟨_, .inl hd2⟩, _, rfl, _, get_put hd2 _, ?_⟩
        rw [getD_int]
        refine ⟨_, rfl, _, rfl, _, _, rfl, rfl, .inl ⟨by decide, by decide⟩, _, _, rfl, rfl, ?_⟩
        refine ⟨_, rfl, _, rfl, d, _, rfl, DPut.k (k := (Sum.inl q.1 : Key)) hd2 (by rw [enc_len]; omega), ?_⟩
        refine ⟨_, _, rfl, ?_, fun b' o e => ?_⟩
        · rw [upd_same, enc_put, plusF_take hqj]
          show some (HO.dK (enc (putI _ q.1 ((lookI _ q.1).getD 0 + 1 * q.2)))) = _
          rw [Int.one_mul]
          rfl
        · rw [upd_ne (ne_of_none e hd)]
          exact hs2 _ _ e
      · rintro σ H2 ⟨v4, v5, rfl, hd2, hs2⟩
        rw [lu, List.take_length] at hd2
        refine ⟨_, rfl, d, plusF s (fromRow r), rfl, hd2, ?_, fun p H3 hs3 hp3 => k p H3 (Same.trans hs2 hs3) hp3⟩
        have l1 := from_len r
        have l2 := plusF_len s (fromRow r)
        omega
end
end Sg
/-! ## SgD5 -/
namespace Sg
open PySem PySem.Spec PyProof.Rows L2
section
variable {P : Program} {w : World} {K : PySem.W.Frag} {mg : Str → Option Value} {base : Heap}
/-! ### looks at rows -/
def spWrong : Sp := fun vs H Q _ => ∃ (a : Addr) (r : Row), vs = [.ref a] ∧ RowV H a r ∧ RowOk r ∧ r.length ≤ 400 ∧ ∀ p H', Same H H' → H' p = some (.lst []) → Q (.ref p) H'
theorem sc_wrong : FnScope ["value", "index", "each"] ["value"] (defScope s_wrong_in_row) := ⟨rfl, rfl, rfl, by decide +kernel, rfl, by decide +kernel, by decide +kernel⟩
theorem asc_at {r : Row} (h : RowOk r) {i j : Nat} {p q : Int × Int} (hi : r[i]? = some p) (hj : r[j]? = some q) (hij : i < j) : p.1 < q.1 := by
  obtain ⟨hi', e1⟩ := List.getElem?_eq_some_iff.mp hi
  obtain ⟨hj', e2⟩ := List.getElem?_eq_some_iff.mp hj
  have := List.pairwise_iff_getElem.mp h.asc i j hi' hj' hij
  rw [e1, e2] at this
  exact this
theorem Paired.at' {α β : Type} {F : α → β → Prop} : ∀ {l₁ : List α} {l₂ : List β} {i : Nat} {y : β}, Paired F l₁ l₂ → l₂[i]? = some y → ∃ x, l₁[i]? = some x ∧ F x y
  | _, _, _, _, .nil, e => by simp at e
  | _, _, 0, _, .cons r _, e => by
    cases (Option.some.inj e)
    exact ⟨_, rfl, r⟩
  | _, _, i + 1, x, .cons _ t, e => by
    obtain ⟨u, h1, h2⟩ := Paired.at' (i := i) (y := x) t (by simpa using e)
    exact ⟨u, by simpa using h1, h2⟩
theorem ok_wrong (D : Df K mg "wrong_in_row" s_wrong_in_row) (T : Free mg) (c1 : Cl P w K mg base 1 "is_pair" ["value"] (spPair K)) (c2 : Cl P w K mg base 1 "is_whole" ["value"] spWhole) : Cl P w K mg base 2 "wrong_in_row" ["value"] spWrong := by
  refine D.cl sc_wrong (fun vs H Q E h => ?_) (fun _ _ _ _ _ _ us hl => match us, hl with | [_], _ => rfl) (fun f cdv A outer s H vs Q E hr h => ?_)
  · obtain ⟨a, r, rfl, _⟩ := h
    rfl
  · obtain ⟨a, r, rfl, ha, hok, hl, k⟩ := h
    obtain ⟨o, vs, hv, ho, hp⟩ := ha.ex
    have lv := Paired.len hp
    refine ⟨_, pss_cons (ps_if (PW.pt (pw_or (pt_not (pt_val (pe_callB call_isi (by rfl) T.isi boot_isinstance (pa_cons (pv 0) (pa_cons (pe_bltn (v := .ty "tuple") (by rfl) T.tup (by decide +kernel) rfl) pa_nil)))))
        (pw_or1 (pt_cmpR op_gt (pe_callB call_len_seq (by rfl) T.len boot_len (pa_cons (pv 0) pa_nil)) (pe_gi (by rfl) T.mostP) (nomark _))))) (pss_one ps_never) pss_nil)
      (pss_cons (ps_for PassesOwn.never rfl (pi_enumT (by rfl) T.enum (pa_cons (pv 0) pa_nil)) (pg_tup (by rfl) (pgs_cons (pg_name (i := 1) sc_wrong.nd rfl (Or.inl rfl)) (pgs_cons (pg_name (i := 2) sc_wrong.nd rfl (Or.inl rfl)) pgs_nil)))
        (pss_cons (ps_if (PW.pt (pw_or (pt_not (pt_val (pe_cl c1 hr (by decide) (by rfl) (pa_cons (pv 2) pa_nil))))
            (pw_or (pt_not (pt_val (pe_cl c2 hr (by decide) (by rfl) (pa_cons (pe_ix ix_tup (pv 2) pe_int (fun _ _ => rfl)) pa_nil))))
            (pw_or (pt_not (pt_val (pe_cl c2 hr (by decide) (by rfl) (pa_cons (pe_ix ix_tup (pv 2) pe_int (fun _ _ => rfl)) pa_nil))))
            (pw_or1 (pt_cmpR op_eq (pe_ix ix_tup (pv 2) pe_int (fun _ _ => rfl)) pe_int (nomark _))))))) (pss_one ps_never) pss_nil)
        (pss_one (ps_if (PW.pt (pw_and (pt_cmpR op_gt (pv 1) pe_int (nomark _)) (pw_and1 (pt_cmpR op_ge (pe_ix ix_tup (pe_ix ix_tup (pv 0) (pe_op op_sub (pv 1) pe_int) (fun _ _ => rfl)) pe_int (fun _ _ => rfl)) (pe_ix ix_tup (pv 2) pe_int (fun _ _ => rfl)) (nomark _))))) (pss_one ps_never) pss_nil))))
      (pss_one (ps_ret (pe_lst pa_nil)))), ?_⟩
    refine ⟨_, rfl, _, _, _, _, true, rfl, .ty _, .fTuple hv, kit_ty (by decide +kernel), _, rfl, ifF rfl ?_⟩
    refine ⟨_, rfl, a, vs, rfl, .inr (.inl (.inr ⟨o, hv⟩)), _, _, rfl, rfl, _, rfl, ifF (decide_eq_false (by omega)) ?_⟩
    refine ⟨_, rfl, a, vs, rfl, .inl (.inr ⟨o, hv⟩), for_enumT (K := K) (a := a) (xs := vs) (fun i σ H' => ∃ v1 v2, σ = [some (.ref a), v1, v2] ∧ Same H H') ?_ ?_ ?_ ?_⟩
    · exact ⟨none, none, rfl, Same.refl H⟩
    · exact fun i σ H' ⟨_, _, _, h⟩ => .inl (.inr ⟨o, h _ _ hv⟩)
    · rintro i x T' σ H' hx ⟨v1, v2, rfl, hs⟩ hT'
      obtain ⟨p, hpi, t, rfl, ht⟩ := Paired.get' hp hx
      have s2 := same_new hs (o := .tup [.int (i : Nat), .ref t]) hT'
      have ht2 := s2 _ _ ht
      have hnz : p.2 ≠ 0 := hok.nz p (List.mem_of_getElem? hpi)
      refine ⟨T', _, rfl, .of upd_same, rfl, _, _, rfl, _, _, rfl, rfl, ?_⟩
      -- a pair of whole numbers, the weight not 0
      refine ⟨_, rfl, t, _, _, rfl, ht2, _, rfl, ifF rfl ?_⟩
      refine ⟨_, rfl, t, _, _, _, rfl, rfl, .of ht2, atI_nat (j := 0) rfl, _, rfl, _, rfl, ifF rfl ?_⟩
      refine ⟨_, rfl, t, _, _, _, rfl, rfl, .of ht2, atI_nat (j := 1) rfl, _, rfl, _, rfl, ifF rfl ?_⟩
      refine ⟨_, rfl, t, _, _, _, rfl, rfl, .of ht2, atI_nat (j := 1) rfl, rfl, _, rfl, ifF (decide_eq_false fun e => hnz (V.int.inj e)) ?_⟩
      -- above the one ahead
      refine ⟨_, rfl, _, _, rfl, rfl, _, rfl, ite2 (fun hc => ?_) (fun hc => ?_)⟩
      · have hi0 : 0 < i := by
          have := of_decide_eq_true hc
          omega
        obtain ⟨x2, hx2, hq⟩ := Paired.at' hp (i := i - 1) (y := r[i - 1]'(by
          have := (List.getElem?_eq_some_iff.mp hpi).1
          omega)) (List.getElem?_eq_getElem _)
        obtain ⟨u, rfl, hu⟩ := hq
        have hlt := asc_at hok (List.getElem?_eq_getElem (by
          have := (List.getElem?_eq_some_iff.mp hpi).1
          omega)) hpi (show i - 1 < i by omega)
        refine ⟨_, rfl, _, rfl, _, _, rfl, rfl, a, vs, _, _, rfl, rfl, .inl (.inr ⟨o, s2 _ _ hv⟩), at_of (j := i - 1) (by omega) hx2, u, _, _, _, rfl, rfl, .of (s2 _ _ hu), atI_nat (j := 0) rfl, ?_⟩
        refine ⟨_, rfl, t, _, _, _, rfl, rfl, .of ht2, atI_nat (j := 0) rfl, _, _, rfl, rfl, _, rfl, ifF (decide_eq_false (by omega)) ?_⟩
        exact ⟨_, _, rfl, s2⟩
      · exact ifF rfl ⟨_, _, rfl, s2⟩
    · rintro σ H' ⟨v1, v2, rfl, hs⟩
      exact ⟨Nat.zero_le _, fun p hp => k p _ (same_new hs hp) upd_same⟩
def spCheck : Sp := fun vs H Q _ => ∃ (a : Addr) (r : Row), vs = [.ref a] ∧ RowV H a r ∧ RowOk r ∧ r.length ≤ 400 ∧ ∀ H', Same H H' → Q .non H'
theorem sc_check : FnScope ["value", "index"] ["value"] (defScope s_check_row) := ⟨rfl, rfl, rfl, by decide +kernel, rfl, by decide +kernel, by decide +kernel⟩
theorem ok_check (D : Df K mg "check_row" s_check_row) (c1 : Cl P w K mg base 2 "wrong_in_row" ["value"] spWrong) : Cl P w K mg base 3 "check_row" ["value"] spCheck := by
  refine D.cl sc_check (fun vs H Q E h => ?_) (fun _ _ _ _ _ _ us hl => match us, hl with | [_], _ => rfl) (fun f cdv A outer s H vs Q E hr h => ?_)
  · obtain ⟨a, r, rfl, _⟩ := h
    rfl
  · obtain ⟨a, r, rfl, ha, hok, hl, k⟩ := h
    refine ⟨_, pss_one (ps_for PassesOwn.never rfl (pi_list (pe_cl c1 hr (by decide) (by rfl) (pa_cons (pv 0) pa_nil))) (pg_name (i := 1) sc_check.nd rfl (Or.inl rfl)) (pss_one ps_never)), ?_⟩
    refine ⟨_, rfl, a, r, rfl, ha, hok, hl, fun p H1 s1 hp => ⟨p, rfl, ⟨_, SqL.of hp⟩, for_list (K := K) (a := p) (xs := []) (fun i σ H2 => H2 = H1) rfl (fun i σ H2 _ e => by rw [e]; exact SqL.of hp) (fun i x σ H2 hx _ => by simp at hx) (fun σ H2 e => ?_)⟩⟩
    rw [e]
    exact k H1 s1
def spCheck2 : Sp := fun vs H Q _ => ∃ (a b : Addr) (r s : Row), vs = [.ref a, .ref b] ∧ RowV H a r ∧ RowOk r ∧ r.length ≤ 400 ∧ RowV H b s ∧ RowOk s ∧ s.length ≤ 400 ∧ ∀ H', Same H H' → Q .non H'
theorem sc_check2 : FnScope ["row", "other"] ["row", "other"] (defScope s_check_both) := ⟨rfl, rfl, rfl, by decide +kernel, rfl, by decide +kernel, by decide +kernel⟩
theorem ok_check2 (D : Df K mg "check_both" s_check_both) (c1 : Cl P w K mg base 3 "check_row" ["value"] spCheck) : Cl P w K mg base 4 "check_both" ["row", "other"] spCheck2 := by
  refine D.cl sc_check2 (fun vs H Q E h => ?_) (fun _ _ _ _ _ _ us hl => match us, hl with | [_, _], _ => rfl) (fun f cdv A outer s H vs Q E hr h => ?_)
  · obtain ⟨a, b, r, s, rfl, _⟩ := h
    rfl
  · obtain ⟨a, b, r, s, rfl, ha, h1, h2, hb, h3, h4, k⟩ := h
    refine ⟨_, pss_cons (ps_expr (pe_cl c1 hr (by decide) (by rfl) (pa_cons (pv 0) pa_nil))) (pss_one (ps_expr (pe_cl c1 hr (by decide) (by rfl) (pa_cons (pv 1) pa_nil)))), ?_⟩
    refine ⟨_, rfl, a, r, rfl, ha, h1, h2, fun H1 s1 => ?_⟩
    exact ⟨_, rfl, b, s, rfl, hb.stay (same_stay s1), h3, h4, fun H2 s2 => k H2 (Same.trans s1 s2)⟩
def spCkW : Sp := fun vs H Q _ => ∃ i : Int, vs = [.int i] ∧ Q .non H
theorem sc_ckw : FnScope ["value"] ["value"] (defScope s_check_whole) := ⟨rfl, rfl, rfl, by decide +kernel, rfl, by decide +kernel, by decide +kernel⟩
theorem ok_ckw (D : Df K mg "check_whole" s_check_whole) (c1 : Cl P w K mg base 1 "is_whole" ["value"] spWhole) : Cl P w K mg base 2 "check_whole" ["value"] spCkW := by
  refine D.cl sc_ckw (fun vs H Q E h => ?_) (fun _ _ _ _ _ _ us hl => match us, hl with | [_], _ => rfl) (fun f cdv A outer s H vs Q E hr h => ?_)
  · obtain ⟨i, rfl, _⟩ := h
    rfl
  · obtain ⟨i, rfl, k⟩ := h
    refine ⟨_, pss_one (ps_if (pt_not (pt_val (pe_cl c1 hr (by decide) (by rfl) (pa_cons (pv 0) pa_nil)))) (pss_one ps_never) pss_nil), ?_⟩
    exact ⟨_, rfl, i, rfl, _, rfl, ifF rfl k⟩
/-! ### names -/
abbrev abc : Str := "abcdefghijklmnopqrstuvwxyz"
structure NameOk (z : Str) : Prop where
  lo : 1 ≤ z.length
  hi : z.length ≤ 8
  az : ∀ c ∈ z.cps.toList, c ∈ abc.cps.toList
def spName : Sp := fun vs H Q _ => ∃ z : Str, vs = [.str z] ∧ NameOk z ∧ ∀ H', Same H H' → Q (.bl true) H'
theorem sc_isname : FnScope ["value", "letter"] ["value"] (defScope s_is_name_by) := ⟨rfl, rfl, rfl, by decide +kernel, rfl, by decide +kernel, by decide +kernel⟩
theorem all_true : ∀ n : Nat, ((List.replicate n true).all id) = true
  | 0 => rfl
  | n + 1 => by
    rw [List.replicate_succ, List.all_cons, all_true n]
    rfl
theorem ok_isname (D : Df K mg "is_name_by" s_is_name_by) (T : Free mg) : Cl P w K mg base 1 "is_name_by" ["value"] spName := by
  refine D.cl sc_isname (fun vs H Q E h => ?_) (fun _ _ _ _ _ _ us hl => match us, hl with | [_], _ => rfl) (fun f cdv A outer s H vs Q E hr h => ?_)
  · obtain ⟨z, rfl, _⟩ := h
    rfl
  · obtain ⟨z, rfl, hz, k⟩ := h
    have hsz : z.length ≤ sizeLine := Nat.le_trans hz.hi (by decide)
    have hlo := hz.lo
    have hhi := hz.hi
    refine ⟨_, pss_cons (ps_if (PW.pt (pw_or (pt_not (pt_val (pe_callB call_isi (by rfl) T.isi boot_isinstance (pa_cons (pv 0) (pa_cons (pe_bltn (v := .ty "str") (by rfl) T.str (by decide +kernel) rfl) pa_nil)))))
        (pw_or1 (pt_not (pt_chain op_le op_le pe_int (pe_callB call_len_str (by rfl) T.len boot_len (pa_cons (pv 0) pa_nil)) (pe_gi (by rfl) T.mostL)))))) (pss_one (ps_ret pe_bl)) pss_nil)
      (pss_one (ps_ret (pe_callB (cr_all rfl) (by rfl) T.all (by decide +kernel) (pa_cons (pe_lc (own := [("letter", 1)]) (g := gName 1) (by rfl) sc_isname.nd (pi_str (pv 0)) (blkOk_by (own := [("letter", 1)]) (N := ["value", "letter"]) (sc := defScope s_is_name_by) (by decide +kernel))
        (fun _ _ _ _ _ => pg_name (i := 1) sc_isname.nd rfl (Or.inl rfl)) (fun _ _ _ _ _ => pts_nil) (fun _ _ _ _ _ => pe_cmpR op_in_sign (pv 1) (pe_gs (by rfl) T.letters) (by rfl))) pa_nil)))), ?_⟩
    refine ⟨_, rfl, _, _, _, _, true, rfl, .ty _, .base (.str z), kit_ty (by decide +kernel), _, rfl, ifF rfl ?_⟩
    refine ⟨_, rfl, z, rfl, hsz, _, _, rfl, rfl, _, rfl, ifT (decide_eq_true (by omega)) ⟨_, _, rfl, rfl, _, rfl, ifF ?_ ?_⟩⟩
    · rw [decide_eq_true (show (z.length : Int) ≤ 8 by omega)]
      rfl
    · refine ⟨_, rfl, z, rfl, fun L hL => lc_it (walk_str (z := z)) (fun i H' => H' L = some (.lst ((List.replicate i true).map V.bl)) ∧ Same H H') ?_ (fun _ _ _ _ => trivial) ?_ ?_⟩
      · exact ⟨upd_same, same_upd hL⟩
      · rintro i x H1 H2 hi ⟨hacc, hs⟩ ⟨rfl, c, hc, rfl⟩
        refine ⟨rfl, ?_⟩
        dsimp only [tYes]
        rw [if_pos rfl]
        have hcz : c ∈ z.cps.toList := by
          rw [← Array.getElem?_toList] at hc
          exact List.mem_of_getElem? hc
        refine ⟨_, rfl, c, abc, rfl, rfl, _, hacc, ?_, ?_, fun b o e => ?_⟩
        · rw [List.length_map, List.length_replicate]
          have : z.cps.size = z.length := rfl
          omega
        · rw [upd_same, decide_eq_true (hz.az c hcz), List.replicate_succ', List.map_append]
          rfl
        · rw [upd_ne (fun q => by rw [q] at e; rw [e] at hL; cases hL)]
          exact hs _ _ e
      · rintro H' ⟨hacc, hs⟩
        refine ⟨L, _, rfl, SqL.of hacc, ?_⟩
        rw [all_true]
        exact k H' hs
def spCkN : Sp := fun vs H Q _ => ∃ z : Str, vs = [.str z] ∧ NameOk z ∧ ∀ H', Same H H' → Q .non H'
theorem sc_ckn : FnScope ["value"] ["value"] (defScope s_check_name) := ⟨rfl, rfl, rfl, by decide +kernel, rfl, by decide +kernel, by decide +kernel⟩
theorem ok_ckn (D : Df K mg "check_name" s_check_name) (c1 : Cl P w K mg base 1 "is_name_by" ["value"] spName) : Cl P w K mg base 2 "check_name" ["value"] spCkN := by
  refine D.cl sc_ckn (fun vs H Q E h => ?_) (fun _ _ _ _ _ _ us hl => match us, hl with | [_], _ => rfl) (fun f cdv A outer s H vs Q E hr h => ?_)
  · obtain ⟨z, rfl, _⟩ := h
    rfl
  · obtain ⟨z, rfl, hz, k⟩ := h
    refine ⟨_, pss_one (ps_if (pt_not (pt_val (pe_cl c1 hr (by decide) (by rfl) (pa_cons (pv 0) pa_nil)))) (pss_one ps_never) pss_nil), ?_⟩
    exact ⟨_, rfl, z, rfl, hz, fun H' s1 => ⟨_, rfl, ifF rfl (k H' s1)⟩⟩
def spCkNs (K : PySem.W.Frag) : Sp := fun vs H Q _ => ∃ (a : Addr) (zs : List Str), vs = [.ref a] ∧ H a = some (.lst (zs.map V.str)) ∧ (∀ z ∈ zs, NameOk z) ∧ ∀ H', Same H H' → Q .non H'
theorem sc_ckns : FnScope ["values", "value"] ["values"] (defScope s_check_names) := ⟨rfl, rfl, rfl, by decide +kernel, rfl, by decide +kernel, by decide +kernel⟩
theorem ok_ckns (D : Df K mg "check_names" s_check_names) (c1 : Cl P w K mg base 2 "check_name" ["value"] spCkN) : Cl P w K mg base 3 "check_names" ["values"] (spCkNs K) := by
  refine D.cl sc_ckns (fun vs H Q E h => ?_) (fun _ _ _ _ _ _ us hl => match us, hl with | [_], _ => rfl) (fun f cdv A outer s H vs Q E hr h => ?_)
  · obtain ⟨a, zs, rfl, _⟩ := h
    rfl
  · obtain ⟨a, zs, rfl, ha, hz, k⟩ := h
    refine ⟨_, pss_one (ps_for PassesOwn.never rfl (pi_list (pv 0)) (pg_name (i := 1) sc_ckns.nd rfl (Or.inl rfl)) (pss_one (ps_expr (pe_cl c1 hr (by decide) (by rfl) (pa_cons (pv 1) pa_nil))))), ?_⟩
    refine ⟨_, rfl, a, rfl, ⟨_, SqL.of ha⟩, for_list (K := K) (a := a) (xs := zs.map V.str) (fun i σ H2 => (∃ v, σ = [some (.ref a), v]) ∧ Same H H2) ⟨⟨none, rfl⟩, Same.refl H⟩ (fun i σ H2 _ e => SqL.of (e.2 _ _ ha)) (fun i x σ H2 hx e => ?_) (fun σ H2 e => k H2 e.2)⟩
    obtain ⟨⟨v, rfl⟩, s2⟩ := e
    obtain ⟨z, hzi, rfl⟩ : ∃ z, zs[i]? = some z ∧ x = V.str z := by
      rw [List.getElem?_map] at hx
      cases e : zs[i]? with
      | none => rw [e] at hx; cases hx
      | some z => rw [e] at hx; exact ⟨z, rfl, (Option.some.inj hx).symm⟩
    exact ⟨_, rfl, z, rfl, hz z (List.mem_of_getElem? hzi), fun H3 s3 => ⟨⟨_, rfl⟩, Same.trans s2 s3⟩⟩
end
end Sg
/-! ## SgD6 -/
namespace Sg
open PySem PySem.Spec PyProof.Rows L2
/-! ### entries -/
abbrev Entries := List (Str × Row)
/-- a pair (NAME, ROW) -/
def EntV (H : Hp) (x : V) (e : Str × Row) : Prop := ∃ t a, x = .ref t ∧ H t = some (.tup [.str e.1, .ref a]) ∧ RowV H a e.2
structure EntT (K : PySem.W.Frag) (H : Hp) (a : Addr) (E : Entries) : Prop where
  ex : ∃ vs, SqT K H a vs ∧ Paired (EntV H) vs E
def RowR (H : Hp) (x : V) (r : Row) : Prop := ∃ a, x = .ref a ∧ RowV H a r
theorem Stay.ent {H H' : Hp} (s : Stay H H') {x : V} {e : Str × Row} (h : EntV H x e) : EntV H' x e := let ⟨t, a, e1, e2, e3⟩ := h; ⟨t, a, e1, s _ _ e2 (.inl ⟨_, rfl⟩), e3.stay s⟩
theorem Stay.ents {H H' : Hp} (s : Stay H H') {vs : List V} {E : Entries} (h : Paired (EntV H) vs E) : Paired (EntV H') vs E := Paired.mapP h fun _ _ q => s.ent q
theorem EntT.stay {K : PySem.W.Frag} {H H' : Hp} {a : Addr} {E : Entries} (h : EntT K H a E) (s : Stay H H') : EntT K H' a E := let ⟨vs, h1, h2⟩ := h.ex; ⟨vs, s.tup h1, s.ents h2⟩
theorem Stay.rows {H H' : Hp} (s : Stay H H') {vs : List V} {rs : List Row} (h : Paired (RowR H) vs rs) : Paired (RowR H') vs rs := Paired.mapP h fun _ _ ⟨a, e, q⟩ => ⟨a, e, q.stay s⟩
def getE (E : Entries) (n : Str) : List Row := (E.filter fun e => decide (e.1 = n)).map (·.2)
def moreE (E : Entries) (n : Str) (p w : Int) : Entries := E.map fun e => if e.1 = n then (e.1, plus e.2 [(p, w)]) else e
def dropE (E : Entries) (n : Str) : Entries := E.filter fun e => !decide (e.1 = n)
theorem take_filter {α : Type} {E : List α} {f : α → Bool} {i : Nat} {e : α} (h : E[i]? = some e) : (E.take (i + 1)).filter f = (E.take i).filter f ++ (if f e = true then [e] else []) := by
  rw [List.take_add_one, h, List.filter_append]
  congr 1
  show List.filter f [e] = _
  rw [List.filter_cons]
  rfl
theorem filter_take_len {α : Type} (E : List α) (f : α → Bool) (i : Nat) : ((E.take i).filter f).length ≤ E.length := Nat.le_trans (List.length_filter_le _ _) (List.length_take_le' _ _)
theorem str_eq {a b : Str} : decide (V.str a = V.str b) = decide (a = b) := by
  by_cases e : a = b
  · rw [decide_eq_true e, decide_eq_true (show V.str a = V.str b by rw [e])]
  · rw [decide_eq_false e, decide_eq_false (fun q => e (V.str.inj q))]
section
variable {P : Program} {w : World} {K : PySem.W.Frag} {mg : Str → Option Value} {base : Heap}
def spBRow (K : PySem.W.Frag) : Sp := fun vs H Q _ => ∃ (a : Addr) (n : Str) (E : Entries), vs = [.ref a, .str n] ∧ EntT K H a E ∧ E.length ≤ 1000 ∧ ∀ p H' xs, Same H H' → H' p = some (.lst xs) → Paired (RowR H') xs (getE E n) → Q (.ref p) H'
theorem sc_brow : FnScope ["entries", "name", "row", "each"] ["entries", "name"] (defScope s_book_row) := ⟨rfl, rfl, rfl, by decide +kernel, rfl, by decide +kernel, by decide +kernel⟩
theorem ok_brow (D : Df K mg "book_row" s_book_row) : Cl P w K mg base 1 "book_row" ["entries", "name"] (spBRow K) := by
  refine D.cl sc_brow (fun vs H Q E h => ?_) (fun _ _ _ _ _ _ us hl => match us, hl with | [_, _], _ => rfl) (fun f cdv A outer s H vs Q E hr h => ?_)
  · obtain ⟨a, n, E, rfl, _⟩ := h
    rfl
  · obtain ⟨a, n, E, rfl, ha, hl, k⟩ := h
    have hz : (1000 : Nat) < sizeLine := by decide
    obtain ⟨vs, hv, hp⟩ := ha.ex
    have lv := Paired.len hp
    refine ⟨_, pss_one (ps_ret (pe_lc (own := [("row", 2), ("each", 3)]) (g := gTup K 2 (gCons (gName 3) (gCons (gName 2) gNil))) (tt := tTest (tOp rEq (tVar 3) (tVar 1))) (te := tVar 2) (by rfl) sc_brow.nd (pi_tup (pv 0)) (blkOk_by (own := [("row", 2), ("each", 3)]) (N := ["entries", "name", "row", "each"]) (sc := defScope s_book_row) (by decide +kernel))
      (fun _ _ _ _ _ => pg_tup (by rfl) (pgs_cons (pg_name (i := 3) sc_brow.nd rfl (Or.inl rfl)) (pgs_cons (pg_name (i := 2) sc_brow.nd rfl (Or.inl rfl)) pgs_nil))) (fun _ _ _ _ _ => pts_one (pt_cmpR op_eq (pv 3) (pv 1) (nomark _)))
      (fun _ _ _ _ _ => pv 2))), ?_⟩
    refine ⟨_, rfl, a, rfl, ⟨_, hv⟩, fun L hL => ?_⟩
    refine lc_tup (K := K) (a := a) (xs := vs) (fun i H' => ∃ acc : List V, H' L = some (.lst acc) ∧ Paired (RowR H') acc (getE (E.take i) n) ∧ Same H H') ?_ ?_ ?_ ?_
    · exact ⟨[], upd_same, .nil, same_upd hL⟩
    · exact fun i H' _ ⟨_, _, _, h⟩ => Stay.tup (same_stay h) hv
    · rintro i x H' hx ⟨acc, hacc, hpa, hs⟩
      obtain ⟨e, he, t, b, rfl, ht, hb⟩ := Paired.get' hp hx
      have hal : acc.length < sizeLine := by
        have h1 := Paired.len hpa
        have h2 := filter_take_len E (fun e => decide (e.1 = n)) i
        unfold getE at h1
        rw [List.length_map] at h1
        omega
      refine ⟨t, _, rfl, .of (hs _ _ ht), rfl, _, _, rfl, _, _, rfl, rfl, rfl, ?_⟩
      refine ⟨_, rfl, _, rfl, rfl, _, rfl, ?_⟩
      refine ite2 (fun hc => ?_) (fun hc => ?_)
      · rw [str_eq] at hc
        refine ⟨_, rfl, acc, hacc, hal, acc ++ [.ref b], upd_same, ?_, fun c o q => ?_⟩
        · unfold getE at hpa ⊢
          rw [take_filter he, if_pos hc, List.map_append]
          exact Paired.snoc ⟨b, rfl, hb.stay (Stay.trans (same_stay hs) (stay_lst hacc))⟩ (Stay.rows (stay_lst hacc) hpa)
        · rw [upd_ne (ne_of_none q hL)]
          exact hs _ _ q
      · rw [str_eq] at hc
        refine ⟨acc, hacc, ?_, hs⟩
        unfold getE at hpa ⊢
        rw [take_filter he, if_neg hc, List.append_nil]
        exact hpa
    · rintro H' ⟨acc, hacc, hpa, hs⟩
      rw [lv, List.take_length] at hpa
      exact k L H' acc hs hacc hpa
def spBPut (K : PySem.W.Frag) : Sp := fun vs H Q _ => ∃ (a b : Addr) (n : Str) (E : Entries) (r : Row), vs = [.ref a, .str n, .ref b] ∧ EntT K H a E ∧ E.length ≤ 1000 ∧ RowV H b r ∧ ∀ p H', Same H H' → EntT K H' p (E ++ [(n, r)]) → Q (.ref p) H'
theorem sc_bput : FnScope ["entries", "name", "row"] ["entries", "name", "row"] (defScope s_book_put) := ⟨rfl, rfl, rfl, by decide +kernel, rfl, by decide +kernel, by decide +kernel⟩
theorem ok_bput (D : Df K mg "book_put" s_book_put) : Cl P w K mg base 1 "book_put" ["entries", "name", "row"] (spBPut K) := by
  refine D.cl sc_bput (fun vs H Q E h => ?_) (fun _ _ _ _ _ _ us hl => match us, hl with | [_, _, _], _ => rfl) (fun f cdv A outer s H vs Q E hr h => ?_)
  · obtain ⟨a, b, n, E, r, rfl, _⟩ := h
    rfl
  · obtain ⟨a, b, n, E, r, rfl, ha, hl, hb, k⟩ := h
    have hz : (1000 : Nat) < sizeLine - 1 := by decide
    obtain ⟨vs, hv, hp⟩ := ha.ex
    have lv := Paired.len hp
    refine ⟨_, pss_one (ps_ret (pe_tup (StX.pa_star (pv 0) (pa_cons (pe_tup (pa_cons (pv 1) (pa_cons (pv 2) pa_nil))) pa_nil)))), ?_⟩
    refine ⟨_, rfl, a, vs, rfl, .inl hv, _, rfl, _, rfl, (by show 2 ≤ sizeLine; decide), fun t ht => ⟨?_, fun p hp' => ?_⟩⟩
    · rw [List.length_append, List.length_singleton]
      omega
    · have s1 : Same H _ := same_new (same_upd (o := .tup [.str n, .ref b]) ht) (o := .tup (vs ++ [.ref t])) hp'
      refine k p _ s1 ⟨vs ++ [.ref t], SqT.of upd_same, Paired.snoc ⟨t, b, rfl, ?_, hb.stay (same_stay s1)⟩ (Stay.ents (same_stay s1) hp)⟩
      rw [upd_ne (fun e => by rw [← e, upd_same] at hp'; cases hp'), upd_same]
def spBMore (K : PySem.W.Frag) : Sp := fun vs H Q _ => ∃ (a : Addr) (n : Str) (E : Entries) (p w : Int), vs = [.ref a, .str n, .int p, .int w] ∧ EntT K H a E ∧ E.length ≤ 1000 ∧ (∀ e ∈ E, e.2.length ≤ 400) ∧ ∀ q H', Same H H' → EntT K H' q (moreE E n p w) → Q (.ref q) H'
theorem sc_bmore : FnScope ["entries", "name", "place", "weight", "found", "each", "row"] ["entries", "name", "place", "weight"] (defScope s_book_more) := ⟨rfl, rfl, rfl, by decide +kernel, rfl, by decide +kernel, by decide +kernel⟩
theorem ok_bmore (D : Df K mg "book_more" s_book_more) (T : Free mg) (c1 : Cl P w K mg base 2 "row_plus" ["row", "other"] (spPlus K)) : Cl P w K mg base 3 "book_more" ["entries", "name", "place", "weight"] (spBMore K) := by
  refine D.cl sc_bmore (fun vs H Q E h => ?_) (fun _ _ _ _ _ _ us hl => match us, hl with | [_, _, _, _], _ => rfl) (fun f cdv A outer s H vs Q E hr h => ?_)
  · obtain ⟨a, n, E, p, w, rfl, _⟩ := h
    rfl
  · obtain ⟨a, n, E, p, w, rfl, ha, hl, hrl, k⟩ := h
    have hz : (1000 : Nat) < sizeLine := by decide
    obtain ⟨vs, hv, hp⟩ := ha.ex
    have lv := Paired.len hp
    refine ⟨_, pss_cons (ps_set (i := 4) sc_bmore.nd rfl (Or.inl rfl) (pe_lst pa_nil))
      (pss_cons (ps_for PassesOwn.never rfl (pi_tup (pv 0)) (pg_tup (by rfl) (pgs_cons (pg_name (i := 5) sc_bmore.nd rfl (Or.inl rfl)) (pgs_cons (pg_name (i := 6) sc_bmore.nd rfl (Or.inl rfl)) pgs_nil)))
        (pss_one (ps_expr (pe_bm PySem.F.plainAttrs_list PySem.F.slot_list_append PySem.F.type_list_append mt_append (pv 4) (pa_cons (pe_tup (pa_cons (pv 5) (pa_cons (pe_ifExp (pt_cmpR op_eq (pv 5) (pv 1) (nomark _))
          (pe_cl c1 hr (by decide) (by rfl) (pa_cons (pv 6) (pa_cons (pe_tup (pa_cons (pe_tup (pa_cons (pv 2) (pa_cons (pv 3) pa_nil))) pa_nil)) pa_nil))) (pv 6)) pa_nil))) pa_nil)))))
      (pss_one (ps_ret (pe_callTy call_tupF (by rfl) T.tup (by decide +kernel) (pa_cons (pv 4) pa_nil))))), ?_⟩
    refine ⟨Nat.zero_le _, fun L hL => ?_⟩
    refine ⟨_, rfl, a, rfl, ⟨_, Stay.tup (same_stay (same_upd hL)) hv⟩, for_tup (K := K) (a := a) (xs := vs) (fun i σ H2 => ∃ v5 v6 acc, σ = [some (.ref a), some (.str n), some (.int p), some (.int w), some (.ref L), v5, v6] ∧ H2 L = some (.lst acc) ∧ Paired (EntV H2) acc (moreE (E.take i) n p w) ∧ Same H H2) ?_ ?_ ?_ ?_⟩
    · exact ⟨none, none, [], rfl, upd_same, .nil, same_upd hL⟩
    · exact fun i σ H' _ ⟨_, _, _, _, _, _, h⟩ => Stay.tup (same_stay h) hv
    · rintro i x σ H2 hx ⟨v5, v6, acc, rfl, hacc, hpa, hs⟩
      obtain ⟨e, he, t, b, rfl, ht, hb⟩ := Paired.get' hp hx
      have hal : acc.length < sizeLine := by
        have h1 := Paired.len hpa
        unfold moreE at h1
        rw [List.length_map, List.length_take] at h1
        omega
      have hm : moreE (E.take (i + 1)) n p w = moreE (E.take i) n p w ++ [if e.1 = n then (e.1, plus e.2 [(p, w)]) else e] := by
        unfold moreE
        rw [List.take_add_one, he, List.map_append]
        rfl
      have fin : ∀ (c : Addr) (r : Row) (H3 : Hp), Same H2 H3 → RowV H3 c r → (if e.1 = n then (e.1, plus e.2 [(p, w)]) else e) = (e.1, r) → ∀ u, H3 u = none → ∃ v5 v6 acc', [some (.ref a), some (.str n), some (.int p), some (.int w), some (.ref L), some (.str e.1), some (.ref b)] = [some (V.ref a), some (V.str n), some (V.int p), some (V.int w), some (V.ref L), v5, v6] ∧
          (upd (upd H3 u (.tup [.str e.1, .ref c])) L (.lst (acc ++ [.ref u]))) L = some (.lst acc') ∧ Paired (EntV (upd (upd H3 u (.tup [.str e.1, .ref c])) L (.lst (acc ++ [.ref u])))) acc' (moreE (E.take (i + 1)) n p w) ∧ Same H (upd (upd H3 u (.tup [.str e.1, .ref c])) L (.lst (acc ++ [.ref u]))) := by
        intro c r H3 s3 hc er u hu
        have h3L := s3 _ _ hacc
        have nLu : L ≠ u := ne_of_none h3L hu
        have h4L : (upd H3 u (.tup [.str e.1, .ref c])) L = some (.lst acc) := by rw [upd_ne nLu]; exact h3L
        have st : Stay H3 (upd (upd H3 u (.tup [.str e.1, .ref c])) L (.lst (acc ++ [.ref u]))) := Stay.trans (same_stay (same_upd hu)) (stay_lst h4L)
        refine ⟨_, _, _, rfl, upd_same, ?_, fun b' o q => ?_⟩
        · rw [hm, er]
          refine Paired.snoc ⟨u, c, rfl, ?_, hc.stay st⟩ (Stay.ents (Stay.trans (same_stay s3) st) hpa)
          rw [upd_ne (Ne.symm nLu), upd_same]
        · rw [upd_ne (ne_of_none q hL), upd_ne (ne_of_none (s3 _ _ (hs _ _ q)) hu)]
          exact s3 _ _ (hs _ _ q)
      have h2L : ∀ {H3 : Hp}, Same H2 H3 → H3 L = some (.lst acc) := fun s => s _ _ hacc
      have hb2 := hb.stay (same_stay hs)
      refine ⟨t, _, rfl, .of (hs _ _ ht), rfl, _, _, rfl, _, _, rfl, rfl, ?_⟩
      refine ⟨_, rfl, .inl ⟨rfl, _, SqL.of hacc⟩, _, rfl, _, rfl, _, rfl, rfl, _, rfl, ?_⟩
      refine ite2 (fun hc => ?_) (fun hc => ?_)
      · rw [str_eq] at hc
        refine ⟨_, rfl, _, rfl, _, rfl, (by show 2 ≤ sizeLine; decide), fun t1 ht1 => ⟨(by show 1 ≤ sizeLine; decide), fun t2 ht2 => ?_⟩⟩
        have s1 := same_new (same_upd (o := .tup [.int p, .int w]) ht1) (o := .tup [.ref t1]) ht2
        refine ⟨b, t2, e.2, [(p, w)], rfl, hb2.stay (same_stay s1), one_pair ht1 ht2, hrl e (List.mem_of_getElem? he), Nat.le_of_ble_eq_true rfl, fun q H3 s3 hq => ?_⟩
        have s4 := Same.trans s1 s3
        refine ⟨(by show 2 ≤ sizeLine; decide), fun u hu => ?_⟩
        refine ⟨L, acc, _, rfl, rfl, by rw [upd_ne (ne_of_none (h2L s4) hu)]; exact h2L s4, hal, ?_⟩
        exact fin q _ H3 s4 hq (by rw [if_pos (of_decide_eq_true hc)]) u hu
      · rw [str_eq] at hc
        refine ⟨_, rfl, (by show 2 ≤ sizeLine; decide), fun u hu => ?_⟩
        refine ⟨L, acc, _, rfl, rfl, by rw [upd_ne (ne_of_none hacc hu)]; exact hacc, hal, ?_⟩
        exact fin b _ H2 (Same.refl _) hb2 (by rw [if_neg (fun q => hc (decide_eq_true q))]) u hu
    · rintro σ H2 ⟨v5, v6, acc, rfl, hacc, hpa, hs⟩
      rw [lv, List.take_length] at hpa
      refine ⟨_, rfl, L, acc, rfl, SqL.of hacc, fun l o hl' ho => ?_⟩
      exact k l _ (same_new hs hl') ⟨acc, .inl (.inr ⟨o, upd_same⟩), Stay.ents (same_stay (same_upd hl')) hpa⟩
def spBStrike (K : PySem.W.Frag) : Sp := fun vs H Q _ => ∃ (a : Addr) (n : Str) (E : Entries), vs = [.ref a, .str n] ∧ EntT K H a E ∧ E.length ≤ 1000 ∧ ∀ p H', Same H H' → EntT K H' p (dropE E n) → Q (.ref p) H'
theorem sc_bstrike : FnScope ["entries", "name", "entry"] ["entries", "name"] (defScope s_book_strike) := ⟨rfl, rfl, rfl, by decide +kernel, rfl, by decide +kernel, by decide +kernel⟩
theorem ok_bstrike (D : Df K mg "book_strike" s_book_strike) (T : Free mg) : Cl P w K mg base 1 "book_strike" ["entries", "name"] (spBStrike K) := by
  refine D.cl sc_bstrike (fun vs H Q E h => ?_) (fun _ _ _ _ _ _ us hl => match us, hl with | [_, _], _ => rfl) (fun f cdv A outer s H vs Q E hr h => ?_)
  · obtain ⟨a, n, E, rfl, _⟩ := h
    rfl
  · obtain ⟨a, n, E, rfl, ha, hl, k⟩ := h
    have hz : (1000 : Nat) < sizeLine := by decide
    obtain ⟨vs, hv, hp⟩ := ha.ex
    have lv := Paired.len hp
    refine ⟨_, pss_one (ps_ret (pe_callTy call_tupF (by rfl) T.tup (by decide +kernel) (pa_cons (pe_lc (own := [("entry", 2)]) (g := gName 2) (tt := tTest (tOp rNe (tOp (rIxT K) (tVar 2) (tC (.int 0))) (tVar 1))) (te := tVar 2) (by rfl) sc_bstrike.nd (pi_tup (pv 0)) (blkOk_by (own := [("entry", 2)]) (N := ["entries", "name", "entry"]) (sc := defScope s_book_strike) (by decide +kernel))
      (fun _ _ _ _ _ => pg_name (i := 2) sc_bstrike.nd rfl (Or.inl rfl)) (fun _ _ _ _ _ => pts_one (pt_cmpR op_ne (pe_ix ix_tup (pv 2) pe_int (fun _ _ => rfl)) (pv 1) (nomark _)))
      (fun _ _ _ _ _ => pv 2)) pa_nil))), ?_⟩
    refine ⟨_, rfl, a, rfl, ⟨_, hv⟩, fun L hL => ?_⟩
    refine lc_tup (K := K) (a := a) (xs := vs) (fun i H' => ∃ acc : List V, H' L = some (.lst acc) ∧ Paired (EntV H') acc (dropE (E.take i) n) ∧ Same H H') ?_ ?_ ?_ ?_
    · exact ⟨[], upd_same, .nil, same_upd hL⟩
    · exact fun i H' _ ⟨_, _, _, h⟩ => Stay.tup (same_stay h) hv
    · rintro i x H' hx ⟨acc, hacc, hpa, hs⟩
      obtain ⟨e, he, t, b, rfl, ht, hb⟩ := Paired.get' hp hx
      have hal : acc.length < sizeLine := by
        have h1 := Paired.len hpa
        have h2 := filter_take_len E (fun e => !decide (e.1 = n)) i
        unfold dropE at h1
        omega
      refine ⟨rfl, _, rfl, t, _, _, _, rfl, rfl, .of (hs _ _ ht), atI_nat (j := 0) rfl, _, rfl, rfl, _, rfl, ?_⟩
      refine ite2 (fun hc => ?_) (fun hc => ?_)
      · rw [str_eq] at hc
        refine ⟨_, rfl, acc, hacc, hal, acc ++ [.ref t], upd_same, ?_, fun c o q => ?_⟩
        · unfold dropE at hpa ⊢
          rw [take_filter he, if_pos hc]
          exact Paired.snoc ⟨t, b, rfl, by rw [upd_ne (ne_of_none ht hL)]; exact hs _ _ ht, hb.stay (Stay.trans (same_stay hs) (stay_lst hacc))⟩ (Stay.ents (stay_lst hacc) hpa)
        · rw [upd_ne (ne_of_none q hL)]
          exact hs _ _ q
      · rw [str_eq] at hc
        refine ⟨acc, hacc, ?_, hs⟩
        unfold dropE at hpa ⊢
        rw [take_filter he, if_neg hc, List.append_nil]
        exact hpa
    · rintro H' ⟨acc, hacc, hpa, hs⟩
      rw [lv, List.take_length] at hpa
      refine ⟨L, acc, rfl, SqL.of hacc, fun l o hl' ho => ?_⟩
      exact k l _ (same_new hs hl') ⟨acc, .inl (.inr ⟨o, upd_same⟩), Stay.ents (same_stay (same_upd hl')) hpa⟩
end
end Sg
/-! ## SgD6b -/
namespace Sg
open PySem PySem.Spec PyProof.Rows L2
section
variable {P : Program} {w : World} {K : PySem.W.Frag} {mg : Str → Option Value} {base : Heap}
theorem get_one {n : Str} {E : Entries} {r : Row} {H : Hp} {xs : List V} (h : getE E n = [r]) (hp : Paired (RowR H) xs (getE E n)) : ∃ b, xs = [.ref b] ∧ RowV H b r := by
  rw [h] at hp
  cases hp with
  | cons h1 h2 =>
    cases h2
    obtain ⟨b, rfl, hb⟩ := h1
    exact ⟨b, rfl, hb⟩
def spBJoin (K : PySem.W.Frag) (g : Row → Row) : Sp := fun vs H Q _ => ∃ (a : Addr) (n x y : Str) (E : Entries) (r s : Row), vs = [.ref a, .str n, .str x, .str y] ∧ EntT K H a E ∧ E.length ≤ 1000 ∧ getE E x = [r] ∧ getE E y = [s] ∧ r.length ≤ 400 ∧ s.length ≤ 400 ∧
  (∀ p ∈ r, p.2.natAbs < 2 ^ 210) ∧ (∀ p ∈ s, p.2.natAbs < 2 ^ 210) ∧ ∀ p H', Same H H' → EntT K H' p (E ++ [(n, times r (g s))]) → Q (.ref p) H'
theorem sc_bjoin : FnScope ["entries", "name", "one", "other"] ["entries", "name", "one", "other"] (defScope s_book_join) := ⟨rfl, rfl, rfl, by decide +kernel, rfl, by decide +kernel, by decide +kernel⟩
theorem ok_bjoin (D : Df K mg "book_join" s_book_join) (c1 : Cl P w K mg base 1 "book_put" ["entries", "name", "row"] (spBPut K)) (c2 : Cl P w K mg base 2 "row_product" ["row", "other"] (spProd K)) (c3 : Cl P w K mg base 1 "book_row" ["entries", "name"] (spBRow K)) :
    Cl P w K mg base 3 "book_join" ["entries", "name", "one", "other"] (spBJoin K id) := by
  refine D.cl sc_bjoin (fun vs H Q E h => ?_) (fun _ _ _ _ _ _ us hl => match us, hl with | [_, _, _, _], _ => rfl) (fun f cdv A outer s H vs Q E hr h => ?_)
  · obtain ⟨a, n, x, y, E, r, s, rfl, _⟩ := h
    rfl
  · obtain ⟨a, n, x, y, E, r, s, rfl, ha, hl, hx, hy, l1, l2, w1, w2, k⟩ := h
    refine ⟨_, pss_one (ps_ret (pe_cl c1 hr (by decide) (by rfl) (pa_cons (pv 0) (pa_cons (pv 1) (pa_cons (pe_cl c2 hr (by decide) (by rfl)
      (pa_cons (pe_ix ix_list (pe_cl c3 hr (by decide) (by rfl) (pa_cons (pv 0) (pa_cons (pv 2) pa_nil))) pe_int (fun _ _ => rfl))
      (pa_cons (pe_ix ix_list (pe_cl c3 hr (by decide) (by rfl) (pa_cons (pv 0) (pa_cons (pv 3) pa_nil))) pe_int (fun _ _ => rfl)) pa_nil))) pa_nil))))), ?_⟩
    refine ⟨_, rfl, _, rfl, _, rfl, _, rfl, a, x, E, rfl, ha, hl, fun p1 H1 xs1 s1 h1 hp1 => ?_⟩
    obtain ⟨b, rfl, hb⟩ := get_one hx hp1
    refine ⟨p1, _, _, _, rfl, rfl, SqL.of h1, atI_nat (j := 0) rfl, _, rfl, _, rfl, a, y, E, rfl, ha.stay (same_stay s1), hl, fun p2 H2 xs2 s2 h2 hp2 => ?_⟩
    obtain ⟨c, rfl, hc⟩ := get_one hy hp2
    refine ⟨p2, _, _, _, rfl, rfl, SqL.of h2, atI_nat (j := 0) rfl, ?_⟩
    refine ⟨b, c, r, s, rfl, (hb.stay (same_stay s2)).t, hc.t, l1, l2, w1, w2, fun q H3 s3 hq => ?_⟩
    exact ⟨a, q, n, E, _, rfl, ha.stay (same_stay (Same.trans s1 (Same.trans s2 s3))), hl, hq, fun p H' s4 hE => k p H' (Same.trans s1 (Same.trans s2 (Same.trans s3 s4))) hE⟩
theorem sc_bcross : FnScope ["entries", "name", "one", "other"] ["entries", "name", "one", "other"] (defScope s_book_cross) := ⟨rfl, rfl, rfl, by decide +kernel, rfl, by decide +kernel, by decide +kernel⟩
theorem ok_bcross (D : Df K mg "book_cross" s_book_cross) (c1 : Cl P w K mg base 1 "book_put" ["entries", "name", "row"] (spBPut K)) (c2 : Cl P w K mg base 2 "row_product" ["row", "other"] (spProd K)) (c3 : Cl P w K mg base 1 "book_row" ["entries", "name"] (spBRow K)) (c4 : Cl P w K mg base 1 "row_mirror" ["row"] (spMirror K)) :
    Cl P w K mg base 3 "book_cross" ["entries", "name", "one", "other"] (spBJoin K mirror) := by
  refine D.cl sc_bcross (fun vs H Q E h => ?_) (fun _ _ _ _ _ _ us hl => match us, hl with | [_, _, _, _], _ => rfl) (fun f cdv A outer s H vs Q E hr h => ?_)
  · obtain ⟨a, n, x, y, E, r, s, rfl, _⟩ := h
    rfl
  · obtain ⟨a, n, x, y, E, r, s, rfl, ha, hl, hx, hy, l1, l2, w1, w2, k⟩ := h
    refine ⟨_, pss_one (ps_ret (pe_cl c1 hr (by decide) (by rfl) (pa_cons (pv 0) (pa_cons (pv 1) (pa_cons (pe_cl c2 hr (by decide) (by rfl)
      (pa_cons (pe_ix ix_list (pe_cl c3 hr (by decide) (by rfl) (pa_cons (pv 0) (pa_cons (pv 2) pa_nil))) pe_int (fun _ _ => rfl))
      (pa_cons (pe_cl c4 hr (by decide) (by rfl) (pa_cons (pe_ix ix_list (pe_cl c3 hr (by decide) (by rfl) (pa_cons (pv 0) (pa_cons (pv 3) pa_nil))) pe_int (fun _ _ => rfl)) pa_nil)) pa_nil))) pa_nil))))), ?_⟩
    refine ⟨_, rfl, _, rfl, _, rfl, _, rfl, a, x, E, rfl, ha, hl, fun p1 H1 xs1 s1 h1 hp1 => ?_⟩
    obtain ⟨b, rfl, hb⟩ := get_one hx hp1
    refine ⟨p1, _, _, _, rfl, rfl, SqL.of h1, atI_nat (j := 0) rfl, _, rfl, _, rfl, a, y, E, rfl, ha.stay (same_stay s1), hl, fun p2 H2 xs2 s2 h2 hp2 => ?_⟩
    obtain ⟨c, rfl, hc⟩ := get_one hy hp2
    refine ⟨p2, _, _, _, rfl, rfl, SqL.of h2, atI_nat (j := 0) rfl, c, s, rfl, hc.t, Nat.le_trans l2 (by decide), fun m H3 s3 hm => ?_⟩
    refine ⟨b, m, r, mirror s, rfl, (hb.stay (same_stay (Same.trans s2 s3))).t, hm.t, l1, by rw [mirror_len]; exact l2, w1, mirror_w w2, fun q H4 s4 hq => ?_⟩
    have s14 := Same.trans s1 (Same.trans s2 (Same.trans s3 s4))
    exact ⟨a, q, n, E, _, rfl, ha.stay (same_stay s14), hl, hq, fun p H' s5 hE => k p H' (Same.trans s14 s5) hE⟩
/-! ### is_great, is_full -/
structure Small (r : Row) : Prop where
  len : r.length ≤ 20
  bnd : Bnd (10 ^ 61) (10 ^ 61) r
theorem all_false : ∀ n : Nat, ((List.replicate n false).any id) = false
  | 0 => rfl
  | n + 1 => by
    rw [List.replicate_succ, List.any_cons, all_false n]
    rfl
def spGreat (K : PySem.W.Frag) : Sp := fun vs H Q _ => ∃ (a : Addr) (r : Row), vs = [.ref a] ∧ RowT K H a r ∧ Small r ∧ ∀ H', Same H H' → Q (.bl false) H'
theorem sc_great : FnScope ["row", "limit", "place", "weight"] ["row"] (defScope s_is_great) := ⟨rfl, rfl, rfl, by decide +kernel, rfl, by decide +kernel, by decide +kernel⟩
theorem ok_great (D : Df K mg "is_great" s_is_great) (T : Free mg) (c1 : Cl P w K mg base 1 "power_of" ["number", "many"] spPow) : Cl P w K mg base 2 "is_great" ["row"] (spGreat K) := by
  refine D.cl sc_great (fun vs H Q E h => ?_) (fun _ _ _ _ _ _ us hl => match us, hl with | [_], _ => rfl) (fun f cdv A outer s H vs Q E hr h => ?_)
  · obtain ⟨a, r, rfl, _⟩ := h
    rfl
  · obtain ⟨a, r, rfl, ha, hsm, k⟩ := h
    obtain ⟨vs, hv, hp⟩ := ha.ex
    have lv := Paired.len hp
    have hl := hsm.len
    refine ⟨_, pss_cons (ps_if (pt_cmpR op_gt (pe_callB call_len_seq (by rfl) T.len boot_len (pa_cons (pv 0) pa_nil)) (pe_gi (by rfl) T.mostI) (nomark _)) (pss_one (ps_ret pe_bl)) pss_nil)
      (pss_cons (ps_set (i := 1) sc_great.nd rfl (Or.inr rfl) (pe_cl c1 hr (by decide) (by rfl) (pa_cons pe_int (pa_cons (pe_gi (by rfl) T.mostF) pa_nil))))
      (pss_one (ps_ret (pe_callB (cr_any rfl) (by rfl) T.any (by decide +kernel) (pa_cons (pe_lc (own := [("place", 2), ("weight", 3)]) (g := gTup K 2 (gCons (gName 2) (gCons (gName 3) gNil))) (by rfl) sc_great.nd (pi_tup (pv 0))
        (blkOk_by (own := [("place", 2), ("weight", 3)]) (N := ["row", "limit", "place", "weight"]) (sc := defScope s_is_great) (by decide +kernel))
        (fun _ _ _ _ _ => pg_tup (by rfl) (pgs_cons (pg_name (i := 2) sc_great.nd rfl (Or.inl rfl)) (pgs_cons (pg_name (i := 3) sc_great.nd rfl (Or.inl rfl)) pgs_nil))) (fun _ _ _ _ _ => pts_nil)
        (fun _ _ _ _ _ => pe_or (pe_cmpR op_ge (pe_callB call_abs (by rfl) T.abs (by decide +kernel) (pa_cons (pv 2) pa_nil)) (pv 1) (nomark _)) (pe_one (pe_cmpR op_ge (pe_callB call_abs (by rfl) T.abs (by decide +kernel) (pa_cons (pv 3) pa_nil)) (pv 1) (nomark _))))) pa_nil))))), ?_⟩
    refine ⟨_, rfl, a, vs, rfl, .inr hv, _, _, rfl, rfl, _, rfl, ifF (decide_eq_false (by omega)) ?_⟩
    refine ⟨10, 400, rfl, rfl, rfl, fun L hL => ?_⟩
    refine ⟨_, rfl, a, rfl, ⟨_, hv⟩, fun D hD => ?_⟩
    refine lc_tup (K := K) (a := a) (xs := vs) (fun i H' => H' D = some (.lst ((List.replicate i false).map V.bl)) ∧ Same H H') ?_ ?_ ?_ ?_
    · exact ⟨upd_same, same_upd hD⟩
    · exact fun i H' _ ⟨_, h⟩ => Stay.tup (same_stay h) hv
    · rintro i x H' hx ⟨hacc, hs⟩
      obtain ⟨p, hpi, t, rfl, ht⟩ := Paired.get' hp hx
      obtain ⟨b1, b2⟩ := hsm.bnd p (List.mem_of_getElem? hpi)
      refine ⟨t, _, rfl, .of (hs _ _ ht), rfl, _, _, rfl, _, _, rfl, rfl, rfl, ?_⟩
      dsimp only [tYes]
      rw [if_pos rfl]
      have big : ∀ z : Int, z.natAbs ≤ 10 ^ 61 → decide (L ≤ (if z < 0 then -z else z)) = false := fun z hz => decide_eq_false (by
        have : (10 : Int) ^ 61 < 10 ^ 62 := by decide
        split <;> omega)
      refine ⟨_, rfl, p.1, rfl, _, rfl, _, _, rfl, rfl, _, rfl, ifF (big _ b1) ?_⟩
      refine ⟨_, rfl, p.2, rfl, _, rfl, _, _, rfl, rfl, ?_⟩
      refine ⟨_, hacc, ?_, ?_, fun b o e => ?_⟩
      · rw [List.length_map, List.length_replicate]
        have := (List.getElem?_eq_some_iff.mp hx).1
        have hz : (20 : Nat) < sizeLine := by decide
        omega
      · dsimp only
        rw [upd_same, big _ b2, List.replicate_succ', List.map_append]
        rfl
      · rw [upd_ne (ne_of_none e hD)]
        exact hs _ _ e
    · rintro H' ⟨hacc, hs⟩
      refine ⟨D, _, rfl, SqL.of hacc, ?_⟩
      rw [all_false]
      exact k H' hs
def spFull (K : PySem.W.Frag) : Sp := fun vs H Q _ => ∃ (a : Addr) (E : Entries), vs = [.ref a] ∧ EntT K H a E ∧ E.length ≤ 12 ∧ (∀ e ∈ E, Small e.2) ∧ ∀ H', Same H H' → Q (.bl false) H'
theorem sc_full : FnScope ["entries", "_", "row"] ["entries"] (defScope s_is_full) := ⟨rfl, rfl, rfl, by decide +kernel, rfl, by decide +kernel, by decide +kernel⟩
theorem ok_full (D : Df K mg "is_full" s_is_full) (T : Free mg) (c1 : Cl P w K mg base 2 "is_great" ["row"] (spGreat K)) : Cl P w K mg base 3 "is_full" ["entries"] (spFull K) := by
  refine D.cl sc_full (fun vs H Q E h => ?_) (fun _ _ _ _ _ _ us hl => match us, hl with | [_], _ => rfl) (fun f cdv A outer s H vs Q E hr h => ?_)
  · obtain ⟨a, E, rfl, _⟩ := h
    rfl
  · obtain ⟨a, E, rfl, ha, hl, hsm, k⟩ := h
    obtain ⟨vs, hv, hp⟩ := ha.ex
    have lv := Paired.len hp
    have hz : (20 : Nat) < sizeLine := by decide
    refine ⟨_, pss_one (ps_ret (pe_or (pe_cmpR op_gt (pe_callB call_len_seq (by rfl) T.len boot_len (pa_cons (pv 0) pa_nil)) (pe_gi (by rfl) T.mostE) (nomark _)) (pe_one
      (pe_callB (cr_any rfl) (by rfl) T.any (by decide +kernel) (pa_cons (pe_lc (own := [("_", 1), ("row", 2)]) (g := gTup K 2 (gCons (gName 1) (gCons (gName 2) gNil))) (te := tCl (spGreat K) (tCons (tVar 2) tNil)) (by rfl) sc_full.nd (pi_tup (pv 0))
        (blkOk_by (own := [("_", 1), ("row", 2)]) (N := ["entries", "_", "row"]) (sc := defScope s_is_full) (by decide +kernel))
        (fun _ _ _ _ _ => pg_tup (by rfl) (pgs_cons (pg_name (i := 1) sc_full.nd rfl (Or.inl rfl)) (pgs_cons (pg_name (i := 2) sc_full.nd rfl (Or.inl rfl)) pgs_nil))) (fun _ _ _ _ _ => pts_nil)
        (fun _ _ _ _ _ => pe_cl c1 hr (by decide) (by rfl) (pa_cons (pv 2) pa_nil))) pa_nil))))), ?_⟩
    refine ⟨_, rfl, a, vs, rfl, .inr hv, _, _, rfl, rfl, _, rfl, ifF (decide_eq_false (by omega)) ?_⟩
    refine ⟨_, rfl, a, rfl, ⟨_, hv⟩, fun D hD => ?_⟩
    refine lc_tup (K := K) (a := a) (xs := vs) (fun i H' => H' D = some (.lst ((List.replicate i false).map V.bl)) ∧ Same H H') ?_ ?_ ?_ ?_
    · exact ⟨upd_same, same_upd hD⟩
    · exact fun i H' _ ⟨_, h⟩ => Stay.tup (same_stay h) hv
    · rintro i x H' hx ⟨hacc, hs⟩
      obtain ⟨e, hei, t, b, rfl, ht, hb⟩ := Paired.get' hp hx
      refine ⟨t, _, rfl, .of (hs _ _ ht), rfl, _, _, rfl, _, _, rfl, rfl, rfl, ?_⟩
      dsimp only [tYes]
      rw [if_pos rfl]
      refine ⟨_, rfl, b, e.2, rfl, (hb.stay (same_stay hs)).t, hsm e (List.mem_of_getElem? hei), fun H2 s2 => ?_⟩
      refine ⟨_, s2 _ _ hacc, ?_, ?_, fun b o e => ?_⟩
      · rw [List.length_map, List.length_replicate]
        have := (List.getElem?_eq_some_iff.mp hx).1
        omega
      · rw [upd_same, List.replicate_succ', List.map_append]
        rfl
      · rw [upd_ne (ne_of_none e hD)]
        exact s2 _ _ (hs _ _ e)
    · rintro H' ⟨hacc, hs⟩
      refine ⟨D, _, rfl, SqL.of hacc, ?_⟩
      rw [all_false]
      exact k H' hs
end
end Sg
/-! ## SgD7 -/
namespace Sg
open PySem PySem.Spec PyProof.Rows L2
/-! ### what a call leaves as it was, but for some addresses -/
structure Fr (W : List Addr) (H H' : Hp) : Prop where
  stay : Stay H H'
  keep : ∀ b o, H b = some o → b ∉ W → H' b = some o
theorem Fr.of {W : List Addr} {H H' : Hp} (s : Same H H') : Fr W H H' := ⟨same_stay s, fun b o e _ => s b o e⟩
theorem Fr.refl (W : List Addr) (H : Hp) : Fr W H H := Fr.of (Same.refl H)
theorem Fr.trans {W : List Addr} {H H1 H2 : Hp} (a : Fr W H H1) (b : Fr W H1 H2) : Fr W H H2 := ⟨a.stay.trans b.stay, fun c o e n => b.keep c o (a.keep c o e n) n⟩
theorem Fr.mono {W W' : List Addr} {H H' : Hp} (a : Fr W H H') (h : ∀ x ∈ W, x ∈ W') : Fr W' H H' := ⟨a.stay, fun c o e n => a.keep c o e fun q => n (h c q)⟩
theorem Fr.upd_in {W : List Addr} {H : Hp} {p : Addr} {o : HO} (hp : p ∈ W) (s : Stay H (upd H p o)) : Fr W H (upd H p o) := ⟨s, fun b u e n => by
  have nb : b ≠ p := fun q => n (by rw [q]; exact hp)
  rw [upd_ne nb]
  exact e⟩
/-! ### a book in the heap -/
theorem pe_ : ¬ (("_past" : Str) = "_entries") := by decide +kernel
theorem ep_ : ¬ (("_entries" : Str) = "_past") := by decide +kernel
def bf (ve pl : Addr) : List (Str × V) := putF "_past" (.ref pl) (putF "_entries" (.ref ve) [])
theorem bf_eq (ve pl : Addr) : bf ve pl = ([("_entries", V.ref ve), ("_past", V.ref pl)] : List (Str × V)) := by
  show (if ("_entries" : Str) = "_past" then [(("_entries" : Str), V.ref pl)] else (("_entries" : Str), V.ref ve) :: putF "_past" (V.ref pl) []) = ([("_entries", V.ref ve), ("_past", V.ref pl)] : List (Str × V))
  rw [if_neg ep_]
  all_goals rfl
theorem bf_ent (ve pl : Addr) : (bf ve pl).lookup ("_entries" : Str) = some (.ref ve) := by
  unfold bf
  rw [lookup_putF, if_neg ep_, lookup_putF, if_pos rfl]
theorem bf_past (ve pl : Addr) : (bf ve pl).lookup ("_past" : Str) = some (.ref pl) := by
  unfold bf
  rw [lookup_putF, if_pos rfl]
theorem bf_no (ve pl : Addr) {m : Str} (h1 : ¬ m = "_past") (h2 : ¬ m = "_entries") : (bf ve pl).lookup m = none := by
  unfold bf
  rw [lookup_putF, if_neg h1, lookup_putF, if_neg h2]
  all_goals rfl
theorem bf_put_ent (ve pl v2 : Addr) : putF "_entries" (.ref v2) (bf ve pl) = bf v2 pl := by
  rw [bf_eq, bf_eq]
  show (if ("_entries" : Str) = "_entries" then (("_entries" : Str), V.ref v2) :: [(("_past" : Str), V.ref pl)] else _) = ([("_entries", V.ref v2), ("_past", V.ref pl)] : List (Str × V))
  rw [if_pos rfl]
theorem bf_put_past (ve pl p2 : Addr) : putF "_past" (.ref p2) (bf ve pl) = bf ve p2 := by
  rw [bf_eq, bf_eq]
  show (if ("_entries" : Str) = "_past" then _ else (("_entries" : Str), V.ref ve) :: (if ("_past" : Str) = "_past" then [(("_past" : Str), V.ref p2)] else _)) = ([("_entries", V.ref ve), ("_past", V.ref p2)] : List (Str × V))
  rw [if_neg ep_, if_pos rfl]
theorem bf_len (ve pl : Addr) : (bf ve pl).length < 1000 := by rw [bf_eq]; show 2 < 1000; decide
def PastV (K : PySem.W.Frag) (H : Hp) (x : V) (E : Entries) : Prop := ∃ a, x = .ref a ∧ EntT K H a E
theorem Stay.pasts {K : PySem.W.Frag} {H H' : Hp} (s : Stay H H') {vs : List V} {L : List Entries} (h : Paired (PastV K H) vs L) : Paired (PastV K H') vs L := Paired.mapP h fun _ _ ⟨a, e, q⟩ => ⟨a, e, q.stay s⟩
structure BookAt (K : PySem.W.Frag) (C : Addr) (H : Hp) (bk pl : Addr) (E : Entries) (past : List Entries) : Prop where
  ex : ∃ dx ve vs, H bk = some (.ins C dx (bf ve pl)) ∧ EntT K H ve E ∧ H pl = some (.lst vs) ∧ Paired (PastV K H) vs past
theorem BookAt.keep {K : PySem.W.Frag} {C : Addr} {H H' : Hp} {bk pl : Addr} {E : Entries} {past : List Entries} (h : BookAt K C H bk pl E past) (s : Stay H H') (h1 : ∀ o, H bk = some o → H' bk = some o) (h2 : ∀ o, H pl = some o → H' pl = some o) : BookAt K C H' bk pl E past :=
  let ⟨dx, ve, vs, e1, e2, e3, e4⟩ := h.ex
  ⟨dx, ve, vs, h1 _ e1, e2.stay s, h2 _ e3, s.pasts e4⟩
theorem BookAt.same {K : PySem.W.Frag} {C : Addr} {H H' : Hp} {bk pl : Addr} {E : Entries} {past : List Entries} (h : BookAt K C H bk pl E past) (s : Same H H') : BookAt K C H' bk pl E past := h.keep (same_stay s) (fun _ e => s _ _ e) (fun _ e => s _ _ e)
theorem BookAt.fr {K : PySem.W.Frag} {C : Addr} {W : List Addr} {H H' : Hp} {bk pl : Addr} {E : Entries} {past : List Entries} (h : BookAt K C H bk pl E past) (s : Fr W H H') (h1 : bk ∉ W) (h2 : pl ∉ W) : BookAt K C H' bk pl E past := h.keep s.stay (fun _ e => s.keep _ _ e h1) (fun _ e => s.keep _ _ e h2)
theorem BookAt.ne {K : PySem.W.Frag} {C : Addr} {H : Hp} {bk pl : Addr} {E : Entries} {past : List Entries} (h : BookAt K C H bk pl E past) : bk ≠ pl := by
  obtain ⟨dx, ve, vs, e1, _, e3, _⟩ := h.ex
  intro q
  rw [q, e3] at e1
  cases e1
structure TB (K : PySem.W.Frag) (mg : Str → Option Value) (C : Addr) : Prop where
  cl : Cls K C
  nE : NoAttr K C "_entries"
  nP : NoAttr K C "_past"
  mgC : mg "Book" = some (.ref C)
structure Mki (K : PySem.W.Frag) (C : Addr) (qual : Str) (st : Stmt) : Prop where
  ex : ∃ f fd, FunD K "__init__" qual (defArgs st) (defBody st) (defScope st) [] [] f fd ∧ Mk K C f
structure Mkd (P : Program) (w : World) (K : PySem.W.Frag) (mg : Str → Option Value) (base : Heap) (k : Nat) (C : Addr) (sp : Sp) : Prop where
  ex : ∃ f fd, FnOk P w K mg base CX0 k f fd ["self"] sp ∧ Mk K C f ∧ Binds K fd ["self"] []
theorem pe_mk0 {X : Cx} {k j : Nat} {C : Addr} {x : Str} {sp : Sp} {p pos : Pos} (c : Mkd X.prog X.w X.K X.mg X.base k C sp) (hr : Room j X.A) (hk : k + 1 ≤ j) (hg : Gl X x) (hm : X.mg x = some (.ref C)) (hdb : (x == ("__debug__" : Str)) = false := by decide) :
    PE X (.Call (.Name x p) [] [] pos) (tMake C sp [] E0 tNil) := by
  obtain ⟨f, fd, F, M, b⟩ := c.ex
  exact pe_make0 M F (hr.mono hk) hg hm b .nil pass0 hdb
section
variable {P : Program} {w : World} {K : PySem.W.Frag} {mg : Str → Option Value} {base : Heap} {C : Addr}
def spInit (K : PySem.W.Frag) (C : Addr) : Sp := fun vs H Q _ => ∃ (p dx : Addr), vs = [.ref p] ∧ H p = some (.ins C dx []) ∧ ∀ H' pl, H pl = none → (∀ b o, H b = some o → b ≠ p → H' b = some o) → BookAt K C H' p pl [] [] → Q .non H'
theorem sc_init : FnScope ["self"] ["self"] (defScope m___init__) := ⟨rfl, rfl, rfl, by decide +kernel, rfl, by decide +kernel, by decide +kernel⟩
theorem ok_init (D : Mki K C "Book.__init__" m___init__) (B : TB K mg C) : Mkd P w K mg base 1 C (spInit K C) := by
  obtain ⟨f, fd, F, M⟩ := D.ex
  refine ⟨f, fd, F.ok sc_init (fun vs H Q E h => ?_) fun cdv A outer s H vs Q E hr h => ?_, M, F.bindsN fun _ _ _ _ _ _ us hl => match us, hl with | [_], _ => rfl⟩
  · obtain ⟨p, dx, rfl, _⟩ := h
    rfl
  · obtain ⟨p, dx, rfl, hp, k⟩ := h
    refine ⟨_, pss_cons (ps_fld (pv 0) (pe_tup pa_nil) rfl) (pss_one (ps_fld (pv 0) (pe_lst pa_nil) rfl)), ?_⟩
    refine ⟨Nat.zero_le _, fun t ht => ?_⟩
    have npt : p ≠ t := ne_of_none hp ht
    refine ⟨_, rfl, p, C, dx, [], rfl, (by rw [upd_ne npt]; exact hp), B.cl, B.nE, (by show 0 < 1000; decide), ?_⟩
    refine ⟨Nat.zero_le _, fun l hl => ?_⟩
    have npl : p ≠ l := fun q => by
      rw [q, upd_same] at hl
      cases hl
    have hl2 : (upd H t (.tup [])) l = none := by
      rw [upd_ne (Ne.symm npl)] at hl
      exact hl
    have ntl : t ≠ l := fun q => by
      rw [q, upd_same] at hl2
      cases hl2
    have hlH : H l = none := by
      rw [upd_ne (Ne.symm ntl)] at hl2
      exact hl2
    refine ⟨_, rfl, p, C, dx, _, rfl, (by rw [upd_ne npl, upd_same]), B.cl, B.nP, (by show 1 < 1000; decide), ?_⟩
    refine k _ l hlH (fun b o e n => ?_) ⟨dx, t, [], upd_same, ⟨[], SqT.of ?_, .nil⟩, ?_, .nil⟩
    · rw [upd_ne n, upd_ne (ne_of_none e hlH), upd_ne n, upd_ne (ne_of_none e ht)]
      exact e
    · rw [upd_ne (Ne.symm npt), upd_ne ntl, upd_ne (Ne.symm npt), upd_same]
    · rw [upd_ne (Ne.symm npl), upd_same]
/-! #### the checks -/
theorem empty_pair {H : Hp} {xs : List V} {rs : List Row} (h : Paired (RowR H) xs rs) : xs.isEmpty = rs.isEmpty := by cases h <;> rfl
def spNew (K : PySem.W.Frag) (C : Addr) : Sp := fun vs H Q _ => ∃ (bk pl : Addr) (n : Str) (E : Entries) (past : List Entries), vs = [.ref bk, .str n] ∧ BookAt K C H bk pl E past ∧ E.length ≤ 12 ∧ getE E n = [] ∧ ∀ H', Same H H' → Q .non H'
theorem sc_new : FnScope ["self", "name"] ["self", "name"] (defScope m__be_new) := ⟨rfl, rfl, rfl, by decide +kernel, rfl, by decide +kernel, by decide +kernel⟩
theorem ok_new (D : Md K C "_be_new" "Book._be_new" m__be_new) (B : TB K mg C) (c1 : Cl P w K mg base 1 "book_row" ["entries", "name"] (spBRow K)) : Mt P w K mg base 2 C "_be_new" ["self", "name"] (spNew K C) := by
  refine D.mt sc_new (fun vs H Q E h => ?_) (fun _ _ _ _ _ _ us hl => match us, hl with | [_, _], _ => rfl) (fun f cdv A outer s H vs Q E hr h => ?_)
  · obtain ⟨bk, pl, n, E, past, rfl, _⟩ := h
    rfl
  · obtain ⟨bk, pl, n, E, past, rfl, hb, hl, hn, k⟩ := h
    obtain ⟨dx, ve, vs, e1, e2, e3, e4⟩ := hb.ex
    refine ⟨_, pss_one (ps_if (pt_cmpR (op_neNil hr.units0) (pe_cl c1 hr (by decide) (by rfl) (pa_cons (pe_fld (pv 0) rfl) (pa_cons (pv 1) pa_nil))) (pe_lst pa_nil) (nomark _)) (pss_one ps_never) pss_nil), ?_⟩
    refine ⟨_, rfl, bk, C, dx, _, _, rfl, e1, B.cl, B.nE, bf_ent _ _, _, rfl, ve, n, E, rfl, e2, Nat.le_trans hl (by decide), fun p H1 xs s1 h1 hp1 => ?_⟩
    refine ⟨Nat.zero_le _, fun l hl1 => ?_⟩
    refine ⟨p, l, xs, rfl, rfl, SqL.of (by rw [upd_ne (ne_of_none h1 hl1)]; exact h1), SqL.of upd_same, _, rfl, ?_⟩
    rw [empty_pair hp1, hn]
    exact k _ (same_new s1 hl1)
def spThere (K : PySem.W.Frag) (C : Addr) : Sp := fun vs H Q _ => ∃ (bk pl a : Addr) (zs : List Str) (E : Entries) (past : List Entries), vs = [.ref bk, .ref a] ∧ BookAt K C H bk pl E past ∧ E.length ≤ 12 ∧ H a = some (.lst (zs.map V.str)) ∧ zs.length ≤ 100 ∧ (∀ z ∈ zs, getE E z ≠ []) ∧ ∀ H', Same H H' → Q .non H'
theorem sc_there : FnScope ["self", "names", "name"] ["self", "names"] (defScope m__be_there) := ⟨rfl, rfl, rfl, by decide +kernel, rfl, by decide +kernel, by decide +kernel⟩
theorem ok_there (D : Md K C "_be_there" "Book._be_there" m__be_there) (B : TB K mg C) (T : Free mg) (c1 : Cl P w K mg base 1 "book_row" ["entries", "name"] (spBRow K)) : Mt P w K mg base 2 C "_be_there" ["self", "names"] (spThere K C) := by
  refine D.mt sc_there (fun vs H Q E h => ?_) (fun _ _ _ _ _ _ us hl => match us, hl with | [_, _], _ => rfl) (fun f cdv A outer s H vs Q E hr h => ?_)
  · obtain ⟨bk, pl, a, zs, E, past, rfl, _⟩ := h
    rfl
  · obtain ⟨bk, pl, a, zs, E, past, rfl, hb, hl, ha, hzl, hz, k⟩ := h
    obtain ⟨dx, ve, vs, e1, e2, e3, e4⟩ := hb.ex
    refine ⟨_, pss_one (ps_if (pt_not (pt_val (pe_callB (cr_all rfl) (by rfl) T.all (by decide +kernel) (pa_cons (pe_lc (own := [("name", 2)]) (g := gName 2) (te := tOp (rEqNil K true) (tCl (spBRow K) (tCons (tFld K (tVar 0) "_entries") (tCons (tVar 2) tNil))) (tLst tNil)) (by rfl) sc_there.nd (pi_list (pv 1))
        (blkOk_by (own := [("name", 2)]) (N := ["self", "names", "name"]) (sc := defScope m__be_there) (by decide +kernel))
        (fun _ _ _ _ _ => pg_name (i := 2) sc_there.nd rfl (Or.inl rfl)) (fun _ _ _ _ _ => pts_nil)
        (fun _ _ _ _ _ => pe_cmpR (op_neNil (Room.units0 hr)) (pe_cl c1 hr (by decide) (by rfl) (pa_cons (pe_fld (pv 0) rfl) (pa_cons (pv 2) pa_nil))) (pe_lst pa_nil) (nomark _))) pa_nil)))) (pss_one ps_never) pss_nil), ?_⟩
    refine ⟨_, rfl, a, rfl, ⟨_, SqL.of ha⟩, fun D hD => ?_⟩
    refine lc_list (K := K) (a := a) (xs := zs.map V.str) (fun i H' => H' D = some (.lst ((List.replicate i true).map V.bl)) ∧ Same H H') ?_ ?_ ?_ ?_
    · exact ⟨upd_same, same_upd hD⟩
    · exact fun i H' _ ⟨_, h⟩ => SqL.of (h _ _ ha)
    · rintro i x H1 hx ⟨hacc, hs⟩
      obtain ⟨z, hzi, rfl⟩ : ∃ z, zs[i]? = some z ∧ x = V.str z := by
        rw [List.getElem?_map] at hx
        cases e : zs[i]? with
        | none => rw [e] at hx; cases hx
        | some z => rw [e] at hx; exact ⟨z, rfl, (Option.some.inj hx).symm⟩
      have hi := (List.getElem?_eq_some_iff.mp hzi).1
      refine ⟨rfl, ?_⟩
      dsimp only [tYes]
      rw [if_pos rfl]
      refine ⟨_, rfl, bk, C, dx, _, _, rfl, hs _ _ e1, B.cl, B.nE, bf_ent _ _, _, rfl, ve, z, E, rfl, e2.stay (same_stay hs), Nat.le_trans hl (by decide), fun p H2 xs s2 h2 hp2 => ?_⟩
      refine ⟨Nat.zero_le _, fun l hl2 => ?_⟩
      refine ⟨p, l, xs, rfl, rfl, SqL.of (by rw [upd_ne (ne_of_none h2 hl2)]; exact h2), SqL.of upd_same, ?_⟩
      have hD2 : (upd H2 l (.lst [])) D = some (.lst ((List.replicate i true).map V.bl)) := by
        rw [upd_ne (ne_of_none (s2 _ _ hacc) hl2)]
        exact s2 _ _ hacc
      refine ⟨_, hD2, ?_, ?_, fun b o e => ?_⟩
      · rw [List.length_map, List.length_replicate]
        have hz : (100 : Nat) < sizeLine := by decide
        omega
      · rw [upd_same, empty_pair hp2, List.replicate_succ', List.map_append]
        have : (getE E z).isEmpty = false := by
          cases q : getE E z with
          | nil => exact absurd q (hz z (List.mem_of_getElem? hzi))
          | cons _ _ => rfl
        rw [this]
        rfl
      · rw [upd_ne (ne_of_none e hD), upd_ne (ne_of_none (s2 _ _ (hs _ _ e)) hl2)]
        exact s2 _ _ (hs _ _ e)
    · rintro H' ⟨hacc, hs⟩
      refine ⟨D, _, rfl, SqL.of hacc, ?_⟩
      rw [all_true]
      exact ⟨_, rfl, ifF rfl (k H' hs)⟩
def spLead (K : PySem.W.Frag) (C : Addr) : Sp := fun vs H Q _ => ∃ (bk pl a : Addr) (E E2 : Entries) (past : List Entries), vs = [.ref bk, .ref a] ∧ BookAt K C H bk pl E past ∧ past.length ≤ 1000 ∧ EntT K H a E2 ∧ E2.length ≤ 12 ∧ (∀ e ∈ E2, Small e.2) ∧
  ∀ H', Fr [bk, pl] H H' → BookAt K C H' bk pl E2 (past ++ [E]) → Q .non H'
theorem sc_lead : FnScope ["self", "entries"] ["self", "entries"] (defScope m__lead) := ⟨rfl, rfl, rfl, by decide +kernel, rfl, by decide +kernel, by decide +kernel⟩
theorem ok_lead (D : Md K C "_lead" "Book._lead" m__lead) (B : TB K mg C) (c1 : Cl P w K mg base 3 "is_full" ["entries"] (spFull K)) : Mt P w K mg base 4 C "_lead" ["self", "entries"] (spLead K C) := by
  refine D.mt sc_lead (fun vs H Q E h => ?_) (fun _ _ _ _ _ _ us hl => match us, hl with | [_, _], _ => rfl) (fun f cdv A outer s H vs Q E hr h => ?_)
  · obtain ⟨bk, pl, a, E, E2, past, rfl, _⟩ := h
    rfl
  · obtain ⟨bk, pl, a, E, E2, past, rfl, hb, hpl, ha, hl, hsm, k⟩ := h
    refine ⟨_, pss_cons (ps_if (pt_val (pe_cl c1 hr (by decide) (by rfl) (pa_cons (pv 1) pa_nil))) (pss_one ps_never) pss_nil)
      (pss_cons (ps_expr (pe_bm PySem.F.plainAttrs_list PySem.F.slot_list_append PySem.F.type_list_append mt_append (pe_fld (pv 0) rfl) (pa_cons (pe_fld (pv 0) rfl) pa_nil)))
      (pss_one (ps_fld (pv 0) (pv 1) rfl))), ?_⟩
    refine ⟨_, rfl, a, E2, rfl, ha, hl, hsm, fun H1 s1 => ⟨_, rfl, ifF rfl ?_⟩⟩
    have hb1 := hb.same s1
    obtain ⟨dx, ve, vs, e1, e2, e3, e4⟩ := hb1.ex
    have hz : (1000 : Nat) < sizeLine := by decide
    have lv := Paired.len e4
    have nbp := hb.ne
    refine ⟨_, rfl, bk, C, dx, _, _, rfl, e1, B.cl, B.nP, bf_past _ _, .inl ⟨rfl, _, SqL.of e3⟩, _, rfl, bk, C, dx, _, _, rfl, e1, B.cl, B.nE, bf_ent _ _, ?_⟩
    refine ⟨pl, vs, _, rfl, rfl, e3, by omega, ?_⟩
    refine ⟨_, rfl, _, rfl, bk, C, dx, _, rfl, Eq.trans (upd_ne nbp) e1, B.cl, B.nE, bf_len _ _, ?_⟩
    rw [bf_put_ent]
    have st1 : Stay H1 (upd H1 pl (.lst (vs ++ [.ref ve]))) := stay_lst e3
    have st2 : Stay (upd H1 pl (.lst (vs ++ [.ref ve]))) (upd (upd H1 pl (.lst (vs ++ [.ref ve]))) bk (.ins C dx (bf a pl))) := stay_ins (Eq.trans (upd_ne nbp) e1)
    have st := Stay.trans st1 st2
    refine k _ ⟨Stay.trans (same_stay s1) st, fun b o e n => ?_⟩ ⟨dx, a, vs ++ [.ref ve], upd_same, ha.stay (Stay.trans (same_stay s1) st), by rw [upd_ne (Ne.symm nbp), upd_same], Paired.snoc ⟨ve, rfl, e2.stay st⟩ (st.pasts e4)⟩
    have n1 : b ≠ bk := fun q => n (by rw [q]; exact List.mem_cons_self)
    have n2 : b ≠ pl := fun q => n (by rw [q]; exact List.mem_cons_of_mem _ List.mem_cons_self)
    rw [upd_ne n1, upd_ne n2]
    exact s1 _ _ e
end
end Sg
/-! ## SgD7b -/
namespace Sg
open PySem PySem.Spec PyProof.Rows L2
theorem Fr.pre {W : List Addr} {H H1 H2 : Hp} (s : Same H H1) (f : Fr W H1 H2) : Fr W H H2 := (Fr.of s).trans f
section
variable {P : Program} {w : World} {K : PySem.W.Frag} {mg : Str → Option Value} {base : Heap} {C : Addr}
def spPut (K : PySem.W.Frag) (C : Addr) : Sp := fun vs H Q _ => ∃ (bk pl a : Addr) (n : Str) (r : Row) (E : Entries) (past : List Entries), vs = [.ref bk, .str n, .ref a] ∧ BookAt K C H bk pl E past ∧ past.length ≤ 1000 ∧ NameOk n ∧ RowV H a r ∧ RowOk r ∧ Small r ∧ getE E n = [] ∧ E.length < 12 ∧ (∀ e ∈ E, Small e.2) ∧
  ∀ H', Fr [bk, pl] H H' → BookAt K C H' bk pl (E ++ [(n, r)]) (past ++ [E]) → Q .non H'
theorem sc_put : FnScope ["self", "name", "row"] ["self", "name", "row"] (defScope m_put) := ⟨rfl, rfl, rfl, by decide +kernel, rfl, by decide +kernel, by decide +kernel⟩
theorem small_snoc {E : Entries} {e : Str × Row} (h : ∀ e ∈ E, Small e.2) (h2 : Small e.2) : ∀ x ∈ E ++ [e], Small x.2 := fun x hx => by
  rcases List.mem_append.mp hx with q | q
  · exact h x q
  · rw [List.mem_singleton.mp q]
    exact h2
theorem ok_put (D : Md K C "put" "Book.put" m_put) (B : TB K mg C) (c1 : Cl P w K mg base 2 "check_name" ["value"] spCkN) (c2 : Cl P w K mg base 3 "check_row" ["value"] spCheck) (c3 : Mt P w K mg base 2 C "_be_new" ["self", "name"] (spNew K C)) (c4 : Mt P w K mg base 4 C "_lead" ["self", "entries"] (spLead K C))
    (c5 : Cl P w K mg base 1 "book_put" ["entries", "name", "row"] (spBPut K)) : Mt P w K mg base 5 C "put" ["self", "name", "row"] (spPut K C) := by
  refine D.mt sc_put (fun vs H Q E h => ?_) (fun _ _ _ _ _ _ us hl => match us, hl with | [_, _, _], _ => rfl) (fun f cdv A outer s H vs Q E hr h => ?_)
  · obtain ⟨bk, pl, a, n, r, E, past, rfl, _⟩ := h
    rfl
  · obtain ⟨bk, pl, a, n, r, E, past, rfl, hb, hpl, hn, ha, hok, hs, hne, hl, hsm, k⟩ := h
    refine ⟨_, pss_cons (ps_expr (pe_cl c1 hr (by decide) (by rfl) (pa_cons (pv 1) pa_nil))) (pss_cons (ps_expr (pe_cl c2 hr (by decide) (by rfl) (pa_cons (pv 2) pa_nil)))
      (pss_cons (ps_expr (pe_mtd c3 B.cl hr (by decide) (pv 0) (pa_cons (pv 1) pa_nil))) (pss_one (ps_expr (pe_mtd c4 B.cl hr (by decide) (pv 0) (pa_cons (pe_cl c5 hr (by decide) (by rfl) (pa_cons (pe_fld (pv 0) rfl) (pa_cons (pv 1) (pa_cons (pv 2) pa_nil)))) pa_nil)))))), ?_⟩
    refine ⟨_, rfl, n, rfl, hn, fun H1 s1 => ?_⟩
    refine ⟨_, rfl, a, r, rfl, ha.stay (same_stay s1), hok, Nat.le_trans hs.len (by decide), fun H2 s2 => ?_⟩
    have s12 := Same.trans s1 s2
    obtain ⟨dx, ve, vs, e1, e2, e3, e4⟩ := (hb.same s12).ex
    refine ⟨_, rfl, bk, dx, _, rfl, e1, bf_no _ _ (by decide +kernel) (by decide +kernel), _, rfl, bk, pl, n, E, past, rfl, hb.same s12, Nat.le_of_lt hl, hne, fun H3 s3 => ?_⟩
    have s13 := Same.trans s12 s3
    refine ⟨_, rfl, bk, dx, _, rfl, s3 _ _ e1, bf_no _ _ (by decide +kernel) (by decide +kernel), _, rfl, bk, C, dx, _, _, rfl, s3 _ _ e1, B.cl, B.nE, bf_ent _ _, _, rfl, _, rfl, ve, a, n, E, r, rfl, e2.stay (same_stay s3), by omega, ha.stay (same_stay s13), fun p H4 s4 hp => ?_⟩
    have s14 := Same.trans s13 s4
    refine ⟨bk, pl, p, E, E ++ [(n, r)], past, rfl, hb.same s14, hpl, hp, ?_, small_snoc hsm hs, fun H' f hB => k H' (Fr.pre s14 f) hB⟩
    rw [List.length_append, List.length_singleton]
    omega
def spMore (K : PySem.W.Frag) (C : Addr) : Sp := fun vs H Q _ => ∃ (bk pl : Addr) (n : Str) (p w : Int) (E : Entries) (past : List Entries), vs = [.ref bk, .str n, .int p, .int w] ∧ w ≠ 0 ∧ BookAt K C H bk pl E past ∧ past.length ≤ 1000 ∧ NameOk n ∧ getE E n ≠ [] ∧ E.length ≤ 12 ∧ (∀ e ∈ E, Small e.2) ∧ (∀ e ∈ moreE E n p w, Small e.2) ∧
  ∀ H', Fr [bk, pl] H H' → BookAt K C H' bk pl (moreE E n p w) (past ++ [E]) → Q .non H'
theorem sc_more : FnScope ["self", "name", "place", "weight"] ["self", "name", "place", "weight"] (defScope m_more) := ⟨rfl, rfl, rfl, by decide +kernel, rfl, by decide +kernel, by decide +kernel⟩
theorem ok_more (D : Md K C "more" "Book.more" m_more) (B : TB K mg C) (c1 : Cl P w K mg base 2 "check_name" ["value"] spCkN) (c2 : Cl P w K mg base 2 "check_whole" ["value"] spCkW) (c3 : Mt P w K mg base 2 C "_be_there" ["self", "names"] (spThere K C)) (c4 : Mt P w K mg base 4 C "_lead" ["self", "entries"] (spLead K C))
    (c5 : Cl P w K mg base 3 "book_more" ["entries", "name", "place", "weight"] (spBMore K)) : Mt P w K mg base 5 C "more" ["self", "name", "place", "weight"] (spMore K C) := by
  refine D.mt sc_more (fun vs H Q E h => ?_) (fun _ _ _ _ _ _ us hl => match us, hl with | [_, _, _, _], _ => rfl) (fun f cdv A outer s H vs Q E hr h => ?_)
  · obtain ⟨bk, pl, n, p, w, E, past, rfl, _⟩ := h
    rfl
  · obtain ⟨bk, pl, n, p, w, E, past, rfl, hw, hb, hpl, hn, hne, hl, hsm, hsm2, k⟩ := h
    refine ⟨_, pss_cons (ps_expr (pe_cl c1 hr (by decide) (by rfl) (pa_cons (pv 1) pa_nil))) (pss_cons (ps_expr (pe_cl c2 hr (by decide) (by rfl) (pa_cons (pv 2) pa_nil))) (pss_cons (ps_expr (pe_cl c2 hr (by decide) (by rfl) (pa_cons (pv 3) pa_nil)))
      (pss_cons (ps_if (pt_cmpR op_eq (pv 3) pe_int (nomark _)) (pss_one ps_never) pss_nil)
      (pss_cons (ps_expr (pe_mtd c3 B.cl hr (by decide) (pv 0) (pa_cons (pe_lst (pa_cons (pv 1) pa_nil)) pa_nil))) (pss_one (ps_expr (pe_mtd c4 B.cl hr (by decide) (pv 0) (pa_cons (pe_cl c5 hr (by decide) (by rfl) (pa_cons (pe_fld (pv 0) rfl) (pa_cons (pv 1) (pa_cons (pv 2) (pa_cons (pv 3) pa_nil))))) pa_nil)))))))), ?_⟩
    refine ⟨_, rfl, n, rfl, hn, fun H1 s1 => ?_⟩
    refine ⟨_, rfl, p, rfl, _, rfl, w, rfl, _, rfl, rfl, _, rfl, ifF (decide_eq_false fun e => hw (V.int.inj e)) ?_⟩
    obtain ⟨dx, ve, vs, e1, e2, e3, e4⟩ := (hb.same s1).ex
    refine ⟨_, rfl, bk, dx, _, rfl, e1, bf_no _ _ (by decide +kernel) (by decide +kernel), _, rfl, (by show 1 ≤ sizeLine; decide), fun l hl1 => ?_⟩
    have s2 := same_new s1 hl1 (o := .lst [.str n])
    refine ⟨bk, pl, l, [n], E, past, rfl, hb.same s2, hl, upd_same, (by show 1 ≤ 100; decide), fun z hz => by rw [List.mem_singleton.mp hz]; exact hne, fun H3 s3 => ?_⟩
    have s13 := Same.trans s2 s3
    have e13 := s3 _ _ (same_upd (o := .lst [.str n]) hl1 _ _ e1)
    have e2' := (e2.stay (same_stay (same_upd (o := .lst [.str n]) hl1))).stay (same_stay s3)
    refine ⟨_, rfl, bk, dx, _, rfl, e13, bf_no _ _ (by decide +kernel) (by decide +kernel), _, rfl, bk, C, dx, _, _, rfl, e13, B.cl, B.nE, bf_ent _ _, _, rfl, _, rfl, _, rfl, ve, n, E, p, w, rfl, e2', by omega, fun e he => Nat.le_trans (hsm e he).len (by decide), fun q H4 s4 hq => ?_⟩
    have s14 := Same.trans s13 s4
    refine ⟨bk, pl, q, E, moreE E n p w, past, rfl, hb.same s14, hpl, hq, ?_, hsm2, fun H' f hB => k H' (Fr.pre s14 f) hB⟩
    unfold moreE
    rw [List.length_map]
    exact hl
def spStrike (K : PySem.W.Frag) (C : Addr) : Sp := fun vs H Q _ => ∃ (bk pl : Addr) (n : Str) (E : Entries) (past : List Entries), vs = [.ref bk, .str n] ∧ BookAt K C H bk pl E past ∧ past.length ≤ 1000 ∧ NameOk n ∧ getE E n ≠ [] ∧ E.length ≤ 12 ∧ (∀ e ∈ E, Small e.2) ∧
  ∀ H', Fr [bk, pl] H H' → BookAt K C H' bk pl (dropE E n) (past ++ [E]) → Q .non H'
theorem sc_strike : FnScope ["self", "name"] ["self", "name"] (defScope m_strike) := ⟨rfl, rfl, rfl, by decide +kernel, rfl, by decide +kernel, by decide +kernel⟩
theorem ok_strike (D : Md K C "strike" "Book.strike" m_strike) (B : TB K mg C) (c1 : Cl P w K mg base 2 "check_name" ["value"] spCkN) (c3 : Mt P w K mg base 2 C "_be_there" ["self", "names"] (spThere K C)) (c4 : Mt P w K mg base 4 C "_lead" ["self", "entries"] (spLead K C))
    (c5 : Cl P w K mg base 1 "book_strike" ["entries", "name"] (spBStrike K)) : Mt P w K mg base 5 C "strike" ["self", "name"] (spStrike K C) := by
  refine D.mt sc_strike (fun vs H Q E h => ?_) (fun _ _ _ _ _ _ us hl => match us, hl with | [_, _], _ => rfl) (fun f cdv A outer s H vs Q E hr h => ?_)
  · obtain ⟨bk, pl, n, E, past, rfl, _⟩ := h
    rfl
  · obtain ⟨bk, pl, n, E, past, rfl, hb, hpl, hn, hne, hl, hsm, k⟩ := h
    refine ⟨_, pss_cons (ps_expr (pe_cl c1 hr (by decide) (by rfl) (pa_cons (pv 1) pa_nil)))
      (pss_cons (ps_expr (pe_mtd c3 B.cl hr (by decide) (pv 0) (pa_cons (pe_lst (pa_cons (pv 1) pa_nil)) pa_nil))) (pss_one (ps_expr (pe_mtd c4 B.cl hr (by decide) (pv 0) (pa_cons (pe_cl c5 hr (by decide) (by rfl) (pa_cons (pe_fld (pv 0) rfl) (pa_cons (pv 1) pa_nil))) pa_nil))))), ?_⟩
    refine ⟨_, rfl, n, rfl, hn, fun H1 s1 => ?_⟩
    obtain ⟨dx, ve, vs, e1, e2, e3, e4⟩ := (hb.same s1).ex
    refine ⟨_, rfl, bk, dx, _, rfl, e1, bf_no _ _ (by decide +kernel) (by decide +kernel), _, rfl, (by show 1 ≤ sizeLine; decide), fun l hl1 => ?_⟩
    have s2 := same_new s1 hl1 (o := .lst [.str n])
    refine ⟨bk, pl, l, [n], E, past, rfl, hb.same s2, hl, upd_same, (by show 1 ≤ 100; decide), fun z hz => by rw [List.mem_singleton.mp hz]; exact hne, fun H3 s3 => ?_⟩
    have s13 := Same.trans s2 s3
    have e13 := s3 _ _ (same_upd (o := .lst [.str n]) hl1 _ _ e1)
    have e2' := (e2.stay (same_stay (same_upd (o := .lst [.str n]) hl1))).stay (same_stay s3)
    refine ⟨_, rfl, bk, dx, _, rfl, e13, bf_no _ _ (by decide +kernel) (by decide +kernel), _, rfl, bk, C, dx, _, _, rfl, e13, B.cl, B.nE, bf_ent _ _, _, rfl, ve, n, E, rfl, e2', by omega, fun q H4 s4 hq => ?_⟩
    have s14 := Same.trans s13 s4
    refine ⟨bk, pl, q, E, dropE E n, past, rfl, hb.same s14, hpl, hq, Nat.le_trans (List.length_filter_le _ _) hl, fun e he => hsm e (List.mem_filter.mp he).1, fun H' f hB => k H' (Fr.pre s14 f) hB⟩
def spJoin (K : PySem.W.Frag) (C : Addr) (g : Row → Row) : Sp := fun vs H Q _ => ∃ (bk pl : Addr) (n x y : Str) (r s : Row) (E : Entries) (past : List Entries), vs = [.ref bk, .str n, .str x, .str y] ∧ BookAt K C H bk pl E past ∧ past.length ≤ 1000 ∧ NameOk n ∧ NameOk x ∧ NameOk y ∧ getE E n = [] ∧ getE E x = [r] ∧ getE E y = [s] ∧ E.length < 12 ∧ (∀ e ∈ E, Small e.2) ∧
  r.length ≤ 400 ∧ s.length ≤ 400 ∧ (∀ p ∈ r, p.2.natAbs < 2 ^ 210) ∧ (∀ p ∈ s, p.2.natAbs < 2 ^ 210) ∧ Small (times r (g s)) ∧ ∀ H', Fr [bk, pl] H H' → BookAt K C H' bk pl (E ++ [(n, times r (g s))]) (past ++ [E]) → Q .non H'
abbrev tJoinR (K : PySem.W.Frag) (C : Addr) (g : Row → Row) : TS :=
  tSeq (tDrop (tCl (spCkNs K) (tCons (tLst (tCons (tVar 1) (tCons (tVar 2) (tCons (tVar 3) tNil)))) tNil))) (tSeq (tDrop (tMtd C "_be_new" (spNew K C) (tVar 0) (tCons (tVar 1) tNil)))
    (tSeq (tDrop (tMtd C "_be_there" (spThere K C) (tVar 0) (tCons (tLst (tCons (tVar 2) (tCons (tVar 3) tNil))) tNil)))
      (tDrop (tMtd C "_lead" (spLead K C) (tVar 0) (tCons (tCl (spBJoin K g) (tCons (tFld K (tVar 0) "_entries") (tCons (tVar 1) (tCons (tVar 2) (tCons (tVar 3) tNil))))) tNil)))))
theorem read_join {g : Row → Row} {H : Hp} {Q : VK} {bk pl : Addr} {n x y : Str} {r s : Row} {E : Entries} {past : List Entries} (B : TB K mg C) (hb : BookAt K C H bk pl E past) (hpl : past.length ≤ 1000) (hn : NameOk n) (hx : NameOk x) (hy : NameOk y) (gn : getE E n = []) (gx : getE E x = [r]) (gy : getE E y = [s]) (hl : E.length < 12) (hsm : ∀ e ∈ E, Small e.2)
    (l1 : r.length ≤ 400) (l2 : s.length ≤ 400) (w1 : ∀ p ∈ r, p.2.natAbs < 2 ^ 210) (w2 : ∀ p ∈ s, p.2.natAbs < 2 ^ 210) (hs : Small (times r (g s))) (k : ∀ H', Fr [bk, pl] H H' → BookAt K C H' bk pl (E ++ [(n, times r (g s))]) (past ++ [E]) → Q .non H') {D : Ends} (hD : ∀ σ H', Q .non H' → D.nx σ H') :
    tJoinR K C g D [some (.ref bk), some (.str n), some (.str x), some (.str y)] H := by
  refine ⟨_, rfl, _, rfl, _, rfl, (by show 3 ≤ sizeLine; decide), fun l0 hl0 => ?_⟩
  have s0 := same_upd (o := .lst [.str n, .str x, .str y]) hl0
  refine ⟨l0, [n, x, y], rfl, upd_same, fun z hz => ?_, fun H1 s1' => ?_⟩
  · rcases List.mem_cons.mp hz with q | hz
    · rw [q]; exact hn
    · rcases List.mem_cons.mp hz with q | hz
      · rw [q]; exact hx
      · rw [List.mem_singleton.mp hz]; exact hy
  have s1 := Same.trans s0 s1'
  obtain ⟨dx, ve, vs, e1, e2, e3, e4⟩ := (hb.same s1).ex
  refine ⟨_, rfl, bk, dx, _, rfl, e1, bf_no _ _ (by decide +kernel) (by decide +kernel), _, rfl, bk, pl, n, E, past, rfl, hb.same s1, Nat.le_of_lt hl, gn, fun H2 s2' => ?_⟩
  have s2 := Same.trans s1 s2'
  refine ⟨_, rfl, bk, dx, _, rfl, s2' _ _ e1, bf_no _ _ (by decide +kernel) (by decide +kernel), _, rfl, _, rfl, (by show 2 ≤ sizeLine; decide), fun l hl1 => ?_⟩
  have s3' := same_upd (o := .lst [.str x, .str y]) hl1
  have s3 := Same.trans s2 s3'
  refine ⟨bk, pl, l, [x, y], E, past, rfl, hb.same s3, Nat.le_of_lt hl, upd_same, (by show 2 ≤ 100; decide), fun z hz => ?_, fun H4 s4' => ?_⟩
  · rcases List.mem_cons.mp hz with q | hz
    · rw [q, gx]; exact List.cons_ne_nil _ _
    · rw [List.mem_singleton.mp hz, gy]; exact List.cons_ne_nil _ _
  have s4 := Same.trans s3 s4'
  have s24 := Same.trans s2' (Same.trans s3' s4')
  refine ⟨_, rfl, bk, dx, _, rfl, s24 _ _ e1, bf_no _ _ (by decide +kernel) (by decide +kernel), _, rfl, bk, C, dx, _, _, rfl, s24 _ _ e1, B.cl, B.nE, bf_ent _ _, _, rfl, _, rfl, _, rfl, ve, n, x, y, E, r, s, rfl, e2.stay (same_stay s24), by omega, gx, gy, l1, l2, w1, w2, fun p H5 s5' hp => ?_⟩
  have s5 := Same.trans s4 s5'
  refine ⟨bk, pl, p, E, _, past, rfl, hb.same s5, hpl, hp, ?_, small_snoc hsm hs, fun H' f hB => hD _ _ (k H' (Fr.pre s5 f) hB)⟩
  rw [List.length_append, List.length_singleton]
  omega
theorem sc_join : FnScope ["self", "name", "one", "other"] ["self", "name", "one", "other"] (defScope m_join) := ⟨rfl, rfl, rfl, by decide +kernel, rfl, by decide +kernel, by decide +kernel⟩
theorem sc_cross : FnScope ["self", "name", "one", "other"] ["self", "name", "one", "other"] (defScope m_cross) := ⟨rfl, rfl, rfl, by decide +kernel, rfl, by decide +kernel, by decide +kernel⟩
theorem ok_join (D : Md K C "join" "Book.join" m_join) (B : TB K mg C) (c1 : Cl P w K mg base 3 "check_names" ["values"] (spCkNs K)) (c2 : Mt P w K mg base 2 C "_be_new" ["self", "name"] (spNew K C)) (c3 : Mt P w K mg base 2 C "_be_there" ["self", "names"] (spThere K C)) (c4 : Mt P w K mg base 4 C "_lead" ["self", "entries"] (spLead K C))
    (c5 : Cl P w K mg base 3 "book_join" ["entries", "name", "one", "other"] (spBJoin K id)) : Mt P w K mg base 5 C "join" ["self", "name", "one", "other"] (spJoin K C id) := by
  refine D.mt sc_join (fun vs H Q E h => ?_) (fun _ _ _ _ _ _ us hl => match us, hl with | [_, _, _, _], _ => rfl) (fun f cdv A outer s H vs Q E hr h => ?_)
  · obtain ⟨bk, pl, n, x, y, r, s, E, past, rfl, _⟩ := h
    rfl
  · obtain ⟨bk, pl, n, x, y, r, s, E, past, rfl, hb, hpl, hn, hx, hy, gn, gx, gy, hl, hsm, l1, l2, w1, w2, hs, k⟩ := h
    exact ⟨tJoinR K C id, pss_cons (ps_expr (pe_cl c1 hr (by decide) (by rfl) (pa_cons (pe_lst (pa_cons (pv 1) (pa_cons (pv 2) (pa_cons (pv 3) pa_nil)))) pa_nil))) (pss_cons (ps_expr (pe_mtd c2 B.cl hr (by decide) (pv 0) (pa_cons (pv 1) pa_nil)))
      (pss_cons (ps_expr (pe_mtd c3 B.cl hr (by decide) (pv 0) (pa_cons (pe_lst (pa_cons (pv 2) (pa_cons (pv 3) pa_nil))) pa_nil))) (pss_one (ps_expr (pe_mtd c4 B.cl hr (by decide) (pv 0) (pa_cons (pe_cl c5 hr (by decide) (by rfl) (pa_cons (pe_fld (pv 0) rfl) (pa_cons (pv 1) (pa_cons (pv 2) (pa_cons (pv 3) pa_nil))))) pa_nil)))))),
      read_join B hb hpl hn hx hy gn gx gy hl hsm l1 l2 w1 w2 hs k (fun σ H' q => q)⟩
theorem ok_cross (D : Md K C "cross" "Book.cross" m_cross) (B : TB K mg C) (c1 : Cl P w K mg base 3 "check_names" ["values"] (spCkNs K)) (c2 : Mt P w K mg base 2 C "_be_new" ["self", "name"] (spNew K C)) (c3 : Mt P w K mg base 2 C "_be_there" ["self", "names"] (spThere K C)) (c4 : Mt P w K mg base 4 C "_lead" ["self", "entries"] (spLead K C))
    (c5 : Cl P w K mg base 3 "book_cross" ["entries", "name", "one", "other"] (spBJoin K mirror)) : Mt P w K mg base 5 C "cross" ["self", "name", "one", "other"] (spJoin K C mirror) := by
  refine D.mt sc_cross (fun vs H Q E h => ?_) (fun _ _ _ _ _ _ us hl => match us, hl with | [_, _, _, _], _ => rfl) (fun f cdv A outer s H vs Q E hr h => ?_)
  · obtain ⟨bk, pl, n, x, y, r, s, E, past, rfl, _⟩ := h
    rfl
  · obtain ⟨bk, pl, n, x, y, r, s, E, past, rfl, hb, hpl, hn, hx, hy, gn, gx, gy, hl, hsm, l1, l2, w1, w2, hs, k⟩ := h
    exact ⟨tJoinR K C mirror, pss_cons (ps_expr (pe_cl c1 hr (by decide) (by rfl) (pa_cons (pe_lst (pa_cons (pv 1) (pa_cons (pv 2) (pa_cons (pv 3) pa_nil)))) pa_nil))) (pss_cons (ps_expr (pe_mtd c2 B.cl hr (by decide) (pv 0) (pa_cons (pv 1) pa_nil)))
      (pss_cons (ps_expr (pe_mtd c3 B.cl hr (by decide) (pv 0) (pa_cons (pe_lst (pa_cons (pv 2) (pa_cons (pv 3) pa_nil))) pa_nil))) (pss_one (ps_expr (pe_mtd c4 B.cl hr (by decide) (pv 0) (pa_cons (pe_cl c5 hr (by decide) (by rfl) (pa_cons (pe_fld (pv 0) rfl) (pa_cons (pv 1) (pa_cons (pv 2) (pa_cons (pv 3) pa_nil))))) pa_nil)))))),
      read_join B hb hpl hn hx hy gn gx gy hl hsm l1 l2 w1 w2 hs k (fun σ H' q => q)⟩
/-! #### undo, row, kept, twin -/
def spUndo (K : PySem.W.Frag) (C : Addr) : Sp := fun vs H Q _ => ∃ (bk pl : Addr) (E E0 : Entries) (past : List Entries), vs = [.ref bk] ∧ BookAt K C H bk pl E (past ++ [E0]) ∧ ∀ H', Fr [bk, pl] H H' → BookAt K C H' bk pl E0 past → Q (.bl true) H'
theorem sc_undo : FnScope ["self"] ["self"] (defScope m_undo) := ⟨rfl, rfl, rfl, by decide +kernel, rfl, by decide +kernel, by decide +kernel⟩
theorem paired_snoc_inv {α β : Type} {F : α → β → Prop} {vs : List α} : ∀ {L : List β} {b : β}, Paired F vs (L ++ [b]) → ∃ us x, vs = us ++ [x] ∧ Paired F us L ∧ F x b := by
  induction vs with
  | nil =>
    intro L b h
    cases L <;> cases h
  | cons v vs ih =>
    intro L b h
    cases L with
    | nil =>
      cases h with
      | cons h1 h2 => cases h2; exact ⟨[], v, rfl, .nil, h1⟩
    | cons l L =>
      cases h with
      | cons h1 h2 =>
        obtain ⟨us, x, e, h3, h4⟩ := ih h2
        exact ⟨v :: us, x, by rw [e]; rfl, .cons h1 h3, h4⟩
theorem ok_undo (D : Md K C "undo" "Book.undo" m_undo) (B : TB K mg C) : Mt P w K mg base 1 C "undo" ["self"] (spUndo K C) := by
  refine D.mt sc_undo (fun vs H Q E h => ?_) (fun _ _ _ _ _ _ us hl => match us, hl with | [_], _ => rfl) (fun f cdv A outer s H vs Q E hr h => ?_)
  · obtain ⟨bk, pl, E, E0, past, rfl, _⟩ := h
    rfl
  · obtain ⟨bk, pl, E, E0, past, rfl, hb, k⟩ := h
    have nbp := hb.ne
    obtain ⟨dx, ve, vs, e1, e2, e3, e4⟩ := hb.ex
    obtain ⟨us, x, rfl, h4, v0, rfl, hv0⟩ := paired_snoc_inv e4
    refine ⟨_, pss_cons (ps_if (pt_cmpR (op_eqNil hr.units0) (pe_fld (pv 0) rfl) (pe_lst pa_nil) (nomark _)) (pss_one (ps_ret pe_bl)) pss_nil)
      (pss_cons (ps_fld (pv 0) (pe_bm0 PySem.F.plainAttrs_list PySem.F.slot_list_pop PySem.F.type_list_pop mt_pop (pe_fld (pv 0) rfl)) rfl) (pss_one (ps_ret pe_bl))), ?_⟩
    refine ⟨_, rfl, bk, C, dx, _, _, rfl, e1, B.cl, B.nP, bf_past _ _, Nat.zero_le _, fun l hl => ?_⟩
    have s1 := same_upd (o := .lst []) hl
    have emp : (us ++ [V.ref v0]).isEmpty = false := by cases us <;> rfl
    refine ⟨pl, l, _, rfl, rfl, SqL.of (s1 _ _ e3), SqL.of upd_same, _, rfl, ifF (by show (if false = true then _ else (us ++ [V.ref v0]).isEmpty) = false; rw [if_neg Bool.false_ne_true]; exact emp) ?_⟩
    refine ⟨_, rfl, bk, C, dx, _, _, rfl, s1 _ _ e1, B.cl, B.nP, bf_past _ _, .inl ⟨rfl, _, SqL.of (s1 _ _ e3)⟩, ?_⟩
    refine ⟨pl, _, _, rfl, rfl, s1 _ _ e3, (by rw [List.length_append, List.length_singleton, Nat.add_sub_cancel]; exact List.getElem?_concat_length), ?_⟩
    rw [List.dropLast_concat]
    have st1 := stay_lst (o := .lst us) (s1 _ _ e3)
    have e1' := Eq.trans (upd_ne (o := .lst us) nbp) (s1 _ _ e1)
    refine ⟨_, rfl, bk, C, dx, _, rfl, e1', B.cl, B.nE, bf_len _ _, ?_⟩
    rw [bf_put_ent]
    have st2 := stay_ins (o := .ins C dx (bf v0 pl)) e1'
    have st := Stay.trans (same_stay s1) (Stay.trans st1 st2)
    refine k _ ⟨st, fun b o e n => ?_⟩ ⟨dx, v0, us, upd_same, hv0.stay st, by rw [upd_ne (Ne.symm nbp), upd_same], st.pasts h4⟩
    have n1 : b ≠ bk := fun q => n (by rw [q]; exact List.mem_cons_self)
    have n2 : b ≠ pl := fun q => n (by rw [q]; exact List.mem_cons_of_mem _ List.mem_cons_self)
    rw [upd_ne n1, upd_ne n2]
    exact s1 _ _ e
def spRow (K : PySem.W.Frag) (C : Addr) : Sp := fun vs H Q _ => ∃ (bk pl : Addr) (n : Str) (r : Row) (E : Entries) (past : List Entries), vs = [.ref bk, .str n] ∧ BookAt K C H bk pl E past ∧ NameOk n ∧ getE E n = [r] ∧ E.length ≤ 12 ∧ ∀ a H', Same H H' → RowV H' a r → Q (.ref a) H'
theorem sc_row : FnScope ["self", "name"] ["self", "name"] (defScope m_row) := ⟨rfl, rfl, rfl, by decide +kernel, rfl, by decide +kernel, by decide +kernel⟩
theorem ok_row (D : Md K C "row" "Book.row" m_row) (B : TB K mg C) (c1 : Cl P w K mg base 2 "check_name" ["value"] spCkN) (c3 : Mt P w K mg base 2 C "_be_there" ["self", "names"] (spThere K C)) (c5 : Cl P w K mg base 1 "book_row" ["entries", "name"] (spBRow K)) : Mt P w K mg base 3 C "row" ["self", "name"] (spRow K C) := by
  refine D.mt sc_row (fun vs H Q E h => ?_) (fun _ _ _ _ _ _ us hl => match us, hl with | [_, _], _ => rfl) (fun f cdv A outer s H vs Q E hr h => ?_)
  · obtain ⟨bk, pl, n, r, E, past, rfl, _⟩ := h
    rfl
  · obtain ⟨bk, pl, n, r, E, past, rfl, hb, hn, hg, hl, k⟩ := h
    refine ⟨_, pss_cons (ps_expr (pe_cl c1 hr (by decide) (by rfl) (pa_cons (pv 1) pa_nil)))
      (pss_cons (ps_expr (pe_mtd c3 B.cl hr (by decide) (pv 0) (pa_cons (pe_lst (pa_cons (pv 1) pa_nil)) pa_nil))) (pss_one (ps_ret (pe_ix ix_list (pe_cl c5 hr (by decide) (by rfl) (pa_cons (pe_fld (pv 0) rfl) (pa_cons (pv 1) pa_nil))) pe_int (fun _ _ => rfl))))), ?_⟩
    refine ⟨_, rfl, n, rfl, hn, fun H1 s1 => ?_⟩
    obtain ⟨dx, ve, vs, e1, e2, e3, e4⟩ := (hb.same s1).ex
    refine ⟨_, rfl, bk, dx, _, rfl, e1, bf_no _ _ (by decide +kernel) (by decide +kernel), _, rfl, (by show 1 ≤ sizeLine; decide), fun l hl1 => ?_⟩
    have s2 := same_new s1 hl1 (o := .lst [.str n])
    refine ⟨bk, pl, l, [n], E, past, rfl, hb.same s2, hl, upd_same, (by show 1 ≤ 100; decide), fun z hz => by rw [List.mem_singleton.mp hz, hg]; exact List.cons_ne_nil _ _, fun H3 s3 => ?_⟩
    have s13 := Same.trans s2 s3
    have e13 := s3 _ _ (same_upd (o := .lst [.str n]) hl1 _ _ e1)
    have e2' := (e2.stay (same_stay (same_upd (o := .lst [.str n]) hl1))).stay (same_stay s3)
    refine ⟨_, rfl, bk, C, dx, _, _, rfl, e13, B.cl, B.nE, bf_ent _ _, _, rfl, ve, n, E, rfl, e2', by omega, fun q H4 xs s4 hq hp => ?_⟩
    obtain ⟨b, rfl, hb2⟩ := get_one hg hp
    exact ⟨q, _, _, _, rfl, rfl, SqL.of hq, atI_nat (j := 0) rfl, k b H4 (Same.trans s13 s4) hb2⟩
def spKept (K : PySem.W.Frag) (C : Addr) : Sp := fun vs H Q _ => ∃ (bk pl : Addr) (n : Str) (r : Row) (E : Entries) (past : List Entries), vs = [.ref bk, .str n] ∧ BookAt K C H bk pl E past ∧ NameOk n ∧ getE E n = [r] ∧ E.length ≤ 12 ∧ r.length ≤ 400 ∧ (∀ p ∈ r, p.2.natAbs < 2 ^ 210) ∧ ∀ a H', Same H H' → RowV H' a (gaps r) → Q (.ref a) H'
theorem sc_kept : FnScope ["self", "name"] ["self", "name"] (defScope m_kept) := ⟨rfl, rfl, rfl, by decide +kernel, rfl, by decide +kernel, by decide +kernel⟩
theorem ok_kept (D : Md K C "kept" "Book.kept" m_kept) (B : TB K mg C) (c1 : Cl P w K mg base 3 "differences_by" ["row"] (spGaps K)) (c2 : Mt P w K mg base 3 C "row" ["self", "name"] (spRow K C)) : Mt P w K mg base 4 C "kept" ["self", "name"] (spKept K C) := by
  refine D.mt sc_kept (fun vs H Q E h => ?_) (fun _ _ _ _ _ _ us hl => match us, hl with | [_, _], _ => rfl) (fun f cdv A outer s H vs Q E hr h => ?_)
  · obtain ⟨bk, pl, n, r, E, past, rfl, _⟩ := h
    rfl
  · obtain ⟨bk, pl, n, r, E, past, rfl, hb, hn, hg, hl, hrl, hw, k⟩ := h
    obtain ⟨dx, ve, vs, e1, e2, e3, e4⟩ := hb.ex
    refine ⟨_, pss_one (ps_ret (pe_cl c1 hr (by decide) (by rfl) (pa_cons (pe_mtd c2 B.cl hr (by decide) (pv 0) (pa_cons (pv 1) pa_nil)) pa_nil))), ?_⟩
    refine ⟨_, rfl, bk, dx, _, rfl, e1, bf_no _ _ (by decide +kernel) (by decide +kernel), _, rfl, bk, pl, n, r, E, past, rfl, hb, hn, hg, hl, fun a H1 s1 ha => ?_⟩
    exact ⟨a, r, rfl, ha.t, hrl, hw, fun p H2 s2 hp => k p H2 (Same.trans s1 s2) hp⟩
def spTwin (K : PySem.W.Frag) (C : Addr) : Sp := fun vs H Q _ => ∃ (bk pl : Addr) (E : Entries) (past : List Entries), vs = [.ref bk] ∧ BookAt K C H bk pl E past ∧ past.length ≤ 1000 ∧ ∀ b2 p2 H', Same H H' → H b2 = none → H p2 = none → BookAt K C H' b2 p2 E past → Q (.ref b2) H'
theorem sc_twin : FnScope ["self", "found"] ["self"] (defScope m_twin) := ⟨rfl, rfl, rfl, by decide +kernel, rfl, by decide +kernel, by decide +kernel⟩
theorem ok_twin (D : Md K C "twin" "Book.twin" m_twin) (B : TB K mg C) (T : Free mg) (c1 : Mkd P w K mg base 1 C (spInit K C)) : Mt P w K mg base 3 C "twin" ["self"] (spTwin K C) := by
  refine D.mt sc_twin (fun vs H Q E h => ?_) (fun _ _ _ _ _ _ us hl => match us, hl with | [_], _ => rfl) (fun f cdv A outer s H vs Q E hr h => ?_)
  · obtain ⟨bk, pl, E, past, rfl, _⟩ := h
    rfl
  · obtain ⟨bk, pl, E, past, rfl, hb, hpl, k⟩ := h
    refine ⟨_, pss_cons (ps_set (i := 1) sc_twin.nd rfl (Or.inl rfl) (pe_mk0 c1 hr (by decide) (by rfl) B.mgC)) (pss_cons (ps_fld (pv 1) (pe_fld (pv 0) rfl) rfl)
      (pss_cons (ps_fld (pv 1) (pe_callTy call_list_of (by rfl) T.list (by decide +kernel) (pa_cons (pe_fld (pv 0) rfl) pa_nil)) rfl) (pss_one (ps_ret (pv 1))))), ?_⟩
    intro x dx nx ndx nex
    refine ⟨x, dx, rfl, upd_same, fun H1 pl1 hpl1 hk hB => ⟨rfl, ?_⟩⟩
    have s1 : Same H H1 := fun b o e => hk b o (by rw [upd_ne (ne_of_none e nx), upd_ne (ne_of_none e ndx)]; exact e) (ne_of_none e nx)
    obtain ⟨dx1, ve1, vs1, f1, f2, f3, f4⟩ := hB.ex
    obtain ⟨dx0, ve, vs, e1, e2, e3, e4⟩ := (hb.same s1).ex
    obtain ⟨dxh, _, _, g1, _, g3, _⟩ := hb.ex
    have nbx : bk ≠ x := ne_of_none g1 nx
    have npx : pl ≠ x := ne_of_none g3 nx
    refine ⟨_, rfl, bk, C, dx0, _, _, rfl, e1, B.cl, B.nE, bf_ent _ _, _, rfl, x, C, dx1, _, rfl, f1, B.cl, B.nE, bf_len _ _, ?_⟩
    rw [bf_put_ent]
    have s2 : Same H (upd H1 x (.ins C dx1 (bf ve pl1))) := fun b o e => by rw [upd_ne (ne_of_none e nx)]; exact s1 _ _ e
    have st2 : Stay H1 (upd H1 x (.ins C dx1 (bf ve pl1))) := stay_ins f1
    have e3' : (upd H1 x (.ins C dx1 (bf ve pl1))) pl = some (.lst vs) := by rw [upd_ne npx]; exact e3
    refine ⟨_, rfl, bk, C, dx0, _, _, rfl, Eq.trans (upd_ne nbx) e1, B.cl, B.nP, bf_past _ _, ?_⟩
    refine ⟨pl, vs, rfl, .inl (SqL.of e3'), fun l hl => ?_⟩
    have nxl : x ≠ l := fun q => by
      rw [q, upd_same] at hl
      cases hl
    have s3 := same_new s2 hl (o := .lst vs)
    have st3 : Stay H1 (upd (upd H1 x (.ins C dx1 (bf ve pl1))) l (.lst vs)) := Stay.trans st2 (same_stay (same_upd hl))
    refine ⟨_, rfl, x, C, dx1, _, rfl, by rw [upd_ne nxl, upd_same], B.cl, B.nP, bf_len _ _, ?_⟩
    rw [bf_put_past]
    have st4 : Stay H1 (upd (upd (upd H1 x (.ins C dx1 (bf ve pl1))) l (.lst vs)) x (.ins C dx1 (bf ve l))) := Stay.trans st3 (stay_ins (by rw [upd_ne nxl, upd_same]))
    have hlH : H l = none := by
      rw [upd_ne (Ne.symm nxl)] at hl
      exact s1.free hl
    refine ⟨_, rfl, k x l _ (fun b o e => ?_) nx hlH ⟨dx1, ve, vs, upd_same, e2.stay st4, by rw [upd_ne (Ne.symm nxl), upd_same], st4.pasts e4⟩⟩
    rw [upd_ne (ne_of_none e nx)]
    exact s3 _ _ e
end
end Sg
/-! ## SgD8 -/
namespace Sg
open PySem PySem.Spec PyProof.Rows L2
section
variable {P : Program} {w : World} {K : PySem.W.Frag} {mg : Str → Option Value} {base : Heap} {C : Addr}
def spDiffs : Sp := fun vs H Q _ => ∃ (a : Addr) (r : Row), vs = [.ref a] ∧ RowV H a r ∧ RowOk r ∧ r.length ≤ 20 ∧ (∀ p ∈ r, p.2.natAbs < 2 ^ 210) ∧ ∀ p H', Same H H' → RowV H' p (gaps r) → Q (.ref p) H'
theorem gaps_400 {r : Row} (h : r.length ≤ 20) : (gaps r).length ≤ 400 := Nat.le_trans (gaps_len r) (Nat.mul_le_mul h h)
theorem sc_diffs : FnScope ["row"] ["row"] (defScope s_differences) := ⟨rfl, rfl, rfl, by decide +kernel, rfl, by decide +kernel, by decide +kernel⟩
theorem ok_diffs (D : Df K mg "differences" s_differences) (c1 : Cl P w K mg base 3 "check_row" ["value"] spCheck) (c2 : Cl P w K mg base 1 "few_pairs" ["row"] (spFew K)) (c3 : Cl P w K mg base 3 "differences_by" ["row"] (spGaps K)) : Cl P w K mg base 4 "differences" ["row"] spDiffs := by
  refine D.cl sc_diffs (fun vs H Q E h => ?_) (fun _ _ _ _ _ _ us hl => match us, hl with | [_], _ => rfl) (fun f cdv A outer s H vs Q E hr h => ?_)
  · obtain ⟨a, r, rfl, _⟩ := h
    rfl
  · obtain ⟨a, r, rfl, ha, hok, hl, hw, k⟩ := h
    have l4 : r.length ≤ 400 := Nat.le_trans hl (by decide)
    refine ⟨_, pss_cons (ps_expr (pe_cl c1 hr (by decide) (by rfl) (pa_cons (pv 0) pa_nil))) (pss_one (ps_ret (pe_cl c2 hr (by decide) (by rfl) (pa_cons (pe_cl c3 hr (by decide) (by rfl) (pa_cons (pv 0) pa_nil)) pa_nil)))), ?_⟩
    refine ⟨_, rfl, a, r, rfl, ha, hok, l4, fun H1 s1 => ?_⟩
    refine ⟨_, rfl, a, r, rfl, (ha.stay (same_stay s1)).t, l4, hw, fun p H2 s2 hp => ?_⟩
    obtain ⟨vs, h1, h2⟩ := hp.t.ex (K := K)
    exact ⟨p, vs, rfl, h1, by rw [Paired.len h2]; exact gaps_400 hl, k p H2 (Same.trans s1 s2) hp⟩
def spGrown : Sp := fun vs H Q _ => ∃ (t a : Addr) (p w : Int) (r : Row), vs = [.ref t, .ref a, .int p, .int w] ∧ RowV H t (gaps r) ∧ RowV H a r ∧ RowOk r ∧ r.length ≤ 20 ∧ (∀ p ∈ r, p.2.natAbs < 2 ^ 210) ∧ (plus r [(p, w)]).length ≤ 20 ∧ (∀ q ∈ plus r [(p, w)], q.2.natAbs < 2 ^ 210) ∧
  ∀ p2 H', Same H H' → RowV H' p2 (gaps (plus r [(p, w)])) → Q (.ref p2) H'
theorem sc_grown : FnScope ["told", "row", "place", "weight"] ["told", "row", "place", "weight"] (defScope s_grown) := ⟨rfl, rfl, rfl, by decide +kernel, rfl, by decide +kernel, by decide +kernel⟩
theorem ok_grown (D : Df K mg "grown" s_grown) (c1 : Cl P w K mg base 4 "check_both" ["row", "other"] spCheck2) (c2 : Cl P w K mg base 2 "check_whole" ["value"] spCkW) (c3 : Cl P w K mg base 3 "differences_by" ["row"] (spGaps K)) (c4 : Cl P w K mg base 1 "few_pairs" ["row"] (spFew K)) (c5 : Cl P w K mg base 3 "with_weight" ["row", "place", "weight"] (spWith K)) :
    Cl P w K mg base 5 "grown" ["told", "row", "place", "weight"] spGrown := by
  refine D.cl sc_grown (fun vs H Q E h => ?_) (fun _ _ _ _ _ _ us hl => match us, hl with | [_, _, _, _], _ => rfl) (fun f cdv A outer s H vs Q E hr h => ?_)
  · obtain ⟨t, a, p, w, r, rfl, _⟩ := h
    rfl
  · obtain ⟨t, a, p, w, r, rfl, ht, ha, hok, hl, hw, hl2, hw2, k⟩ := h
    have l4 : r.length ≤ 400 := Nat.le_trans hl (by decide)
    refine ⟨_, pss_cons (ps_expr (pe_cl c1 hr (by decide) (by rfl) (pa_cons (pv 0) (pa_cons (pv 1) pa_nil)))) (pss_cons (ps_expr (pe_cl c2 hr (by decide) (by rfl) (pa_cons (pv 2) pa_nil))) (pss_cons (ps_expr (pe_cl c2 hr (by decide) (by rfl) (pa_cons (pv 3) pa_nil)))
      (pss_cons (ps_if (pt_cmpR (op_neD hr.units) (pe_cl c3 hr (by decide) (by rfl) (pa_cons (pv 1) pa_nil)) (pv 0) (nomark _)) (pss_one ps_never) pss_nil)
      (pss_one (ps_ret (pe_cl c4 hr (by decide) (by rfl) (pa_cons (pe_cl c3 hr (by decide) (by rfl) (pa_cons (pe_cl c5 hr (by decide) (by rfl) (pa_cons (pv 1) (pa_cons (pv 2) (pa_cons (pv 3) pa_nil)))) pa_nil)) pa_nil))))))), ?_⟩
    refine ⟨_, rfl, _, rfl, t, a, gaps r, r, rfl, ht, gaps_ok r, gaps_400 hl, ha, hok, l4, fun H1 s1 => ?_⟩
    refine ⟨_, rfl, p, rfl, _, rfl, w, rfl, _, rfl, a, r, rfl, (ha.stay (same_stay s1)).t, l4, hw, fun q H2 s2 hq => ?_⟩
    have s12 := Same.trans s1 s2
    refine ⟨_, rfl, rowD (gaps r), rowD (gaps r), hq.t.dp, (ht.stay (same_stay s12)).t.dp, rowD_shaped _, rowD_shaped _, _, rfl, ifF (by rw [rowD_refl]; rfl) ?_⟩
    refine ⟨_, rfl, _, rfl, _, rfl, a, r, p, w, rfl, ha.stay (same_stay s12), l4, fun m H3 s3 hm => ?_⟩
    refine ⟨m, _, rfl, hm.t, Nat.le_trans hl2 (by decide), hw2, fun z H4 s4 hz => ?_⟩
    obtain ⟨vs, h1, h2⟩ := hz.t.ex (K := K)
    exact ⟨z, vs, rfl, h1, by rw [Paired.len h2]; exact gaps_400 hl2, k z H4 (Same.trans s12 (Same.trans s3 s4)) hz⟩
end
end Sg
/-! ## SgE1 -/
namespace Sg
open PySem PySem.Spec PyProof.Rows L2
theorem IxR_or {X : Cx} {r r' : R2} (h : IxR X r) (h' : IxR X r') : IxR X (fun x y H Q => r x y H Q ∨ r' x y H Q) := by
  intro value slice pins s σ H x y v u Q I rx ry hw hs
  rcases hw with q | q
  · exact h value slice pins s σ H x y v u Q I rx ry q hs
  · exact h' value slice pins s σ H x y v u Q I rx ry q hs
/-! ### pots -/
def PotAt (H : Hp) (pt : Addr) : Prop := ∃ d s n : Int, H pt = some (.lst [.int d, .int s, .int n]) ∧ 0 ≤ s ∧ s < 2147483563
theorem Fr.lst {H : Hp} {pt : Addr} {xs : List V} {o : HO} (h : H pt = some (.lst xs)) : Fr [pt] H (upd H pt o) := Fr.upd_in List.mem_cons_self (stay_lst h)
theorem PotAt.fr {W : List Addr} {H H' : Hp} {pt : Addr} (h : PotAt H pt) (f : Fr W H H') (n : pt ∉ W) : PotAt H' pt := let ⟨d, s, m, e, b⟩ := h; ⟨d, s, m, f.keep _ _ e n, b⟩
theorem PotAt.same {H H' : Hp} {pt : Addr} (h : PotAt H pt) (f : Same H H') : PotAt H' pt := h.fr (Fr.of (W := []) f) (fun q => nomatch q)
section
variable {P : Program} {w : World} {K : PySem.W.Frag} {mg : Str → Option Value} {base : Heap} {C : Addr}
def spDraw : Sp := fun vs H Q _ => ∃ (pt : Addr) (m : Int), vs = [.ref pt, .int m] ∧ PotAt H pt ∧ 0 < m ∧ m < 2 ^ 64 ∧ ∀ (r : Int) H', 0 ≤ r → r < m → Fr [pt] H H' → PotAt H' pt → Q (.int r) H'
theorem sc_draw : FnScope ["_law_pot_here", "_law_many", "_law_digit"] ["_law_pot_here", "_law_many"] (defScope s__law_draw) := ⟨rfl, rfl, rfl, by decide +kernel, rfl, by decide +kernel, by decide +kernel⟩
theorem ok_draw (D : Df K mg "_law_draw" s__law_draw) (T : Free mg) : Cl P w K mg base 1 "_law_draw" ["_law_pot_here", "_law_many"] spDraw := by
  refine D.cl sc_draw (fun vs H Q E h => ?_) (fun _ _ _ _ _ _ us hl => match us, hl with | [_, _], _ => rfl) (fun f cdv A outer s H vs Q E hr h => ?_)
  · obtain ⟨pt, m, rfl, _⟩ := h
    rfl
  · obtain ⟨pt, m, rfl, ⟨d, st, n, e, hs1, hs2⟩, hm0, hm1, k⟩ := h
    refine ⟨_, pss_cons (ps_if (pt_cmpR op_gt (pe_ix ix_list (pv 0) pe_int (fun _ _ => rfl)) pe_int (nomark _))
        (pss_cons (ps_set (i := 2) sc_draw.nd rfl (Or.inl rfl) (pe_op op_mod (pe_callTy call_int1 (by rfl) T.int (by decide +kernel) (pa_cons (pe_ix ix_list (pv 0) pe_int (fun _ _ => rfl)) pa_nil)) (pv 1)))
        (pss_cons (ps_asg (pe_op op_fdivW (pe_ix ix_list (pv 0) pe_int (fun _ _ => rfl)) (pv 1)) (pg_sub (pv 0) pe_int set_list)) (pss_one (ps_ret (pv 2))))) pss_nil)
      (pss_cons (ps_asg (pe_op op_add (pe_ix ix_list (pv 0) pe_int (fun _ _ => rfl)) pe_int) (pg_sub (pv 0) pe_int set_list))
      (pss_cons (ps_asg (pe_op op_mod (pe_callTy call_int1 (by rfl) T.int (by decide +kernel) (pa_cons (pe_op op_add (pe_op op_add (pe_op op_mul (pe_ix ix_list (pv 0) pe_int (fun _ _ => rfl)) (pe_op op_add (pe_op op_mod (pe_callTy call_int1 (by rfl) T.int (by decide +kernel) (pa_cons (pe_ix ix_list (pv 0) pe_int (fun _ _ => rfl)) pa_nil)) pe_int) pe_int))
          (pe_op op_mul pe_int (pe_ix ix_list (pv 0) pe_int (fun _ _ => rfl)))) pe_int) pa_nil)) pe_int) (pg_sub (pv 0) pe_int set_list))
      (pss_one (ps_ret (pe_op op_mod (pe_callTy call_int1 (by rfl) T.int (by decide +kernel) (pa_cons (pe_op op_fdiv (pe_ix ix_list (pv 0) pe_int (fun _ _ => rfl)) pe_int) pa_nil)) (pv 1)))))), ?_⟩
    refine ⟨_, rfl, pt, _, _, _, rfl, rfl, SqL.of e, atI_nat (j := 0) rfl, _, _, rfl, rfl, _, rfl, ite2 (fun hc => ?_) (fun hc => ?_)⟩
    · refine ⟨_, rfl, pt, _, _, _, rfl, rfl, SqL.of e, atI_nat (j := 0) rfl, .inl ⟨_, rfl, _, rfl, _, _, rfl, rfl, hm0, ?_⟩⟩
      refine ⟨_, rfl, pt, _, _, _, rfl, rfl, SqL.of e, atI_nat (j := 0) rfl, _, rfl, _, _, rfl, rfl, wide_div (b := 64) hm0 (by omega) (by decide) (by decide), ?_⟩
      refine ⟨_, rfl, pt, _, _, 0, rfl, rfl, e, rfl, ?_⟩
      exact ⟨_, rfl, k _ _ (Int.emod_nonneg _ (by omega)) (Int.emod_lt_of_pos _ hm0) (Fr.lst e) ⟨_, st, n, upd_same, hs1, hs2⟩⟩
    · refine ⟨_, rfl, pt, _, _, _, rfl, rfl, SqL.of e, atI_nat (j := 2) rfl, _, _, rfl, rfl, ?_⟩
      refine ⟨_, rfl, pt, _, _, 2, rfl, rfl, e, rfl, ?_⟩
      have f1 : Fr [pt] H _ := Fr.lst (o := .lst [.int d, .int st, .int (n + 1)]) e
      have e1 : (upd H pt (.lst [.int d, .int st, .int (n + 1)])) pt = some (.lst [.int d, .int st, .int (n + 1)]) := upd_same
      refine ⟨_, rfl, pt, _, _, _, rfl, rfl, SqL.of e1, atI_nat (j := 1) rfl, _, rfl, pt, _, _, _, rfl, rfl, SqL.of e1, atI_nat (j := 1) rfl, .inl ⟨_, rfl, _, _, rfl, rfl, (by show (0 : Int) < 10007; decide), _, _, rfl, rfl, _, _, rfl, rfl, .inl ⟨by omega, by omega⟩, ?_⟩⟩
      refine ⟨_, rfl, pt, _, _, _, rfl, rfl, SqL.of e1, atI_nat (j := 2) rfl, _, _, rfl, rfl, .inl ⟨by decide, by decide⟩, _, _, rfl, rfl, _, _, rfl, rfl, .inl ⟨_, rfl, _, _, rfl, rfl, (by show (0 : Int) < 2147483563; decide), ?_⟩⟩
      refine ⟨_, rfl, pt, _, _, 1, rfl, rfl, e1, rfl, ?_⟩
      refine ⟨_, rfl, pt, _, _, _, rfl, rfl, SqL.of upd_same, atI_nat (j := 1) rfl, _, _, rfl, rfl, ⟨by decide, by decide⟩, .inl ⟨_, rfl, _, rfl, _, _, rfl, rfl, hm0, ?_⟩⟩
      exact k _ _ (Int.emod_nonneg _ (by omega)) (Int.emod_lt_of_pos _ hm0) (Fr.trans f1 (Fr.lst e1)) ⟨_, _, _, upd_same, Int.emod_nonneg _ (by decide), Int.emod_lt_of_pos _ (by decide)⟩
/-! ### picks -/
def spPick (K : PySem.W.Frag) : Sp := fun vs H Q _ => ∃ (pt : Addr) (x : V), vs = [.ref pt, x] ∧ PotAt H pt ∧
  ((∃ z : Str, x = .str z ∧ 1 ≤ z.length ∧ z.length ≤ 1000 ∧ ∀ c H', c ∈ z.cps.toList → Fr [pt] H H' → PotAt H' pt → Q (.str ⟨#[c]⟩) H') ∨
    (∃ (a : Addr) (xs : List V), x = .ref a ∧ 1 ≤ xs.length ∧ xs.length ≤ 1000 ∧ ((H a = some (.lst xs) ∧ a ≠ pt) ∨ SqT K H a xs) ∧ ∀ y H', y ∈ xs → Fr [pt] H H' → PotAt H' pt → Q y H'))
theorem sc_pick : FnScope ["_law_pot_here", "_law_some"] ["_law_pot_here", "_law_some"] (defScope s__law_pick) := ⟨rfl, rfl, rfl, by decide +kernel, rfl, by decide +kernel, by decide +kernel⟩
theorem at_r {α : Type} {xs : List α} {r : Int} (h0 : 0 ≤ r) (h1 : r < xs.length) : ∃ y, y ∈ xs ∧ atI xs r = some y := by
  have hn : r.toNat < xs.length := by omega
  refine ⟨xs[r.toNat], List.getElem_mem hn, ?_⟩
  have := atI_nat (xs := xs) (j := r.toNat) (List.getElem?_eq_getElem hn)
  rw [Int.toNat_of_nonneg h0] at this
  exact this
theorem ok_pick (D : Df K mg "_law_pick" s__law_pick) (T : Free mg) (c1 : Cl P w K mg base 1 "_law_draw" ["_law_pot_here", "_law_many"] spDraw) : Cl P w K mg base 2 "_law_pick" ["_law_pot_here", "_law_some"] (spPick K) := by
  refine D.cl sc_pick (fun vs H Q E h => ?_) (fun _ _ _ _ _ _ us hl => match us, hl with | [_, _], _ => rfl) (fun f cdv A outer s H vs Q E hr h => ?_)
  · obtain ⟨pt, x, rfl, _⟩ := h
    rfl
  · obtain ⟨pt, x, rfl, hp, h⟩ := h
    have hz : (1000 : Nat) < sizeLine := by decide
    refine ⟨_, pss_one (ps_ret (pe_ix (IxR_or ix_str (IxR_or ix_list ix_tup)) (pv 1) (pe_cl c1 hr (by decide) (by rfl) (pa_cons (pv 0) (pa_cons (pe_callB call_len (by rfl) T.len boot_len (pa_cons (pv 1) pa_nil)) pa_nil))) (fun _ _ => rfl))), ?_⟩
    rcases h with ⟨z, rfl, l1, l2, k⟩ | ⟨a, xs, rfl, l1, l2, hx, k⟩
    · refine ⟨_, rfl, _, rfl, _, rfl, _, z.length, rfl, ⟨by omega, rfl⟩, pt, _, rfl, hp, by omega, by omega, fun r H1 r0 r1 f1 p1 => ?_⟩
      obtain ⟨c, hc, hat⟩ := at_r (xs := z.cps.toList) r0 (by rw [Array.length_toList]; exact r1)
      exact .inl ⟨z, r, c, rfl, rfl, by omega, hat, k c H1 hc f1 p1⟩
    · refine ⟨_, rfl, _, rfl, _, rfl, _, xs.length, rfl, ?_, pt, _, rfl, hp, by omega, by omega, fun r H1 r0 r1 f1 p1 => ?_⟩
      · rcases hx with ⟨hx, _⟩ | hx
        · exact .inl ⟨xs, SqL.of hx, rfl⟩
        · exact .inr ⟨xs, hx, rfl⟩
      · obtain ⟨y, hy, hat⟩ := at_r r0 r1
        rcases hx with ⟨hx, hn⟩ | hx
        · exact .inr (.inl ⟨a, xs, r, y, rfl, rfl, SqL.of (f1.keep _ _ hx (fun q => hn (List.mem_singleton.mp q))), hat, k y H1 hy f1 p1⟩)
        · exact .inr (.inr ⟨a, xs, r, y, rfl, rfl, f1.stay.tup hx, hat, k y H1 hy f1 p1⟩)
end
end Sg
/-! ## SgE2 -/
namespace Sg
open PySem PySem.Spec PyProof.Rows L2
theorem Fr.new {W : List Addr} {H H' : Hp} {p : Addr} {o : HO} (f : Fr W H H') (h : H' p = none) : Fr W H (upd H' p o) := f.trans (Fr.of (same_upd h))
theorem Fr.own {W : List Addr} {H H' : Hp} {p : Addr} {o : HO} (f : Fr W H H') (h0 : H p = none) (st : Stay H' (upd H' p o)) : Fr W H (upd H' p o) := ⟨f.stay.trans st, fun b u e n => by
  have nb : b ≠ p := ne_of_none e h0
  rw [upd_ne nb]
  exact f.keep b u e n⟩
theorem mem_ints {y : V} {is : List Int} (h : y ∈ is.map V.int) : ∃ i, i ∈ is ∧ y = .int i := by
  obtain ⟨i, hi, e⟩ := List.mem_map.mp h
  exact ⟨i, hi, e.symm⟩
theorem PotAt.up {H : Hp} {pt p : Addr} {o : HO} (h : PotAt H pt) (hp : H p = none) : PotAt (upd H p o) pt := h.same (same_upd hp)
theorem PotAt.ne {H : Hp} {pt p : Addr} (h : PotAt H pt) (hp : H p = none) : p ≠ pt := let ⟨_, _, _, e, _⟩ := h; (ne_of_none e hp).symm
section
variable {P : Program} {w : World} {K : PySem.W.Frag} {mg : Str → Option Value} {base : Heap} {C : Addr}
def spLRow : Sp := fun vs H Q _ => ∃ (pt : Addr) (m : Int), vs = [.ref pt, .int m] ∧ PotAt H pt ∧ 0 ≤ m ∧ m ≤ 20 ∧ ∀ p r H', Fr [pt] H H' → PotAt H' pt → RowV H' p r → RowOk r → r.length ≤ 20 → Bnd (10 ^ 15) (10 ^ 12) r → Q (.ref p) H'
theorem sc_lrow : FnScope ["_law_pot_here", "_law_most", "_law_wide", "_law_loud", "_law_is_heap", "_law_table", "_law_turn", "_law_weight_here"] ["_law_pot_here", "_law_most"] (defScope s__law_row) := ⟨rfl, rfl, rfl, by decide +kernel, rfl, by decide +kernel, by decide +kernel⟩
theorem ok_lrow (D : Df K mg "_law_row" s__law_row) (T : Free mg) (c1 : Cl P w K mg base 2 "_law_pick" ["_law_pot_here", "_law_some"] (spPick K)) (c2 : Cl P w K mg base 1 "_law_draw" ["_law_pot_here", "_law_many"] spDraw) (c3 : Cl P w K mg base 1 "_law_packed" ["_law_table"] (spPack K)) :
    Cl P w K mg base 3 "_law_row" ["_law_pot_here", "_law_most"] spLRow := by
  refine D.cl sc_lrow (fun vs H Q E h => ?_) (fun _ _ _ _ _ _ us hl => match us, hl with | [_, _], _ => rfl) (fun f cdv A outer s H vs Q E hr h => ?_)
  · obtain ⟨pt, m, rfl, _⟩ := h
    rfl
  · obtain ⟨pt, m, rfl, hp, hm0, hm1, k⟩ := h
    have hu := hu_of hr
    refine ⟨_, pss_cons (ps_set (i := 2) sc_lrow.nd rfl (Or.inl rfl) (pe_cl c1 hr (by decide) (by rfl) (pa_cons (pv 0) (pa_cons (pe_lst (pa_cons (pe_op op_add (pv 1) pe_int) (pa_cons (pe_op op_add (pv 1) pe_int) (pa_cons (pe_op op_add (pe_op op_mul pe_int (pv 1)) pe_int) (pa_cons pe_int (pa_cons (pe_op op_pow pe_int pe_int) pa_nil)))))) pa_nil))))
      (pss_cons (ps_par (i := 3) (j := 4) (by rfl) sc_lrow.nd rfl rfl (by decide) rfl rfl (pa_cons (pe_cl c1 hr (by decide) (by rfl) (pa_cons (pv 0) (pa_cons (pe_lst (pa_cons pe_int (pa_cons pe_int (pa_cons pe_int (pa_cons pe_int (pa_cons (pe_op op_pow pe_int pe_int) pa_nil)))))) pa_nil))) (pa_cons (pe_cmpR op_eq (pe_cl c2 hr (by decide) (by rfl) (pa_cons (pv 0) (pa_cons pe_int pa_nil))) pe_int (nomark _)) pa_nil)) (by rfl))
      (pss_cons (ps_set (i := 5) sc_lrow.nd rfl (Or.inl rfl) pe_dnewK)
      (pss_cons (ps_for PassesOwn.never rfl (pi_range1 (by rfl) T.range (pa_cons (pe_cl c2 hr (by decide) (by rfl) (pa_cons (pv 0) (pa_cons (pe_op op_add (pv 1) pe_int) pa_nil))) pa_nil)) (pg_name (i := 6) sc_lrow.nd rfl (Or.inl rfl))
        (pss_cons (ps_set (i := 7) sc_lrow.nd rfl (Or.inl rfl) (pe_ifExp (pt_val (pv 4)) (pe_op op_add pe_int (pe_cl c2 hr (by decide) (by rfl) (pa_cons (pv 0) (pa_cons (pv 3) pa_nil)))) (pe_op op_sub (pe_cl c2 hr (by decide) (by rfl) (pa_cons (pv 0) (pa_cons (pe_op op_add (pe_op op_mul pe_int (pv 3)) pe_int) pa_nil))) (pv 3))))
        (pss_one (ps_dput hu (pv 5) (pe_op op_sub (pe_cl c2 hr (by decide) (by rfl) (pa_cons (pv 0) (pa_cons (pv 2) pa_nil))) (pe_op op_fdiv (pv 2) pe_int)) (pv 7) rfl))))
      (pss_one (ps_ret (pe_cl c3 hr (by decide) (by rfl) (pa_cons (pv 5) pa_nil))))))), ?_⟩
    refine ⟨_, rfl, _, rfl, _, _, rfl, rfl, _, rfl, _, _, rfl, rfl, _, rfl, _, _, rfl, rfl, .inl ⟨by decide, by decide⟩, _, _, rfl, rfl, _, _, rfl, rfl, ⟨by decide, by decide, by decide⟩, (by show 5 ≤ sizeLine; decide), fun l hl => ?_⟩
    refine ⟨pt, .ref l, rfl, hp.up hl, .inr ⟨l, _, rfl, by show 1 ≤ 5; decide, by show 5 ≤ 1000; decide, .inl ⟨upd_same, hp.ne hl⟩, fun y H1 hy f1' p1 => ?_⟩⟩
    obtain ⟨wd, hwd, rfl⟩ := mem_ints (is := [m + 1, m + 3, 2 * m + 5, 1000, 10 ^ (15 : Int).toNat]) hy
    have f1 := Fr.trans (Fr.of (same_upd hl)) f1'
    have bw : 1 ≤ wd ∧ wd ≤ 10 ^ 15 := by
      simp only [List.mem_cons, List.not_mem_nil, or_false] at hwd
      have e15 : ((10 : Int) ^ (15 : Int).toNat) = 1000000000000000 := by decide
      rcases hwd with q | q | q | q | q <;> omega
    refine ⟨_, rfl, _, _, rfl, rfl, ⟨by decide, by decide, by decide⟩, (by show 5 ≤ sizeLine; decide), fun l2 hl2 => ?_⟩
    refine ⟨pt, .ref l2, rfl, p1.up hl2, .inr ⟨l2, _, rfl, by show 1 ≤ 5; decide, by show 5 ≤ 1000; decide, .inl ⟨upd_same, p1.ne hl2⟩, fun y2 H2 hy2 f2' p2 => ?_⟩⟩
    obtain ⟨ld, hld, rfl⟩ := mem_ints (is := [1, 2, 3, 9, 10 ^ (12 : Int).toNat]) hy2
    have f2 := Fr.trans (Fr.of (same_upd hl2)) f2'
    have bl : 1 ≤ ld ∧ ld ≤ 10 ^ 12 := by
      simp only [List.mem_cons, List.not_mem_nil, or_false] at hld
      have e12 : ((10 : Int) ^ (12 : Int).toNat) = 1000000000000 := by decide
      rcases hld with q | q | q | q | q <;> omega
    refine ⟨_, rfl, pt, 3, rfl, p2, by decide, by decide, fun r3 H3 _ _ f3 p3 => ⟨rfl, _, _, rfl, fun d hd => ?_⟩⟩
    have f13 : Fr [pt] H H3 := Fr.trans f1 (Fr.trans f2 f3)
    have f4 : Fr [pt] H (upd H3 d (.dK [])) := Fr.new f13 hd
    have p4 : PotAt (upd H3 d (.dK [])) pt := p3.up hd
    have hd3 := hd
    refine ⟨_, rfl, _, rfl, _, _, rfl, rfl, pt, m + 1, rfl, p4, by omega, by omega, fun n H5 hn0 hn1 f5 p5 => ?_⟩
    have nd : d ≠ pt := p3.ne hd
    have hdH : ∀ b o, H b = some o → b ≠ d := fun b o e q => by
      obtain ⟨dd, ss, nn, ep, _⟩ := hp
      by_cases z : b = pt
      · exact nd (q.symm.trans z)
      · exact absurd (f13.keep b o e (fun z2 => z (List.mem_singleton.mp z2))) (by rw [q, hd3]; intro z3; cases z3)
    refine ⟨n, rfl, by omega, by omega, for_range (n := n.toNat) (fun i σ H' => ∃ v6 v7 kvs, σ = [some (.ref pt), some (.int m), some (.int wd), some (.int ld), some (.bl (decide (V.int r3 = V.int 0))), some (.ref d), v6, v7] ∧ H' d = some (.dK (enc kvs)) ∧ kvs.length ≤ i ∧ (kvs.map (·.1)).Nodup ∧ Bnd (10 ^ 15) (10 ^ 12) kvs ∧ Fr [pt] H H' ∧ PotAt H' pt) ?_ ?_ ?_⟩
    · exact ⟨none, none, [], rfl, f5.keep _ _ upd_same (fun q => nd (List.mem_singleton.mp q)), Nat.le_refl _, List.nodup_nil, Bnd.nil _ _, Fr.trans f4 f5, p5⟩
    · rintro i σ H6 hi ⟨v6, v7, kvs, rfl, hk, hlen, hnd, hb, f6, p6⟩
      have hu2 : (20 : Nat) < sizeLine := by decide
      have hdd : ∀ {H8 : Hp}, Fr [pt] H6 H8 → H8 d = some (.dK (enc kvs)) := fun f => f.keep _ _ hk (fun q => nd (List.mem_singleton.mp q))
      have fin : ∀ (z pl : Int) (H8 : Hp), z.natAbs ≤ 10 ^ 12 → pl.natAbs ≤ 10 ^ 15 → Fr [pt] H6 H8 → PotAt H8 pt → ∃ v6 v7 kvs', [some (V.ref pt), some (V.int m), some (V.int wd), some (V.int ld), some (.bl (decide (V.int r3 = V.int 0))), some (.ref d), some (.int (0 + (i : Nat))), some (.int z)] = [some (V.ref pt), some (V.int m), some (V.int wd), some (V.int ld), some (.bl (decide (V.int r3 = V.int 0))), some (.ref d), v6, v7] ∧
          (upd H8 d (.dK (putK (enc kvs) (Sum.inl pl) (.int z)))) d = some (.dK (enc kvs')) ∧ kvs'.length ≤ i + 1 ∧ (kvs'.map (·.1)).Nodup ∧ Bnd (10 ^ 15) (10 ^ 12) kvs' ∧ Fr [pt] H (upd H8 d (.dK (putK (enc kvs) (Sum.inl pl) (.int z)))) ∧ PotAt (upd H8 d (.dK (putK (enc kvs) (Sum.inl pl) (.int z)))) pt := by
        intro z pl H8 hz hpl f8 p8
        have st := stay_dK (o := .dK (putK (enc kvs) (Sum.inl pl) (.int z))) (hdd f8)
        refine ⟨_, _, putI kvs pl z, rfl, by rw [upd_same, enc_put], Nat.le_trans (putI_len _ _ _) (by omega), putI_nodup _ _ hnd, hb.put hpl hz, ⟨(Fr.trans f6 f8).stay.trans st, fun b o e n => ?_⟩, ?_⟩
        · rw [upd_ne (hdH b o e)]
          exact (Fr.trans f6 f8).keep b o e n
        · obtain ⟨dd, ss, nn, e, bb⟩ := p8
          exact ⟨dd, ss, nn, by rw [upd_ne (Ne.symm nd)]; exact e, bb⟩
      have w3 : 0 ≤ wd / 3 ∧ wd / 3 ≤ wd := by omega
      refine ⟨_, rfl, _, rfl, ite2 (fun hc => ?_) (fun hc => ?_)⟩
      · refine ⟨_, rfl, _, rfl, pt, ld, rfl, p6, by omega, by omega, fun r H7 r0 r1 f7 p7 => ⟨_, _, rfl, rfl, ?_⟩⟩
        refine ⟨_, rfl, _, rfl, _, rfl, _, rfl, pt, wd, rfl, p7, by omega, by omega, fun q H8 q0 q1 f8 p8 => ?_⟩
        refine ⟨_, rfl, _, _, rfl, rfl, ⟨by decide, by decide⟩, _, _, rfl, rfl, d, _, rfl, DPut.k (k := (Sum.inl (q - wd / 3) : Key)) (hdd (Fr.trans f7 f8)) (by rw [enc_len]; omega), ?_⟩
        exact fin _ _ H8 (by omega) (by omega) (Fr.trans f7 f8) p8
      · refine ⟨_, rfl, _, rfl, _, _, rfl, rfl, .inl ⟨by decide, by decide⟩, _, _, rfl, rfl, pt, 2 * ld + 1, rfl, p6, by omega, by omega, fun r H7 r0 r1 f7 p7 => ⟨_, rfl, _, _, rfl, rfl, ?_⟩⟩
        refine ⟨_, rfl, _, rfl, _, rfl, _, rfl, pt, wd, rfl, p7, by omega, by omega, fun q H8 q0 q1 f8 p8 => ?_⟩
        refine ⟨_, rfl, _, _, rfl, rfl, ⟨by decide, by decide⟩, _, _, rfl, rfl, d, _, rfl, DPut.k (k := (Sum.inl (q - wd / 3) : Key)) (hdd (Fr.trans f7 f8)) (by rw [enc_len]; omega), ?_⟩
        exact fin _ _ H8 (by omega) (by omega) (Fr.trans f7 f8) p8
    · rintro σ H6 ⟨v6, v7, kvs, rfl, hk, hlen, hnd, hb, f6, p6⟩
      refine ⟨_, rfl, d, kvs, rfl, hk, by omega, fun p H7 s7 hp7 => ?_⟩
      exact k p _ H7 (Fr.trans f6 (Fr.of s7)) (p6.same s7) hp7 (pack_ok hnd) (Nat.le_trans (pack_len kvs) (by omega)) hb.pack
end
end Sg
/-! ## SgE3 -/
namespace Sg
open PySem PySem.Spec PyProof.Rows L2
/-- a place and a weight that an entry may be given -/
structure Wt (r : Row) (p w : Int) : Prop where
  ne : w ≠ 0
  at' : p ∈ r.map (·.1) ∨ r.length < 20
  num : ∀ P W, 100 ≤ P → Bnd P W r → p.natAbs ≤ P ∧ ((lookI r p).getD 0 + w).natAbs ≤ W + 10 ^ 14
theorem wt_neg {r : Row} (h : RowOk r) {q : Int × Int} (hq : q ∈ r) : Wt r q.1 (0 - q.2) := by
  have e := lookI_of_mem (asc_nodup h.asc) hq
  refine ⟨?_, .inl (List.mem_map_of_mem hq), fun P W hP hb => ⟨(hb q hq).1, ?_⟩⟩
  · have := h.nz q hq
    omega
  · rw [e]
    show (q.2 + (0 - q.2)).natAbs ≤ _
    omega
theorem wt_key {r : Row} {q : Int × Int} (hq : q ∈ r) {k : Int} (h0 : k ≠ 0) (hk : k.natAbs ≤ 10 ^ 14) : Wt r q.1 k := by
  refine ⟨h0, .inl (List.mem_map_of_mem hq), fun P W hP hb => ⟨(hb q hq).1, ?_⟩⟩
  have := hb.look q.1
  omega
theorem wt_new {r : Row} (hl : r.length < 20) {p k : Int} (h0 : k ≠ 0) (hp : p.natAbs ≤ 100) (hk : k.natAbs ≤ 10 ^ 14) : Wt r p k := by
  refine ⟨h0, .inr hl, fun P W hP hb => ⟨by omega, ?_⟩⟩
  have := hb.look p
  omega
theorem eqv_nil : PyData.eqv (rowD []) (.tuple []) = true := by
  have := rowD_refl []
  exact this
theorem eqv_cons (p : Int × Int) (r : Row) : PyData.eqv (rowD (p :: r)) (.tuple []) = false := by
  simp [rowD, PyData.eqv, PyData.eqvAll]
theorem nil_dp {K : PySem.W.Frag} {H : Hp} {a : Addr} (h : H a = some (.tup [])) : Dp K H (.ref a) (.tuple []) := .tup (SqT.of h) .nil
theorem nil_shaped : SeqAt.shaped (.tuple []) = true := rowD_shaped []
theorem Paired.mem' {α β : Type} {F : α → β → Prop} {l₁ : List α} {l₂ : List β} {x : α} (h : Paired F l₁ l₂) (hx : x ∈ l₁) : ∃ y, y ∈ l₂ ∧ F x y := by
  obtain ⟨i, hi⟩ := List.mem_iff_getElem?.mp hx
  obtain ⟨y, hy, hf⟩ := Paired.get' h hi
  exact ⟨y, List.mem_of_getElem? hy, hf⟩
section
variable {P : Program} {w : World} {K : PySem.W.Frag} {mg : Str → Option Value} {base : Heap} {C : Addr}
def spWt (K : PySem.W.Frag) : Sp := fun vs H Q _ => ∃ (pt a : Addr) (r : Row), vs = [.ref pt, .ref a] ∧ PotAt H pt ∧ RowT K H a r ∧ RowOk r ∧ r.length ≤ 20 ∧ ∀ t p w H', Fr [pt] H H' → PotAt H' pt → H' t = some (.tup [.int p, .int w]) → Wt r p w → Q (.ref t) H'
abbrev tPow (K : PySem.W.Frag) (n : Int) : TE := tOp (rI CPow fun i j => .int (i ^ j.toNat)) (tC (.int 10)) (tC (.int n))
abbrev tSb (n : Int) : TE := tOp (rI0 fun i j => .int (i - j)) (tC (.int 0)) (tC (.int n))
abbrev tPk (K : PySem.W.Frag) (ts : TA) : TE := tCl (spPick K) (tCons (tVar 0) (tCons (tLst ts) tNil))
abbrev tWt2 (K : PySem.W.Frag) : TS := tRet (tTup (tCons (tOp (rI0 fun i j => .int (i - j)) (tCl spDraw (tCons (tVar 0) (tCons (tPk K (tCons (tC (.int 9)) (tCons (tC (.int 70)) tNil))) tNil))) (tC (.int 4)))
  (tCons (tPk K (tCons (tC (.int 1)) (tCons (tC (.int 1)) (tCons (tC (.int 2)) (tCons (tSb 1) (tCons (tSb 3) (tCons (tPow K 14) tNil))))))) tNil)))
theorem read_wt2 {H : Hp} {Q : VK} {pt a : Addr} {r : Row} (hp : PotAt H pt) (hl : r.length < 20) (k : ∀ t p w H', Fr [pt] H H' → PotAt H' pt → H' t = some (.tup [.int p, .int w]) → Wt r p w → Q (.ref t) H') {D : Ends} (hD : D.rt = Q) : tWt2 K D [some (.ref pt), some (.ref a), none, none] H := by
  refine ⟨_, rfl, _, rfl, (by show 2 ≤ sizeLine; decide), fun l hl1 => ?_⟩
  refine ⟨pt, .ref l, rfl, hp.up hl1, .inr ⟨l, _, rfl, by show 1 ≤ 2; decide, by show 2 ≤ 1000; decide, .inl ⟨upd_same, hp.ne hl1⟩, fun y H1 hy f1' p1 => ?_⟩⟩
  obtain ⟨m, hm, rfl⟩ := mem_ints (is := [9, 70]) hy
  have f1 := Fr.trans (Fr.of (same_upd hl1)) f1'
  have bm : 0 < m ∧ m ≤ 70 := by
    simp only [List.mem_cons, List.not_mem_nil, or_false] at hm
    rcases hm with q | q <;> omega
  refine ⟨pt, m, rfl, p1, bm.1, by omega, fun z H2 z0 z1 f2 p2 => ⟨_, _, rfl, rfl, ?_⟩⟩
  refine ⟨_, rfl, _, _, rfl, rfl, _, _, rfl, rfl, _, _, rfl, rfl, ⟨by decide, by decide, by decide⟩, (by show 6 ≤ sizeLine; decide), fun l2 hl2 => ?_⟩
  refine ⟨pt, .ref l2, rfl, p2.up hl2, .inr ⟨l2, _, rfl, by show 1 ≤ 6; decide, by show 6 ≤ 1000; decide, .inl ⟨upd_same, p2.ne hl2⟩, fun y2 H3 hy2 f3' p3 => ?_⟩⟩
  obtain ⟨v, hv, rfl⟩ := mem_ints (is := [1, 1, 2, 0 - 1, 0 - 3, 10 ^ (14 : Int).toNat]) hy2
  have f3 := Fr.trans (Fr.of (same_upd hl2)) f3'
  have bv : v ≠ 0 ∧ v.natAbs ≤ 10 ^ 14 := by
    have e14 : ((10 : Int) ^ (14 : Int).toNat) = 100000000000000 := by decide
    simp only [List.mem_cons, List.not_mem_nil, or_false] at hv
    rcases hv with q | q | q | q | q | q <;> omega
  refine ⟨(by show 2 ≤ sizeLine; decide), fun t ht => ?_⟩
  rw [hD]
  exact k t (z - 4) v _ (Fr.new (Fr.trans f1 (Fr.trans f2 f3)) ht) (p3.up ht) upd_same (wt_new hl bv.1 (by omega) bv.2)
abbrev tWt1 (K : PySem.W.Frag) : TS := tSeq (tAsg (tCl (spPick K) (tCons (tVar 0) (tCons (tVar 1) tNil))) (gTup K 2 (gCons (gName 2) (gCons (gName 3) gNil))))
  (tRet (tTup (tCons (tVar 2) (tCons (tIf (tTest (tOp rEq (tCl spDraw (tCons (tVar 0) (tCons (tC (.int 3)) tNil))) (tC (.int 0)))) (tOp (rI0 fun i j => .int (i - j)) (tC (.int 0)) (tVar 3))
    (tPk K (tCons (tC (.int 1)) (tCons (tC (.int 2)) (tCons (tSb 7) (tCons (tPow K 9) (tCons (tSb 1) tNil))))))) tNil))))
theorem read_wt1 {H : Hp} {Q : VK} {pt a : Addr} {r : Row} (hp : PotAt H pt) (ha : RowT K H a r) (hok : RowOk r) (hl : r.length ≤ 20) (hne : r ≠ []) (k : ∀ t p w H', Fr [pt] H H' → PotAt H' pt → H' t = some (.tup [.int p, .int w]) → Wt r p w → Q (.ref t) H') {D : Ends} (hD : D.rt = Q) : tWt1 K D [some (.ref pt), some (.ref a), none, none] H := by
  obtain ⟨us, hus, hpu⟩ := ha.ex
  have lu := Paired.len hpu
  have l1 : 1 ≤ us.length := by
    rw [lu]
    cases r with
    | nil => exact absurd rfl hne
    | cons _ _ => exact Nat.succ_le_succ (Nat.zero_le _)
  refine ⟨_, rfl, _, rfl, pt, .ref a, rfl, hp, .inr ⟨a, us, rfl, l1, by omega, .inr hus, fun y H1 hy f1 p1 => ?_⟩⟩
  obtain ⟨q, hq, t, rfl, ht⟩ := Paired.mem' hpu hy
  have ht1 := f1.stay _ _ ht (.inl ⟨_, rfl⟩)
  refine ⟨t, _, rfl, .of ht1, rfl, _, _, rfl, _, _, rfl, rfl, ?_⟩
  refine ⟨_, rfl, _, rfl, pt, 3, rfl, p1, by decide, by decide, fun z H2 z0 z1 f2 p2 => ⟨rfl, _, rfl, ite2 (fun hc => ?_) (fun hc => ?_)⟩⟩
  · refine ⟨_, rfl, _, _, rfl, rfl, (by show 2 ≤ sizeLine; decide), fun u hu => ?_⟩
    rw [hD]
    exact k u q.1 (0 - q.2) _ (Fr.new (Fr.trans f1 f2) hu) (p2.up hu) upd_same (wt_neg hok hq)
  · refine ⟨_, rfl, _, _, rfl, rfl, _, _, rfl, rfl, ⟨by decide, by decide, by decide⟩, _, _, rfl, rfl, (by show 5 ≤ sizeLine; decide), fun l2 hl2 => ?_⟩
    refine ⟨pt, .ref l2, rfl, p2.up hl2, .inr ⟨l2, _, rfl, by show 1 ≤ 5; decide, by show 5 ≤ 1000; decide, .inl ⟨upd_same, p2.ne hl2⟩, fun y2 H3 hy2 f3' p3 => ?_⟩⟩
    obtain ⟨v, hv, rfl⟩ := mem_ints (is := [1, 2, 0 - 7, 10 ^ (9 : Int).toNat, 0 - 1]) hy2
    have f3 := Fr.trans (Fr.of (same_upd hl2)) f3'
    have bv : v ≠ 0 ∧ v.natAbs ≤ 10 ^ 14 := by
      have e9 : ((10 : Int) ^ (9 : Int).toNat) = 1000000000 := by decide
      simp only [List.mem_cons, List.not_mem_nil, or_false] at hv
      rcases hv with q | q | q | q | q <;> omega
    refine ⟨(by show 2 ≤ sizeLine; decide), fun u hu => ?_⟩
    rw [hD]
    exact k u q.1 v _ (Fr.new (Fr.trans f1 (Fr.trans f2 f3)) hu) (p3.up hu) upd_same (wt_key hq bv.1 bv.2)
theorem sc_lwt : FnScope ["_law_pot_here", "_law_row_here", "_law_at", "_law_weight_here"] ["_law_pot_here", "_law_row_here"] (defScope s__law_weight) := ⟨rfl, rfl, rfl, by decide +kernel, rfl, by decide +kernel, by decide +kernel⟩
theorem ok_lwt (D : Df K mg "_law_weight" s__law_weight) (T : Free mg) (c1 : Cl P w K mg base 2 "_law_pick" ["_law_pot_here", "_law_some"] (spPick K)) (c2 : Cl P w K mg base 1 "_law_draw" ["_law_pot_here", "_law_many"] spDraw) :
    Cl P w K mg base 3 "_law_weight" ["_law_pot_here", "_law_row_here"] (spWt K) := by
  refine D.cl sc_lwt (fun vs H Q E h => ?_) (fun _ _ _ _ _ _ us hl => match us, hl with | [_, _], _ => rfl) (fun f cdv A outer s H vs Q E hr h => ?_)
  · obtain ⟨pt, a, r, rfl, _⟩ := h
    rfl
  · obtain ⟨pt, a, r, rfl, hp, ha, hok, hl, k⟩ := h
    obtain ⟨us, hus, hpu⟩ := ha.ex
    have lu := Paired.len hpu
    refine ⟨_, pss_cons (ps_if (PW.pt (pw_and (pt_cmpR (op_neD hr.units) (pv 1) (pe_tup pa_nil) (nomark _)) (pw_and1 (PW.pt (pw_or (pt_cmpR op_eq (pe_cl c2 hr (by decide) (by rfl) (pa_cons (pv 0) (pa_cons pe_int pa_nil))) pe_int (nomark _))
        (pw_or1 (pt_cmpR op_eq (pe_callB call_len_seq (by rfl) T.len boot_len (pa_cons (pv 1) pa_nil)) pe_int (nomark _))))))))
      (pss_cons (ps_asg (pe_cl c1 hr (by decide) (by rfl) (pa_cons (pv 0) (pa_cons (pv 1) pa_nil))) (pg_tup (by rfl) (pgs_cons (pg_name (i := 2) sc_lwt.nd rfl (Or.inl rfl)) (pgs_cons (pg_name (i := 3) sc_lwt.nd rfl (Or.inl rfl)) pgs_nil))))
      (pss_one (ps_ret (pe_tup (pa_cons (pv 2) (pa_cons (pe_ifExp (pt_cmpR op_eq (pe_cl c2 hr (by decide) (by rfl) (pa_cons (pv 0) (pa_cons pe_int pa_nil))) pe_int (nomark _)) (pe_op op_sub pe_int (pv 3))
        (pe_cl c1 hr (by decide) (by rfl) (pa_cons (pv 0) (pa_cons (pe_lst (pa_cons pe_int (pa_cons pe_int (pa_cons (pe_op op_sub pe_int pe_int) (pa_cons (pe_op op_pow pe_int pe_int) (pa_cons (pe_op op_sub pe_int pe_int) pa_nil)))))) pa_nil)))) pa_nil)))))) pss_nil)
      (pss_one (ps_ret (pe_tup (pa_cons (pe_op op_sub (pe_cl c2 hr (by decide) (by rfl) (pa_cons (pv 0) (pa_cons (pe_cl c1 hr (by decide) (by rfl) (pa_cons (pv 0) (pa_cons (pe_lst (pa_cons pe_int (pa_cons pe_int pa_nil))) pa_nil))) pa_nil))) pe_int)
        (pa_cons (pe_cl c1 hr (by decide) (by rfl) (pa_cons (pv 0) (pa_cons (pe_lst (pa_cons pe_int (pa_cons pe_int (pa_cons pe_int (pa_cons (pe_op op_sub pe_int pe_int) (pa_cons (pe_op op_sub pe_int pe_int) (pa_cons (pe_op op_pow pe_int pe_int) pa_nil))))))) pa_nil))) pa_nil))))), ?_⟩
    have two : ∀ H1, Fr [pt] H H1 → PotAt H1 pt → r.length < 20 → tWt2 K { nx := fun _ H' => Q .non H', rt := Q } [some (.ref pt), some (.ref a), none, none] H1 := fun H1 f1 p1 h20 => read_wt2 p1 h20 (fun t p w H' f' p' e' wt => k t p w H' (Fr.trans f1 f') p' e' wt) rfl
    refine ⟨_, rfl, Nat.zero_le _, fun e he => ?_⟩
    have p1 := hp.up (o := .tup []) he
    have f1 : Fr [pt] H (upd H e (.tup [])) := Fr.of (same_upd he)
    have ha1 := ha.stay f1.stay
    refine ⟨rowD r, .tuple [], ha1.dp, nil_dp upd_same, rowD_shaped r, nil_shaped, _, rfl, ?_⟩
    have h3 : ∀ H3, Fr [pt] H H3 → PotAt H3 pt → r ≠ [] → tWt1 K { nx := fun _ H' => Q .non H', rt := Q } [some (.ref pt), some (.ref a), none, none] H3 := fun H3 f3 p3 hne => read_wt1 p3 (ha.stay f3.stay) hok hl hne (fun t p w H' f' p' e' wt => k t p w H' (Fr.trans f3 f') p' e' wt) rfl
    cases r with
    | nil =>
      rw [eqv_nil]
      exact ifF rfl (two _ f1 p1 (by show 0 < 20; decide))
    | cons q0 r0 =>
      rw [eqv_cons]
      refine ifT rfl ?_
      refine ⟨_, rfl, pt, 2, rfl, p1, by decide, by decide, fun d H2 _ _ f2 p2 => ⟨rfl, _, rfl, ite2 (fun hc => ?_) (fun hc => ?_)⟩⟩
      · exact h3 H2 (Fr.trans f1 f2) p2 (List.cons_ne_nil _ _)
      · refine ⟨_, rfl, a, us, rfl, .inr ((ha1.stay f2.stay).ex.elim fun _ _ => f2.stay.tup (f1.stay.tup hus)), rfl, _, rfl, ite2 (fun hc2 => ?_) (fun hc2 => ?_)⟩
        · exact h3 H2 (Fr.trans f1 f2) p2 (List.cons_ne_nil _ _)
        · refine two H2 (Fr.trans f1 f2) p2 ?_
          have : ¬ us.length = 20 := fun z => hc2 (decide_eq_true (by rw [z]; rfl))
          omega
end
end Sg
/-! ## SgN -/
namespace Sg
open PySem PySem.Spec PyProof.Rows L2
/-! ### names as texts -/
abbrev sg1 (c : Nat) : Str := ⟨#[c]⟩
theorem joinL_ones : ∀ cs : List Nat, TL.joinL [] (cs.map fun c => [c]) = cs
  | [] => rfl
  | [c] => rfl
  | c :: d :: r => by
    show [c] ++ ([] ++ TL.joinL [] ((d :: r).map fun c => [c])) = _
    rw [joinL_ones (d :: r)]
    rfl
theorem join_ones (cs : List Nat) : Txt.join (SX.S []) (cs.map sg1) = SX.S cs := by
  have e : cs.map sg1 = (cs.map fun c => [c]).map SX.S := by
    rw [List.map_map]
    rfl
  rw [e, SX.join_S, joinL_ones]
theorem ones_sum : ∀ cs : List Nat, ((cs.map sg1).map (·.length)).sum = cs.length
  | [] => rfl
  | c :: r => by
    rw [List.map_cons, List.map_cons, List.sum_cons, ones_sum r, List.length_cons]
    show 1 + r.length = _
    omega
theorem name_of {cs : List Nat} (h1 : 1 ≤ cs.length) (h2 : cs.length ≤ 8) (h : ∀ c ∈ cs, c ∈ abc.cps.toList) : NameOk (SX.S cs) :=
  ⟨by rw [SX.S_len]; exact h1, by rw [SX.S_len]; exact h2, fun c hc => h c hc⟩
/-- a name with another letter at one place -/
def nm (z : Str) (k : Nat) (c : Nat) : Str := cutS z none (some (k : Int)) ++ sg1 c ++ cutS z (some ((k + 1 : Nat) : Int)) none
theorem cut_lo (z : Str) (k : Nat) : (cutS z none (some (k : Int))).cps.toList = z.cps.toList.take k := by
  have hl : z.cps.toList.length = z.length := Array.length_toList
  show ((z.cps.toList.drop 0).take (HT.sIx z.length z.length (some (k : Int)) - 0)) = _
  rw [HT.sIx_nat, List.drop_zero, Nat.sub_zero]
  by_cases q : k ≤ z.length
  · rw [Nat.min_eq_left q]
  · rw [Nat.min_eq_right (by omega), List.take_of_length_le (by omega), List.take_of_length_le (by omega)]
theorem cut_hi (z : Str) (k : Nat) : (cutS z (some (k : Int)) none).cps.toList = z.cps.toList.drop k := by
  have hl : z.cps.toList.length = z.length := Array.length_toList
  show ((z.cps.toList.drop (HT.sIx z.length 0 (some (k : Int)))).take (z.length - HT.sIx z.length 0 (some (k : Int)))) = _
  rw [HT.sIx_nat]
  by_cases q : k ≤ z.length
  · rw [Nat.min_eq_left q, List.take_of_length_le (by rw [List.length_drop]; omega)]
  · rw [Nat.min_eq_right (by omega), List.drop_of_length_le (by omega), List.drop_of_length_le (by omega), List.take_nil]
theorem nm_tl (z : Str) (k c : Nat) : (nm z k c).cps.toList = z.cps.toList.take k ++ c :: z.cps.toList.drop (k + 1) := by
  unfold nm
  rw [Str.cps_append, Str.cps_append, Array.toList_append, Array.toList_append, cut_lo, cut_hi, List.append_assoc]
  rfl
theorem nm_inj {z : Str} {k c d : Nat} (h : nm z k c = nm z k d) : c = d := by
  have e : (nm z k c).cps.toList = (nm z k d).cps.toList := by rw [h]
  rw [nm_tl, nm_tl] at e
  exact (List.cons.inj (List.append_cancel_left e)).1
theorem nm_ok {z : Str} (hz : NameOk z) {k c : Nat} (hk : k < z.length) (hc : c ∈ abc.cps.toList) : NameOk (nm z k c) := by
  have e := nm_tl z k c
  have hl : z.cps.toList.length = z.length := Array.length_toList
  have hl2 : (nm z k c).cps.toList.length = (nm z k c).length := Array.length_toList
  have hz1 := hz.lo
  have hz2 := hz.hi
  have hlen : (nm z k c).length = z.length := by
    rw [← hl2, e, List.length_append, List.length_cons, List.length_take, List.length_drop, hl]
    omega
  refine ⟨by omega, by omega, fun x hx => ?_⟩
  rw [e] at hx
  rcases List.mem_append.mp hx with q | q
  · exact hz.az x (List.mem_of_mem_take q)
  · rcases List.mem_cons.mp q with q | q
    · rw [q]; exact hc
    · exact hz.az x (List.mem_of_mem_drop q)
theorem pigeon {α : Type} [DecidableEq α] : ∀ {L M : List α}, L.Nodup → (∀ x ∈ L, x ∈ M) → L.length ≤ M.length
  | [], _, _, _ => Nat.zero_le _
  | x :: L, M, hn, h => by
    obtain ⟨h1, h2⟩ := List.nodup_cons.mp hn
    have hx := h x List.mem_cons_self
    have ih := pigeon (M := M.erase x) h2 fun y hy => by
      have ne : y ≠ x := fun q => h1 (q ▸ hy)
      exact (List.mem_erase_of_ne ne).mpr (h y (List.mem_cons_of_mem _ hy))
    have := List.length_erase_of_mem hx
    have pos : 0 < M.length := List.length_pos_of_mem hx
    rw [List.length_cons]
    omega
theorem abc_nodup : abc.cps.toList.Nodup := by decide +kernel
theorem abc_len : abc.cps.toList.length = 26 := by decide +kernel
theorem map_nodup {α β : Type} {f : α → β} (hf : ∀ a b, f a = f b → a = b) : ∀ {l : List α}, l.Nodup → (l.map f).Nodup
  | [], _ => List.nodup_nil
  | a :: l, h => by
    obtain ⟨h1, h2⟩ := List.nodup_cons.mp h
    rw [List.map_cons]
    refine List.nodup_cons.mpr ⟨fun q => ?_, map_nodup hf h2⟩
    obtain ⟨b, hb, e⟩ := List.mem_map.mp q
    exact h1 (hf _ _ e ▸ hb)
theorem inV_str (a : Str) : ∀ zs : List Str, inV (.str a) (zs.map V.str) = true ↔ a ∈ zs
  | [] => ⟨(fun h => by cases h), (fun h => by cases h)⟩
  | z :: zs => by
    have ih := inV_str a zs
    unfold inV at ih ⊢
    rw [List.map_cons, List.any_cons, Bool.or_eq_true, ih, List.mem_cons]
    have e : eqV (.str z) (.str a) = true ↔ a = z := by
      show (z == a) = true ↔ a = z
      rw [beq_iff_eq]
      exact ⟨Eq.symm, Eq.symm⟩
    rw [e]
theorem strs_flat : ∀ zs : List Str, (zs.map V.str).all flatV = true
  | [] => rfl
  | z :: zs => by
    rw [List.map_cons, List.all_cons, strs_flat zs]
    rfl
/-- there is a name that is not found yet -/
theorem spare_pos {z : Str} {k : Nat} {zs : List Str} (h : zs.length ≤ 4) : 1 ≤ ((abc.cps.toList.map (nm z k)).filter fun a => !inV (.str a) (zs.map V.str)).length := by
  apply Nat.pos_of_ne_zero
  intro e
  have hn : (abc.cps.toList.map (nm z k)).Nodup := map_nodup (fun _ _ q => nm_inj q) abc_nodup
  have hsub : ∀ x ∈ abc.cps.toList.map (nm z k), x ∈ zs := fun x hx => by
    by_cases q : x ∈ zs
    · exact q
    · have hf : x ∈ (abc.cps.toList.map (nm z k)).filter fun a => !inV (.str a) (zs.map V.str) := by
        refine List.mem_filter.mpr ⟨hx, ?_⟩
        cases b : inV (.str x) (zs.map V.str) with
        | true => exact absurd ((inV_str x zs).mp b) q
        | false => rfl
      rw [List.length_eq_zero_iff.mp e] at hf
      cases hf
  have := pigeon hn hsub
  rw [List.length_map, abc_len] at this
  omega
end Sg
/-! ## SgE4 -/
namespace Sg
open PySem PySem.Spec PyProof.Rows L2
theorem Fr.drop {W V : List Addr} {H0 H H' : Hp} (a : Fr W H0 H) (b : Fr V H H') (h : ∀ x ∈ V, x ∈ W ∨ H0 x = none) : Fr W H0 H' := ⟨a.stay.trans b.stay, fun c o e n => b.keep c o (a.keep c o e n) fun q => by
  rcases h c q with z | z
  · exact n z
  · rw [z] at e
    cases e⟩
theorem Fr.none {pt D : Addr} {H H' : Hp} (f : Fr [pt] H H') (p : PotAt H' pt) (h : H' D = none) : H D = none := by
  obtain ⟨d, s, n, e, _⟩ := p
  cases q : H D with
  | none => rfl
  | some o =>
    by_cases z : D = pt
    · rw [z, e] at h
      cases h
    · rw [f.keep D o q (fun y => z (List.mem_singleton.mp y))] at h
      cases h
abbrev rAddI : R2 := rI0 fun i j => .int (i + j)
abbrev rSubI : R2 := rI0 fun i j => .int (i - j)
abbrev tDr (t : TE) : TE := tCl spDraw (tCons (tVar 0) (tCons t tNil))
abbrev tWordL (K : PySem.W.Frag) (j : Nat) : TE := tLc (iRng1 (tCons (tOp rAddI (tC (.int 1)) (tDr (tC (.int 8)))) tNil)) (gName j) tYes (tCl (spPick K) (tCons (tVar 0) (tCons (tVar 2) tNil))) [j]
theorem read_word {K : PySem.W.Frag} {σ : L2.St} {H : Hp} {Q : VK} {j : Nat} {pt : Addr} (h0 : σ[0]? = some (some (.ref pt))) (h1 : ∀ x : V, ((wipe σ [j]).set j (some x))[0]? = some (some (.ref pt)) ∧ ((wipe σ [j]).set j (some x))[2]? = some (some (.str abc)) ∧ wipe ((wipe σ [j]).set j (some x)) [j] = wipe σ [j]) (hp : PotAt H pt)
    (k : ∀ (D : Addr) (cs : List Nat) H', 1 ≤ cs.length → cs.length ≤ 8 → (∀ c ∈ cs, c ∈ abc.cps.toList) → Fr [pt] H H' → PotAt H' pt → H' D = some (.lst ((cs.map sg1).map V.str)) → Q (.ref D) H') : tWordL K j σ H Q := by
  refine ⟨_, h0, pt, 8, rfl, hp, by decide, by decide, fun r H1 r0 r1 f1 p1 => ⟨_, _, rfl, rfl, ?_⟩⟩
  refine ⟨_, rfl, by omega, by omega, fun D hD => ?_⟩
  have nD := p1.ne hD
  have hD0 : H D = none := f1.none p1 hD
  have hz : (8 : Nat) < sizeLine := by decide
  refine lc_range (n := (1 + r).toNat) (fun i H' => ∃ cs : List Nat, H' D = some (.lst ((cs.map sg1).map V.str)) ∧ cs.length = i ∧ (∀ c ∈ cs, c ∈ abc.cps.toList) ∧ Fr [pt] H H' ∧ PotAt H' pt) ?_ ?_ ?_
  · exact ⟨[], upd_same, rfl, (fun c hc => nomatch hc), Fr.new f1 hD, p1.up hD⟩
  · rintro i H2 hi ⟨cs, hacc, hlen, hcs, f2, p2⟩
    obtain ⟨g1, g2, g3⟩ := h1 (.int (0 + (i : Nat)))
    refine ⟨g3, ?_⟩
    dsimp only [tYes]
    rw [if_pos rfl]
    refine ⟨_, g1, _, g2, pt, .str abc, rfl, p2, .inl ⟨abc, rfl, by decide +kernel, by decide +kernel, fun c H3 hc f3 p3 => ?_⟩⟩
    have hacc3 := f3.keep _ _ hacc (fun q => nD (List.mem_singleton.mp q))
    refine ⟨_, hacc3, ?_, cs ++ [c], ?_, ?_, ?_, Fr.own (Fr.trans f2 f3) hD0 (stay_lst hacc3), ?_⟩
    · rw [List.length_map, List.length_map]
      omega
    · rw [upd_same, List.map_append, List.map_append]
      rfl
    · rw [List.length_append, List.length_singleton, hlen]
    · intro x hx
      rcases List.mem_append.mp hx with q | q
      · exact hcs x q
      · rw [List.mem_singleton.mp q]; exact hc
    · obtain ⟨d, s, n, e, b⟩ := p3
      exact ⟨d, s, n, by rw [upd_ne (Ne.symm nD)]; exact e, b⟩
  · rintro H2 ⟨cs, hacc, hlen, hcs, f2, p2⟩
    exact k D cs H2 (by omega) (by omega) hcs f2 p2 hacc
abbrev rLenS : List V → Hp → VK → Prop := fun xs H Q => ∃ z, xs = [.str z] ∧ z.length ≤ sizeLine ∧ Q (.int z.length) H
abbrev rAdS : R2 := fun x y H Q => ∃ i j, x = .str i ∧ y = .str j ∧ i.length + j.length ≤ sizeLine ∧ Q (.str (i ++ j)) H
abbrev tSp1 : TE := tLc (iStr (tVar 2)) (gName 8) tYes (tOp rAdS (tOp rAdS (tSl rSlS (tVar 4) tNoPart (tPart (tVar 6))) (tVar 8)) (tSl rSlS (tVar 4) (tPart (tOp rAddI (tVar 6) (tC (.int 1)))) tNoPart)) [8]
abbrev tSp2 (K : PySem.W.Frag) : TE := tLc (iList K (tVar 7)) (gName 8) (tTest (tOp (rIn K true) (tVar 8) (tVar 3))) (tVar 8) [8]
abbrev tNmR (K : PySem.W.Frag) : TS := tSeq (tAsg (tDr (tCB rLenS (tCons (tVar 4) tNil))) (gName 6)) (tSeq (tAsg tSp1 (gName 7)) (tSeq (tAsg (tSp2 K) (gName 7)) (tDrop (tBM K "list" rAppend (tVar 3) (tCons (tCl (spPick K) (tCons (tVar 0) (tCons (tVar 7) tNil))) tNil)))))
theorem cut_len_lo (z : Str) (k : Nat) : (cutS z none (some (k : Int))).length ≤ z.length := by
  have e := congrArg List.length (cut_lo z k)
  have hl : z.cps.toList.length = z.length := Array.length_toList
  have hl2 : (cutS z none (some (k : Int))).cps.toList.length = (cutS z none (some (k : Int))).length := Array.length_toList
  rw [hl2, List.length_take, hl] at e
  omega
theorem cut_len_hi (z : Str) (k : Nat) : (cutS z (some (k : Int)) none).length ≤ z.length := by
  have e := congrArg List.length (cut_hi z k)
  have hl : z.cps.toList.length = z.length := Array.length_toList
  have hl2 : (cutS z (some (k : Int)) none).cps.toList.length = (cutS z (some (k : Int)) none).length := Array.length_toList
  rw [hl2, List.length_drop, hl] at e
  omega
theorem read_nmr {K : PySem.W.Frag} {H : Hp} {D : Ends} {pt fl : Addr} {z : Str} {zs : List Str} {v5 v6 v7 v8 v9 : Option V} (hp : PotAt H pt) (hf : H fl = some (.lst (zs.map V.str))) (nf : fl ≠ pt) (hl : zs.length ≤ 4) (hz : NameOk z)
    (k : ∀ y v6 v7 H', NameOk y → Fr [pt, fl] H H' → PotAt H' pt → H' fl = some (.lst ((zs ++ [y]).map V.str)) → D.nx [some (.ref pt), some (.int 5), some (.str abc), some (.ref fl), some (.str z), v5, v6, v7, v8, v9] H') :
    tNmR K D [some (.ref pt), some (.int 5), some (.str abc), some (.ref fl), some (.str z), v5, v6, v7, v8, v9] H := by
  have hlo := hz.lo
  have hhi := hz.hi
  have hsz : (1000 : Nat) < sizeLine := by decide
  refine ⟨_, rfl, _, rfl, z, rfl, by omega, pt, _, rfl, hp, by omega, by omega, fun r H1 r0 r1 f1 p1 => ?_⟩
  obtain ⟨a, rfl⟩ := Int.eq_ofNat_of_zero_le r0
  have ha : a < z.length := by omega
  have hf1 := f1.keep _ _ hf (fun q => nf (List.mem_singleton.mp q))
  refine ⟨_, rfl, abc, rfl, fun L hL => ?_⟩
  refine lc_it (walk_str (z := abc)) (fun i H' => H' L = some (.lst (((abc.cps.toList.take i).map (nm z a)).map V.str)) ∧ Same H1 H') ⟨upd_same, same_upd hL⟩ (fun _ _ _ _ => trivial) ?_ ?_
  · rintro i x H2 H3 hi ⟨hacc, hs⟩ ⟨rfl, c, hc, rfl⟩
    refine ⟨rfl, ?_⟩
    dsimp only [tYes]
    rw [if_pos rfl]
    have c1 := cut_len_lo z a
    have c2 := cut_len_hi z (a + 1)
    have l1 : (cutS z none (some (a : Int)) ++ sg1 c).length = (cutS z none (some (a : Int))).length + 1 := Str.length_append _ _
    refine ⟨_, rfl, _, rfl, _, rfl, z, rfl, by omega, _, rfl, _, _, rfl, rfl, by show (cutS z none (some (a : Int))).length + 1 ≤ sizeLine; omega, ?_⟩
    refine ⟨_, rfl, _, rfl, _, _, rfl, rfl, _, rfl, z, rfl, by omega, _, _, rfl, rfl, by show (cutS z none (some (a : Int)) ++ sg1 c).length + (cutS z (some ((a + 1 : Nat) : Int)) none).length ≤ sizeLine; omega, ?_⟩
    have hcl : abc.cps.toList[i]? = some c := by rw [Array.getElem?_toList]; exact hc
    refine ⟨_, hacc, ?_, ?_, fun b o e => ?_⟩
    · rw [List.length_map, List.length_map, List.length_take, abc_len]
      omega
    · rw [upd_same, List.take_add_one, hcl, List.map_append, List.map_append]
      rfl
    · rw [upd_ne (ne_of_none e hL)]
      exact hs _ _ e
  · rintro H2 ⟨hacc, hs⟩
    have e26 : abc.cps.toList.take abc.cps.size = abc.cps.toList := List.take_of_length_le (Nat.le_of_eq Array.length_toList)
    rw [e26] at hacc
    have p2 := p1.same hs
    have hf2 := hs _ _ hf1
    refine ⟨_, rfl, L, rfl, ⟨_, SqL.of hacc⟩, fun M hM => ?_⟩
    refine lc_list (K := K) (a := L) (xs := (abc.cps.toList.map (nm z a)).map V.str) (fun i H' => H' M = some (.lst ((((abc.cps.toList.map (nm z a)).take i).filter fun y => !inV (.str y) (zs.map V.str)).map V.str)) ∧ Same H2 H') ⟨upd_same, same_upd hM⟩ (fun i H' _ ⟨_, h⟩ => SqL.of (h _ _ hacc)) ?_ ?_
    · rintro i x H3 hx ⟨hacc3, hs3⟩
      obtain ⟨y, hy, rfl⟩ : ∃ y, (abc.cps.toList.map (nm z a))[i]? = some y ∧ x = V.str y := by
        rw [List.getElem?_map] at hx
        cases e : (abc.cps.toList.map (nm z a))[i]? with
        | none => rw [e] at hx; cases hx
        | some z => rw [e] at hx; exact ⟨z, rfl, (Option.some.inj hx).symm⟩
      refine ⟨rfl, _, rfl, _, rfl, fl, _, rfl, .inl (SqL.of (hs3 _ _ hf2)), rfl, strs_flat zs, _, rfl, ?_⟩
      have hlen : ((((abc.cps.toList.map (nm z a)).take i).filter fun y => !inV (.str y) (zs.map V.str)).map V.str).length < sizeLine := by
        rw [List.length_map]
        have := filter_take_len (abc.cps.toList.map (nm z a)) (fun y => !inV (.str y) (zs.map V.str)) i
        rw [List.length_map, abc_len] at this
        omega
      refine ite2 (fun hc => ?_) (fun hc => ?_)
      · refine ⟨_, rfl, _, hacc3, hlen, ?_, fun b o e => ?_⟩
        · rw [upd_same, take_filter hy, if_pos (show (!inV (.str y) (zs.map V.str)) = true from hc), List.map_append]
          rfl
        · rw [upd_ne (ne_of_none e hM)]
          exact hs3 _ _ e
      · refine ⟨?_, hs3⟩
        rw [take_filter hy, if_neg (show ¬ (!inV (.str y) (zs.map V.str)) = true from hc), List.append_nil]
        exact hacc3
    · rintro H3 ⟨hacc3, hs3⟩
      rw [List.length_map, List.take_length] at hacc3
      have p3 := p2.same hs3
      have hf3 := hs3 _ _ hf2
      have f3 : Fr [pt] H H3 := Fr.trans f1 (Fr.of (Same.trans hs hs3))
      have nM : M ≠ pt := p2.ne hM
      have l26 : ((abc.cps.toList.map (nm z a)).filter fun y => !inV (.str y) (zs.map V.str)).length ≤ 26 := by
        have := List.length_filter_le (fun y => !inV (.str y) (zs.map V.str)) (abc.cps.toList.map (nm z a))
        rw [List.length_map, abc_len] at this
        exact this
      refine ⟨_, rfl, .inl ⟨rfl, _, SqL.of hf3⟩, _, rfl, _, rfl, pt, .ref M, rfl, p3, .inr ⟨M, _, rfl, by rw [List.length_map]; exact spare_pos hl, by rw [List.length_map]; omega, .inl ⟨hacc3, nM⟩, fun y H4 hy f4 p4 => ?_⟩⟩
      obtain ⟨y2, hy2, rfl⟩ := List.mem_map.mp hy
      obtain ⟨c, hc, rfl⟩ := List.mem_map.mp (List.mem_filter.mp hy2).1
      have hf4 := f4.keep _ _ hf3 (fun q => nf (List.mem_singleton.mp q))
      refine ⟨fl, _, _, rfl, rfl, hf4, by rw [List.length_map]; omega, ?_⟩
      have st := stay_lst (o := .lst (zs.map V.str ++ [V.str (nm z a c)])) hf4
      refine k (nm z a c) _ _ _ (nm_ok hz ha hc) ⟨(Fr.trans f3 f4).stay.trans st, fun b o e n => ?_⟩ ?_ ?_
      · have n1 : b ≠ fl := fun q => n (by rw [q]; exact List.mem_cons_of_mem _ List.mem_cons_self)
        rw [upd_ne n1]
        exact (Fr.trans f3 f4).keep b o e (fun q => n (by rw [List.mem_singleton.mp q]; exact List.mem_cons_self))
      · obtain ⟨d, s, n, e, b⟩ := p4
        exact ⟨d, s, n, by rw [upd_ne (Ne.symm nf)]; exact e, b⟩
      · rw [upd_same, List.map_append]
        rfl
theorem names_snoc {zs : List Str} {y : Str} (h : ∀ z ∈ zs, NameOk z) (hy : NameOk y) : ∀ z ∈ zs ++ [y], NameOk z := fun x hx => by
  rcases List.mem_append.mp hx with q | q
  · exact h x q
  · rw [List.mem_singleton.mp q]
    exact hy
theorem in_two {H : Hp} {pt fl : Addr} (h : H fl = Option.none) : ∀ x ∈ [pt, fl], x ∈ [pt] ∨ H x = Option.none := fun x hx => by
  rcases List.mem_cons.mp hx with q | q
  · rw [q]
    exact .inl List.mem_cons_self
  · rw [List.mem_singleton.mp q]
    exact .inr h
section
variable {P : Program} {w : World} {K : PySem.W.Frag} {mg : Str → Option Value} {base : Heap} {C : Addr}
def spNames : Sp := fun vs H Q _ => ∃ pt : Addr, vs = [.ref pt, .int 5] ∧ PotAt H pt ∧ ∀ fl (zs : List Str) H', Fr [pt] H H' → PotAt H' pt → H fl = none → H' fl = some (.lst (zs.map V.str)) → zs.length = 5 → (∀ z ∈ zs, NameOk z) → Q (.ref fl) H'
theorem sc_names : FnScope ["_law_pot_here", "_law_many", "_law_letters", "_law_found", "_law_base", "_law_turn", "_law_at", "_law_spare", "_law_each", "_law_lap"] ["_law_pot_here", "_law_many"] (defScope s__law_names) := ⟨rfl, rfl, rfl, by decide +kernel, rfl, by decide +kernel, by decide +kernel⟩
theorem ok_names (D : Df K mg "_law_names" s__law_names) (T : Free mg) (c1 : Cl P w K mg base 2 "_law_pick" ["_law_pot_here", "_law_some"] (spPick K)) (c2 : Cl P w K mg base 1 "_law_draw" ["_law_pot_here", "_law_many"] spDraw) :
    Cl P w K mg base 3 "_law_names" ["_law_pot_here", "_law_many"] spNames := by
  refine D.cl sc_names (fun vs H Q E h => ?_) (fun _ _ _ _ _ _ us hl => match us, hl with | [_, _], _ => rfl) (fun f cdv A outer s H vs Q E hr h => ?_)
  · obtain ⟨pt, rfl, _⟩ := h
    rfl
  · obtain ⟨pt, rfl, hp, k⟩ := h
    refine ⟨_, pss_cons (ps_asg (pe_tup (pa_cons pe_str (pa_cons (pe_lst pa_nil) pa_nil))) (pg_tup (by rfl) (pgs_cons (pg_name (i := 2) sc_names.nd rfl (Or.inr rfl)) (pgs_cons (pg_name (i := 3) sc_names.nd rfl (Or.inr rfl)) pgs_nil))))
      (pss_cons (ps_set (i := 4) sc_names.nd rfl (Or.inr rfl) (pe_join pe_str (pe_lc (own := [("_law_turn", 5)]) (g := gName 5) (tt := tYes) (te := tCl (spPick K) (tCons (tVar 0) (tCons (tVar 2) tNil))) (by rfl) sc_names.nd
          (pi_range1 (by rfl) T.range (pa_cons (pe_op op_add pe_int (pe_cl c2 hr (by decide) (by rfl) (pa_cons (pv 0) (pa_cons pe_int pa_nil)))) pa_nil)) (blkOk_by (own := [("_law_turn", 5)]) (N := ["_law_pot_here", "_law_many", "_law_letters", "_law_found", "_law_base", "_law_turn", "_law_at", "_law_spare", "_law_each", "_law_lap"]) (sc := defScope s__law_names) (by decide +kernel))
          (fun _ _ _ _ _ => pg_name (i := 5) sc_names.nd rfl (Or.inl rfl)) (fun _ _ _ _ _ => pts_nil) (fun _ _ _ _ _ => pe_cl c1 hr (by decide) (by rfl) (pa_cons (pv 0) (pa_cons (pv 2) pa_nil))))))
      (pss_cons (ps_for PassesOwn.never rfl (pi_range1 (by rfl) T.range (pa_cons (pv 1) pa_nil)) (pg_name (i := 5) sc_names.nd rfl (Or.inl rfl))
        (pss_cons (ps_if (pt_cmpR op_eq (pe_cl c2 hr (by decide) (by rfl) (pa_cons (pv 0) (pa_cons pe_int pa_nil))) pe_int (nomark _))
          (pss_one (ps_set (i := 4) sc_names.nd rfl (Or.inr rfl) (pe_join pe_str (pe_lc (own := [("_law_lap", 9)]) (g := gName 9) (tt := tYes) (te := tCl (spPick K) (tCons (tVar 0) (tCons (tVar 2) tNil))) (by rfl) sc_names.nd
            (pi_range1 (by rfl) T.range (pa_cons (pe_op op_add pe_int (pe_cl c2 hr (by decide) (by rfl) (pa_cons (pv 0) (pa_cons pe_int pa_nil)))) pa_nil)) (blkOk_by (own := [("_law_lap", 9)]) (N := ["_law_pot_here", "_law_many", "_law_letters", "_law_found", "_law_base", "_law_turn", "_law_at", "_law_spare", "_law_each", "_law_lap"]) (sc := defScope s__law_names) (by decide +kernel))
            (fun _ _ _ _ _ => pg_name (i := 9) sc_names.nd rfl (Or.inl rfl)) (fun _ _ _ _ _ => pts_nil) (fun _ _ _ _ _ => pe_cl c1 hr (by decide) (by rfl) (pa_cons (pv 0) (pa_cons (pv 2) pa_nil))))))) pss_nil)
        (pss_cons (ps_set (i := 6) sc_names.nd rfl (Or.inr rfl) (pe_cl c2 hr (by decide) (by rfl) (pa_cons (pv 0) (pa_cons (pe_callB call_len_str (by rfl) T.len boot_len (pa_cons (pv 4) pa_nil)) pa_nil))))
        (pss_cons (ps_setLc (i := 7) (own := [("_law_each", 8)]) (g := gName 8) (tt := tYes) (te := tOp rAdS (tOp rAdS (tSl rSlS (tVar 4) tNoPart (tPart (tVar 6))) (tVar 8)) (tSl rSlS (tVar 4) (tPart (tOp rAddI (tVar 6) (tC (.int 1)))) tNoPart)) (by rfl) sc_names.nd rfl rfl (sw_true rfl rfl rfl (by decide +kernel))
          (pi_str (pv 2)) (blkOk_by (own := [("_law_each", 8)]) (N := ["_law_pot_here", "_law_many", "_law_letters", "_law_found", "_law_base", "_law_turn", "_law_at", "_law_spare", "_law_each", "_law_lap"]) (sc := defScope s__law_names) (by decide +kernel))
          (fun _ _ _ _ _ => pg_name (i := 8) sc_names.nd rfl (Or.inl rfl)) (fun _ _ _ _ _ => pts_nil)
          (fun _ _ _ _ _ => pe_op op_add_str (pe_op op_add_str (pe_slice sl_str (pv 4) po_none (po_some (pv 6))) (pv 8)) (pe_slice sl_str (pv 4) (po_some (pe_op op_add (pv 6) pe_int)) po_none)))
        (pss_cons (ps_setLc (i := 7) (own := [("_law_each", 8)]) (g := gName 8) (tt := tTest (tOp (rIn K true) (tVar 8) (tVar 3))) (te := tVar 8) (by rfl) sc_names.nd rfl rfl (sw_true rfl rfl rfl (by decide +kernel))
          (pi_list (pv 7)) (blkOk_by (own := [("_law_each", 8)]) (N := ["_law_pot_here", "_law_many", "_law_letters", "_law_found", "_law_base", "_law_turn", "_law_at", "_law_spare", "_law_each", "_law_lap"]) (sc := defScope s__law_names) (by decide +kernel))
          (fun _ _ _ _ _ => pg_name (i := 8) sc_names.nd rfl (Or.inl rfl)) (fun _ _ _ _ _ => pts_one (pt_cmpR op_notIn_seq (pv 8) (pv 3) (by rfl)))
          (fun _ _ _ _ _ => pv 8))
        (pss_one (ps_expr (pe_bm PySem.F.plainAttrs_list PySem.F.slot_list_append PySem.F.type_list_append mt_append (pv 3) (pa_cons (pe_cl c1 hr (by decide) (by rfl) (pa_cons (pv 0) (pa_cons (pv 7) pa_nil))) pa_nil)))))))))
      (pss_one (ps_ret (pv 3))))), ?_⟩
    refine ⟨Nat.zero_le _, fun fl hfl => ⟨(by show 2 ≤ sizeLine; decide), fun t ht => ?_⟩⟩
    have nft : fl ≠ t := fun q => by
      rw [← q, upd_same] at ht
      cases ht
    have nf : fl ≠ pt := hp.ne hfl
    have s1 : Same H _ := same_new (same_upd (o := .lst []) hfl) (o := .tup [.str abc, .ref fl]) ht
    refine ⟨t, _, rfl, .of upd_same, rfl, _, _, rfl, _, _, rfl, rfl, ?_⟩
    refine ⟨⟨_, rfl⟩, ?_⟩
    refine read_word (j := 5) rfl (fun x => ⟨rfl, rfl, rfl⟩) (hp.same s1) fun D cs H1 l1 l2 hcs f1 p1 hD => ?_
    refine ⟨_, D, cs.map sg1, rfl, rfl, .inl (SqL.of hD), ?_, ?_⟩
    · rw [ones_sum]
      show cs.length + _ * 0 ≤ _
      omega
    · have hf1 : H1 fl = some (.lst []) := f1.keep _ _ (by rw [upd_ne nft, upd_same]) (fun q => nf (List.mem_singleton.mp q))
      have hz1 : NameOk (Txt.join "" (cs.map sg1)) := by rw [show Txt.join "" (cs.map sg1) = SX.S cs from join_ones cs]; exact name_of l1 l2 hcs
      refine ⟨_, rfl, 5, rfl, by decide, by decide, for_range (n := 5) (fun i σ H' => ∃ (z : Str) (zs : List Str) (v5 v6 v7 v8 v9 : Option V), σ = [some (.ref pt), some (.int 5), some (.str abc), some (.ref fl), some (.str z), v5, v6, v7, v8, v9] ∧ NameOk z ∧ zs.length = i ∧ (∀ z ∈ zs, NameOk z) ∧ H' fl = some (.lst (zs.map V.str)) ∧ Fr [pt] H H' ∧ PotAt H' pt) ?_ ?_ ?_⟩
      · exact ⟨_, [], none, none, none, none, none, rfl, hz1, rfl, (fun z hz => nomatch hz), hf1, Fr.trans (Fr.of s1) f1, p1⟩
      · rintro i σ H2 hi ⟨z, zs, v5, v6, v7, v8, v9, rfl, hz, hlen, hzs, hf2, f2, p2⟩
        have fin : ∀ z2 H3, NameOk z2 → Fr [pt] H2 H3 → PotAt H3 pt → tNmR K { nx := fun σ H' => ∃ (z : Str) (zs : List Str) (v5 v6 v7 v8 v9 : Option V), σ = [some (.ref pt), some (.int 5), some (.str abc), some (.ref fl), some (.str z), v5, v6, v7, v8, v9] ∧ NameOk z ∧ zs.length = i + 1 ∧ (∀ z ∈ zs, NameOk z) ∧ H' fl = some (.lst (zs.map V.str)) ∧ Fr [pt] H H' ∧ PotAt H' pt, rt := Q }
            [some (.ref pt), some (.int 5), some (.str abc), some (.ref fl), some (.str z2), some (.int (0 + (i : Nat))), v6, v7, v8, v9] H3 := fun z2 H3 hz2 f3 p3 =>
          read_nmr p3 (f3.keep _ _ hf2 (fun q => nf (List.mem_singleton.mp q))) nf (by omega) hz2 fun y v6 v7 H4 hy f4 p4 hf4 =>
            ⟨z2, zs ++ [y], _, _, _, _, _, rfl, hz2, by rw [List.length_append, List.length_singleton, hlen], names_snoc hzs hy, hf4, Fr.drop (Fr.trans f2 f3) f4 (in_two hfl), p4⟩
        refine ⟨_, rfl, pt, 3, rfl, p2, by decide, by decide, fun r H3 r0 r1 f3 p3 => ⟨rfl, _, rfl, ite2 (fun hc => ?_) (fun hc => ?_)⟩⟩
        · refine ⟨⟨_, rfl⟩, ?_⟩
          refine read_word (j := 9) rfl (fun x => ⟨rfl, rfl, rfl⟩) p3 fun D cs H4 l1 l2 hcs f4 p4 hD => ?_
          refine ⟨_, D, cs.map sg1, rfl, rfl, .inl (SqL.of hD), ?_, ?_⟩
          · rw [ones_sum]
            show cs.length + _ * 0 ≤ _
            omega
          · exact fin _ H4 (by rw [show Txt.join "" (cs.map sg1) = SX.S cs from join_ones cs]; exact name_of l1 l2 hcs) (Fr.trans f3 f4) p4
        · exact fin z H3 hz f3 p3
      · rintro σ H2 ⟨z, zs, v5, v6, v7, v8, v9, rfl, hz, hlen, hzs, hf2, f2, p2⟩
        exact ⟨_, rfl, k fl zs H2 f2 p2 hfl hf2 hlen hzs⟩
end
end Sg
/-! ## SgR -/
namespace Sg
open PySem PySem.Spec PyProof.Rows L2
/-! ### the book's entries against the law's table -/
structure Good (k : Nat) (r : Row) : Prop where
  ok : RowOk r
  len : r.length ≤ 20
  bnd : Bnd (10 ^ 60) (10 ^ 60 + k * 10 ^ 14) r
theorem Good.mono {k l : Nat} {r : Row} (h : Good k r) (hk : k ≤ l) : Good l r := ⟨h.ok, h.len, h.bnd.mono (Nat.le_refl _) (Nat.add_le_add_left (Nat.mul_le_mul_right _ hk) _)⟩
theorem big61 : 10 ^ 60 + 13 * 10 ^ 14 ≤ 10 ^ 61 := by decide
theorem big210 : 10 ^ 61 < 2 ^ 210 := by decide
theorem Good.small {k : Nat} {r : Row} (h : Good k r) (hk : k ≤ 13) : Small r := ⟨h.len, h.bnd.mono (by decide) (Nat.le_trans (Nat.add_le_add_left (Nat.mul_le_mul_right _ hk) _) big61)⟩
theorem Small.w {r : Row} (h : Small r) : ∀ p ∈ r, p.2.natAbs < 2 ^ 210 := fun p hp => Nat.lt_of_le_of_lt (h.bnd p hp).2 big210
theorem Good.plus {k : Nat} {r : Row} (h : Good k r) {p w : Int} (hw : Wt r p w) : Good (k + 1) (plus r [(p, w)]) := by
  obtain ⟨h1, h2⟩ := hw.num _ _ (by decide) h.bnd
  refine ⟨plus_ok _ _, plus_one_len h.ok p w hw.at' h.len, ?_⟩
  have := Bnd.plus_one (D := 10 ^ 14) h.ok h.bnd h1 h2
  refine this.mono (Nat.le_refl _) ?_
  rw [Nat.succ_mul]
  omega
abbrev Tab := Str → Option Row
def putT (T : Tab) (n : Str) (r : Row) : Tab := fun m => if m = n then some r else T m
def dropT (T : Tab) (n : Str) : Tab := fun m => if m = n then none else T m
structure Rel (k : Nat) (E : Entries) (T : Tab) : Prop where
  eq : ∀ n, getE E n = (T n).toList
  good : ∀ e ∈ E, Good k e.2
  len : E.length ≤ k
theorem Rel.mono {k l : Nat} {E : Entries} {T : Tab} (h : Rel k E T) (hk : k ≤ l) : Rel l E T := ⟨h.eq, fun e he => (h.good e he).mono hk, Nat.le_trans h.len hk⟩
theorem Rel.get {k : Nat} {E : Entries} {T : Tab} (h : Rel k E T) {n : Str} {r : Row} (e : T n = some r) : getE E n = [r] := by rw [h.eq, e]; rfl
theorem Rel.no {k : Nat} {E : Entries} {T : Tab} (h : Rel k E T) {n : Str} (e : T n = none) : getE E n = [] := by rw [h.eq, e]; rfl
theorem getE_mem {E : Entries} {n : Str} {r : Row} (h : r ∈ getE E n) : ∃ e ∈ E, e.1 = n ∧ e.2 = r := by
  unfold getE at h
  obtain ⟨e, he, q⟩ := List.mem_map.mp h
  obtain ⟨h1, h2⟩ := List.mem_filter.mp he
  exact ⟨e, h1, of_decide_eq_true h2, q⟩
theorem mem_getE {E : Entries} {e : Str × Row} (h : e ∈ E) : e.2 ∈ getE E e.1 := List.mem_map.mpr ⟨e, List.mem_filter.mpr ⟨h, decide_eq_true rfl⟩, rfl⟩
theorem Rel.row {k : Nat} {E : Entries} {T : Tab} (h : Rel k E T) {n : Str} {r : Row} (e : T n = some r) : Good k r := by
  have hm : r ∈ getE E n := by rw [h.get e]; exact List.mem_cons_self
  obtain ⟨x, hx, _, q⟩ := getE_mem hm
  rw [← q]
  exact h.good x hx
theorem Rel.small {k : Nat} {E : Entries} {T : Tab} (h : Rel k E T) (hk : k ≤ 13) : ∀ e ∈ E, Small e.2 := fun e he => (h.good e he).small hk
theorem getE_snoc (E : Entries) (n : Str) (r : Row) (m : Str) : getE (E ++ [(n, r)]) m = getE E m ++ (if n = m then [r] else []) := by
  unfold getE
  rw [List.filter_append, List.map_append]
  congr 1
  rw [List.filter_cons]
  by_cases e : n = m
  · rw [if_pos e, if_pos (decide_eq_true e)]
    rfl
  · rw [if_neg e, if_neg (fun q => e (of_decide_eq_true q))]
    rfl
theorem getE_more (n : Str) (p w : Int) (m : Str) : ∀ E : Entries, getE (moreE E n p w) m = if m = n then (getE E m).map (fun r => plus r [(p, w)]) else getE E m
  | [] => by
    by_cases e : m = n
    · rw [if_pos e]; rfl
    · rw [if_neg e]; rfl
  | x :: E => by
    have ih := getE_more n p w m E
    have step : ∀ y : Str × Row, getE (y :: E) m = (if y.1 = m then [y.2] else []) ++ getE E m := fun y => by
      unfold getE
      rw [List.filter_cons]
      by_cases e : y.1 = m
      · rw [if_pos (decide_eq_true e), if_pos e]; rfl
      · rw [if_neg (fun q => e (of_decide_eq_true q)), if_neg e]; rfl
    have step2 : getE (moreE (x :: E) n p w) m = (if (if x.1 = n then (x.1, plus x.2 [(p, w)]) else x).1 = m then [(if x.1 = n then (x.1, plus x.2 [(p, w)]) else x).2] else []) ++ getE (moreE E n p w) m := by
      show getE ((if x.1 = n then (x.1, plus x.2 [(p, w)]) else x) :: moreE E n p w) m = _
      unfold getE
      rw [List.filter_cons]
      by_cases e : (if x.1 = n then (x.1, plus x.2 [(p, w)]) else x).1 = m
      · rw [if_pos (decide_eq_true e), if_pos e]; rfl
      · rw [if_neg (fun q => e (of_decide_eq_true q)), if_neg e]; rfl
    rw [step2, ih, step x]
    by_cases e : x.1 = n
    · rw [if_pos e]
      by_cases z : m = n
      · rw [if_pos z, if_pos z, if_pos (show x.1 = m by rw [e, z]), if_pos (show x.1 = m by rw [e, z]), List.map_append]
        rfl
      · rw [if_neg z, if_neg z, if_neg (fun q : x.1 = m => z (by rw [← q, e])), if_neg (fun q : x.1 = m => z (by rw [← q, e]))]
    · rw [if_neg e]
      by_cases z : m = n
      · rw [if_pos z, if_pos z, if_neg (fun q : x.1 = m => e (by rw [q, z]))]
        rfl
      · rw [if_neg z, if_neg z]
theorem getE_drop (n m : Str) : ∀ E : Entries, getE (dropE E n) m = if m = n then [] else getE E m
  | [] => by
    by_cases e : m = n
    · rw [if_pos e]; rfl
    · rw [if_neg e]; rfl
  | x :: E => by
    have ih := getE_drop n m E
    have step : ∀ (y : Str × Row) (F : Entries), getE (y :: F) m = (if y.1 = m then [y.2] else []) ++ getE F m := fun y F => by
      unfold getE
      rw [List.filter_cons]
      by_cases e : y.1 = m
      · rw [if_pos (decide_eq_true e), if_pos e]; rfl
      · rw [if_neg (fun q => e (of_decide_eq_true q)), if_neg e]; rfl
    have sd : dropE (x :: E) n = if x.1 = n then dropE E n else x :: dropE E n := by
      unfold dropE
      rw [List.filter_cons]
      by_cases e : x.1 = n
      · rw [if_pos e, decide_eq_true e]; rfl
      · rw [if_neg e, decide_eq_false e]; rfl
    rw [sd, step x E]
    by_cases e : x.1 = n
    · rw [if_pos e, ih]
      by_cases z : m = n
      · rw [if_pos z, if_pos z]
      · rw [if_neg z, if_neg z, if_neg (fun q : x.1 = m => z (by rw [← q, e]))]
        rfl
    · rw [if_neg e, step x, ih]
      by_cases z : m = n
      · rw [if_pos z, if_pos z, if_neg (fun q : x.1 = m => e (by rw [q, z]))]
        rfl
      · rw [if_neg z, if_neg z]
theorem Rel.put {k : Nat} {E : Entries} {T : Tab} (h : Rel k E T) {n : Str} {r : Row} (e : T n = none) (g : Good k r) : Rel (k + 1) (E ++ [(n, r)]) (putT T n r) := by
  refine ⟨fun m => ?_, fun x hx => ?_, ?_⟩
  · rw [getE_snoc, h.eq]
    unfold putT
    by_cases z : m = n
    · rw [if_pos z, if_pos z.symm, z, e]
      rfl
    · rw [if_neg z, if_neg (Ne.symm z), List.append_nil]
  · rcases List.mem_append.mp hx with q | q
    · exact (h.good x q).mono (Nat.le_succ _)
    · rw [List.mem_singleton.mp q]
      exact g.mono (Nat.le_succ _)
  · have := h.len
    rw [List.length_append, List.length_singleton]
    omega
theorem Rel.more {k : Nat} {E : Entries} {T : Tab} (h : Rel k E T) {n : Str} {r : Row} (e : T n = some r) {p w : Int} (hw : Wt r p w) : Rel (k + 1) (moreE E n p w) (putT T n (plus r [(p, w)])) := by
  have hg := h.get e
  refine ⟨fun m => ?_, fun x hx => ?_, ?_⟩
  · rw [getE_more]
    unfold putT
    by_cases z : m = n
    · rw [if_pos z, if_pos z, z, hg]
      rfl
    · rw [if_neg z, if_neg z, h.eq]
  · unfold moreE at hx
    obtain ⟨y, hy, q⟩ := List.mem_map.mp hx
    by_cases z : y.1 = n
    · rw [if_pos z] at q
      have hm := mem_getE hy
      rw [z, hg] at hm
      rw [← q]
      show Good (k + 1) (Sg.plus y.2 [(p, w)])
      rw [List.mem_singleton.mp hm]
      exact (h.row e).plus hw
    · rw [if_neg z] at q
      rw [← q]
      exact (h.good y hy).mono (Nat.le_succ _)
  · have := h.len
    unfold moreE
    rw [List.length_map]
    omega
theorem Rel.drop {k : Nat} {E : Entries} {T : Tab} (h : Rel k E T) (n : Str) : Rel (k + 1) (dropE E n) (dropT T n) := by
  refine ⟨fun m => ?_, fun x hx => (h.good x (List.mem_filter.mp hx).1).mono (Nat.le_succ _), ?_⟩
  · rw [getE_drop]
    unfold dropT
    by_cases z : m = n
    · rw [if_pos z, if_pos z]
      rfl
    · rw [if_neg z, if_neg z, h.eq]
  · have := h.len
    have := List.length_filter_le (fun e : Str × Row => !decide (e.1 = n)) E
    unfold dropE
    omega
theorem Rel.zero : Rel 0 [] (fun _ => none) := ⟨fun _ => rfl, (fun e he => nomatch he), Nat.le_refl _⟩
/-! ### the law's table in the heap -/
def TabV (H : Hp) (o : Option V) (t : Option Row) : Prop := (o = none ∧ t = none) ∨ ∃ a r, o = some (.ref a) ∧ t = some r ∧ RowV H a r
structure TabAt (H : Hp) (td : Addr) (T : Tab) (N : Nat) : Prop where
  ex : ∃ (kvs : List (Key × V)) (ks : List Str), H td = some (.dK kvs) ∧ kvs.map (·.1) = ks.map Sum.inr ∧ ks.length ≤ N ∧ (∀ k ∈ ks, NameOk k) ∧ ∀ m, TabV H (valV kvs (Sum.inr m : Key)) (T m)
theorem TabV.stay {H H' : Hp} {o : Option V} {t : Option Row} (h : TabV H o t) (s : Stay H H') : TabV H' o t := by
  rcases h with h | ⟨a, r, h1, h2, h3⟩
  · exact .inl h
  · exact .inr ⟨a, r, h1, h2, h3.stay s⟩
theorem TabAt.keep {H H' : Hp} {td : Addr} {T : Tab} {N : Nat} (h : TabAt H td T N) (s : Stay H H') (e : ∀ o, H td = some o → H' td = some o) : TabAt H' td T N := let ⟨kvs, ks, h1, h2, h3, h4, h5⟩ := h.ex; ⟨kvs, ks, e _ h1, h2, h3, h4, fun m => (h5 m).stay s⟩
theorem TabAt.same {H H' : Hp} {td : Addr} {T : Tab} {N : Nat} (h : TabAt H td T N) (s : Same H H') : TabAt H' td T N := h.keep (same_stay s) fun o e => s _ _ e
theorem TabAt.fr {W : List Addr} {H H' : Hp} {td : Addr} {T : Tab} {N : Nat} (h : TabAt H td T N) (f : Fr W H H') (n : td ∉ W) : TabAt H' td T N := h.keep f.stay fun o e => f.keep _ _ e n
theorem TabAt.mono {H : Hp} {td : Addr} {T : Tab} {N M : Nat} (h : TabAt H td T N) (hn : N ≤ M) : TabAt H td T M := let ⟨kvs, ks, h1, h2, h3, h4, h5⟩ := h.ex; ⟨kvs, ks, h1, h2, Nat.le_trans h3 hn, h4, h5⟩
theorem keys_len {kvs : List (Key × V)} {ks : List Str} (h : kvs.map (·.1) = ks.map Sum.inr) : kvs.length = ks.length := by
  have := congrArg List.length h
  rw [List.length_map, List.length_map] at this
  exact this
theorem TabAt.get {H : Hp} {td : Addr} {T : Tab} {N : Nat} (h : TabAt H td T N) {n : Str} {r : Row} (e : T n = some r) : ∃ a, DGet H td (.str n) (some (.ref a)) ∧ RowV H a r := by
  obtain ⟨kvs, ks, h1, h2, h3, h4, h5⟩ := h.ex
  have g := DGet.k (k := (Sum.inr n : Key)) h1
  rcases h5 n with ⟨_, q⟩ | ⟨a, r2, q1, q2, q3⟩
  · rw [q] at e
    cases e
  · rw [e] at q2
    cases q2
    rw [q1] at g
    exact ⟨a, g, q3⟩
theorem TabAt.look {H : Hp} {td : Addr} {T : Tab} {N : Nat} (h : TabAt H td T N) (n : Str) : ∃ o, DGet H td (.str n) o ∧ o.isSome = (T n).isSome := by
  obtain ⟨kvs, ks, h1, h2, h3, h4, h5⟩ := h.ex
  refine ⟨_, DGet.k (k := (Sum.inr n : Key)) h1, ?_⟩
  rcases h5 n with ⟨q1, q2⟩ | ⟨a, r2, q1, q2, q3⟩
  · rw [q1, q2]
    rfl
  · rw [q1, q2]
    rfl
theorem put_keys {kvs : List (Key × V)} {ks : List Str} (h : kvs.map (·.1) = ks.map Sum.inr) (n : Str) (v : V) : ∃ ks2 : List Str, (putK kvs (Sum.inr n : Key) v).map (·.1) = ks2.map Sum.inr ∧ ks2.length ≤ ks.length + 1 ∧ (∀ k ∈ ks2, k ∈ ks ∨ k = n) := by
  unfold putK
  by_cases a : (kvs.any fun kv => decide (kv.1 = (Sum.inr n : Key))) = true
  · rw [if_pos a]
    refine ⟨ks, ?_, Nat.le_succ _, fun k hk => .inl hk⟩
    rw [← h, List.map_map]
    refine List.map_congr_left fun p _ => ?_
    show (if p.1 = (Sum.inr n : Key) then (p.1, v) else p).1 = p.1
    by_cases z : p.1 = (Sum.inr n : Key)
    · rw [if_pos z]
    · rw [if_neg z]
  · rw [if_neg a]
    refine ⟨ks ++ [n], by rw [List.map_append, List.map_append, h]; rfl, by rw [List.length_append]; exact Nat.le_refl _, fun k hk => ?_⟩
    rcases List.mem_append.mp hk with q | q
    · exact .inl q
    · exact .inr (List.mem_singleton.mp q)
theorem TabAt.put {H : Hp} {td a : Addr} {T : Tab} {N : Nat} {n : Str} {r : Row} (h : TabAt H td T N) (hN : N < 1000) (hn : NameOk n) (hr : RowV H a r) : ∃ o, DPut H td (.str n) (.ref a) (upd H td o) ∧ Stay H (upd H td o) ∧ TabAt (upd H td o) td (putT T n r) (N + 1) := by
  obtain ⟨kvs, ks, h1, h2, h3, h4, h5⟩ := h.ex
  have hz : (1000 : Nat) < sizeLine := by decide
  have hl := keys_len h2
  refine ⟨_, DPut.k (k := (Sum.inr n : Key)) h1 (by omega), stay_dK h1, ?_⟩
  obtain ⟨ks2, g1, g2, g3⟩ := put_keys h2 n (.ref a)
  have st := stay_dK (o := .dK (putK kvs (Sum.inr n : Key) (.ref a))) h1
  refine ⟨_, ks2, upd_same, g1, Nat.le_trans g2 (Nat.succ_le_succ h3), fun k hk => ?_, fun m => ?_⟩
  · rcases g3 k hk with q | q
    · exact h4 k q
    · rw [q]; exact hn
  · rw [valV_put]
    unfold putT
    by_cases z : m = n
    · rw [if_pos z, if_pos (show (Sum.inr m : Key) = Sum.inr n by rw [z])]
      exact .inr ⟨a, r, rfl, rfl, hr.stay st⟩
    · rw [if_neg z, if_neg (fun q : (Sum.inr m : Key) = Sum.inr n => z (Sum.inr.inj q))]
      exact (h5 m).stay st
theorem valV_drop (k j : Key) : ∀ kvs : List (Key × V), valV (dropK kvs k) j = if j = k then none else valV kvs j
  | [] => by
    by_cases e : j = k
    · rw [if_pos e]; rfl
    · rw [if_neg e]; rfl
  | p :: r => by
    have ih := valV_drop k j r
    have sd : dropK (p :: r) k = if p.1 = k then dropK r k else p :: dropK r k := by
      unfold dropK
      rw [List.filter_cons]
      by_cases e : p.1 = k
      · rw [if_pos e, if_neg (fun q => (of_decide_eq_true q) e)]
      · rw [if_neg e, if_pos (decide_eq_true e)]
    rw [sd]
    by_cases e : p.1 = k
    · rw [if_pos e, ih]
      by_cases z : j = k
      · rw [if_pos z, if_pos z]
      · rw [if_neg z, if_neg z, valV_neg (fun q => z (by rw [← q, e]))]
    · rw [if_neg e]
      by_cases z : j = k
      · rw [if_pos z, valV_neg (fun q => e (by rw [q, z])), ih, if_pos z]
      · rw [if_neg z]
        by_cases y : p.1 = j
        · rw [valV_pos y, valV_pos y]
        · rw [valV_neg y, valV_neg y, ih, if_neg z]
theorem drop_keys {kvs : List (Key × V)} {ks : List Str} (h : kvs.map (·.1) = ks.map Sum.inr) (n : Str) : ∃ ks2 : List Str, (dropK kvs (Sum.inr n : Key)).map (·.1) = ks2.map Sum.inr ∧ ks2.length ≤ ks.length ∧ (∀ k ∈ ks2, k ∈ ks) := by
  refine ⟨ks.filter fun k => decide (k ≠ n), ?_, List.length_filter_le _ _, fun k hk => (List.mem_filter.mp hk).1⟩
  unfold dropK
  have e1 : (kvs.filter fun kv => decide (kv.1 ≠ (Sum.inr n : Key))).map (·.1) = (kvs.map (·.1)).filter fun k => decide (k ≠ (Sum.inr n : Key)) := by
    rw [List.filter_map]
    rfl
  rw [e1, h, List.filter_map]
  congr 1
  refine List.filter_congr fun k _ => ?_
  show decide ((Sum.inr k : Key) ≠ Sum.inr n) = decide (k ≠ n)
  refine Bool.eq_iff_iff.mpr ?_
  rw [decide_eq_true_eq, decide_eq_true_eq]
  exact ⟨fun q z => q (by rw [z]), fun q z => q (Sum.inr.inj z)⟩
theorem TabAt.drop {H : Hp} {td : Addr} {T : Tab} {N : Nat} (h : TabAt H td T N) (n : Str) (hn : T n ≠ none) : IsD H td ∧ ∃ kvs v, H td = some (.dK kvs) ∧ valV kvs (Sum.inr n : Key) = some v ∧ Stay H (upd H td (.dK (dropK kvs (Sum.inr n : Key)))) ∧ TabAt (upd H td (.dK (dropK kvs (Sum.inr n : Key)))) td (dropT T n) N := by
  obtain ⟨kvs, ks, h1, h2, h3, h4, h5⟩ := h.ex
  have hv : ∃ v, valV kvs (Sum.inr n : Key) = some v := by
    rcases h5 n with ⟨q1, q2⟩ | ⟨a, r2, q1, q2, q3⟩
    · exact absurd q2 hn
    · exact ⟨_, q1⟩
  obtain ⟨v, hv⟩ := hv
  obtain ⟨ks2, g1, g2, g3⟩ := drop_keys h2 n
  have st := stay_dK (o := .dK (dropK kvs (Sum.inr n : Key))) h1
  refine ⟨.inl ⟨kvs, .inl h1⟩, kvs, v, h1, hv, st, ⟨_, ks2, upd_same, g1, Nat.le_trans g2 h3, fun k hk => h4 k (g3 k hk), fun m => ?_⟩⟩
  rw [valV_drop]
  unfold dropT
  by_cases z : m = n
  · rw [if_pos z, if_pos (show (Sum.inr m : Key) = Sum.inr n by rw [z])]
    exact .inl ⟨rfl, rfl⟩
  · rw [if_neg z, if_neg (fun q : (Sum.inr m : Key) = Sum.inr n => z (Sum.inr.inj q))]
    exact (h5 m).stay st
theorem TabAt.copy {H : Hp} {td : Addr} {T : Tab} {N : Nat} (h : TabAt H td T N) : ∃ kvs, H td = some (.dK kvs) ∧ ∀ p, H p = none → TabAt (upd H p (.dK kvs)) p T N := by
  obtain ⟨kvs, ks, h1, h2, h3, h4, h5⟩ := h.ex
  exact ⟨kvs, h1, fun p hp => ⟨kvs, ks, upd_same, h2, h3, h4, fun m => (h5 m).stay (same_stay (same_upd hp))⟩⟩
theorem TabAt.keys {H : Hp} {td : Addr} {T : Tab} {N : Nat} (h : TabAt H td T N) : ∃ (kvs : List (Key × V)) (ks : List Str), H td = some (.dK kvs) ∧ kvs.map (·.1) = ks.map Sum.inr ∧ ks.length ≤ N ∧ ∀ k ∈ ks, NameOk k ∧ ∃ r, T k = some r := by
  obtain ⟨kvs, ks, h1, h2, h3, h4, h5⟩ := h.ex
  refine ⟨kvs, ks, h1, h2, h3, fun k hk => ⟨h4 k hk, ?_⟩⟩
  rcases h5 k with ⟨q1, q2⟩ | ⟨a, r2, q1, q2, q3⟩
  · exfalso
    have hm : (Sum.inr k : Key) ∈ kvs.map (·.1) := by rw [h2]; exact List.mem_map_of_mem hk
    obtain ⟨p, hp, e⟩ := List.mem_map.mp hm
    have ha : (kvs.any fun kv => decide (kv.1 = (Sum.inr k : Key))) = true := List.any_eq_true.mpr ⟨p, hp, decide_eq_true e⟩
    rw [valV_any, q1] at ha
    cases ha
  · exact ⟨r2, q2⟩
theorem TabAt.empty {H : Hp} {td : Addr} (h : H td = some (.dK [])) : TabAt H td (fun _ => none) 0 := ⟨[], [], h, rfl, Nat.le_refl _, (fun k hk => nomatch hk), fun m => .inl ⟨rfl, rfl⟩⟩
theorem TabAt.dk {H : Hp} {td : Addr} {T : Tab} {N : Nat} (h : TabAt H td T N) : ∃ kvs, H td = some (.dK kvs) := let ⟨kvs, _, h1, _⟩ := h.ex; ⟨kvs, h1⟩
end Sg
/-! ## SgS -/
namespace Sg
open PySem PySem.Spec PyProof.Rows L2
/-! ### what repr shows of rows is short -/
theorem piled_le {B : Nat} : ∀ {ts : List Str}, (∀ t ∈ ts, t.length ≤ B) → piled ts ≤ ts.length * (B + 2)
  | [], _ => Nat.zero_le _
  | t :: r, h => by
    have ih := piled_le (ts := r) fun x hx => h x (List.mem_cons_of_mem _ hx)
    have := h t List.mem_cons_self
    rw [piled_cons, List.length_cons, Nat.succ_mul]
    omega
theorem tuple_len (ts : List Str) : (tupleText ts).length ≤ piled ts + 4 := by
  unfold tupleText
  rw [strLen_append, strLen_append]
  have e1 : ((("(" : String) : Str)).length = 1 := rfl
  have e3 : (((if ts.length == 1 then ",)" else ")" : String) : Str)).length ≤ 2 := by split <;> decide
  rw [e1]
  by_cases h : ts = []
  · subst h
    have : (Str.join ", " []).length = 0 := rfl
    omega
  · have := join_length_add ts h
    omega
theorem list_len : ∀ ts : List Str, (listText ts).length ≤ piled ts + 2
  | [] => by decide +kernel
  | t :: r => by
    have h := textFrom_length_pos r 1 (("[" : Str) ++ (if (0 : Nat) > 0 then ", " else "" : String) ++ t) (Nat.succ_pos 0)
    have e : ((("[" : Str) ++ (if (0 : Nat) > 0 then ", " else "" : String) ++ t)).length = 1 + t.length := by
      rw [strLen_append, strLen_append]; rfl
    have hX : (listText (t :: r)).length = (textFrom 0 "[" (t :: r)).length + 1 := by
      show (textFrom 0 "[" (t :: r) ++ "]").length = _
      rw [strLen_append]; rfl
    have hY : (textFrom 0 "[" (t :: r)).length = (textFrom 1 (("[" : Str) ++ (if (0 : Nat) > 0 then ", " else "" : String) ++ t) r).length := rfl
    rw [hX, hY, h, e, piled_cons]; omega
structure Shw (r : Row) : Prop where
  len : r.length ≤ 400
  num : ∀ p ∈ r, p.1.natAbs < 10 ^ 200 ∧ p.2.natAbs < 10 ^ 200
theorem int_len {i : Int} (h : i.natAbs < 10 ^ 200) : (PyData.shown (.int i)).length ≤ 201 := by
  have e := int_text_length_le10 (k := 200) (by decide) h
  show (Str.ofString (toString i)).length ≤ 201
  rw [PySem.ofString_length]
  exact e
theorem pair_len {p : Int × Int} (h : p.1.natAbs < 10 ^ 200 ∧ p.2.natAbs < 10 ^ 200) : (PyData.shown (.tuple [.int p.1, .int p.2])).length ≤ 410 := by
  have e : PyData.shown (.tuple [.int p.1, .int p.2]) = tupleText [PyData.shown (.int p.1), PyData.shown (.int p.2)] := by simp only [PyData.shown, PyData.shownAll]
  rw [e]
  have h1 := tuple_len [PyData.shown (.int p.1), PyData.shown (.int p.2)]
  have h2 := piled_le (B := 201) (ts := [PyData.shown (.int p.1), PyData.shown (.int p.2)]) fun t ht => by
    rcases List.mem_cons.mp ht with q | q
    · rw [q]; exact int_len h.1
    · rw [List.mem_singleton.mp q]; exact int_len h.2
  simp only [List.length_cons, List.length_nil] at h2
  omega
theorem shownAll_map {α : Type} (f : α → PyData) : ∀ l : List α, PyData.shownAll (l.map f) = l.map fun x => PyData.shown (f x)
  | [] => by simp only [List.map_nil, PyData.shownAll]
  | x :: l => by rw [List.map_cons, PyData.shownAll, shownAll_map f l, List.map_cons]
theorem row_len {r : Row} (h : Shw r) : (PyData.shown (rowD r)).length ≤ 165000 := by
  have e : PyData.shown (rowD r) = tupleText (r.map fun p => PyData.shown (.tuple [.int p.1, .int p.2])) := by
    rw [rowD, PyData.shown, shownAll_map]
  rw [e]
  have h1 := tuple_len (r.map fun p => PyData.shown (.tuple [.int p.1, .int p.2]))
  have h2 := piled_le (B := 410) (ts := r.map fun p => PyData.shown (.tuple [.int p.1, .int p.2])) fun t ht => by
    obtain ⟨p, hp, q⟩ := List.mem_map.mp ht
    rw [← q]
    exact pair_len (h.num p hp)
  rw [List.length_map] at h2
  have := h.len
  have : r.length * (410 + 2) ≤ 400 * (410 + 2) := Nat.mul_le_mul_right _ h.len
  omega
theorem log_int {i : Int} (h : i.natAbs < 10 ^ 200) : decide (i.natAbs.log2 < 1920) = true := by
  refine decide_eq_true ?_
  have h2 : i.natAbs < 2 ^ 1920 := Nat.lt_trans h (by decide +kernel)
  exact PySem.Flt.log2_lt_of (by decide) h2
theorem row_showable {r : Row} (h : ∀ p ∈ r, p.1.natAbs < 10 ^ 200 ∧ p.2.natAbs < 10 ^ 200) : (rowD r).showable = true := by
  have q : ∀ r : Row, (∀ p ∈ r, p.1.natAbs < 10 ^ 200 ∧ p.2.natAbs < 10 ^ 200) → PyData.showableAll (r.map fun p => PyData.tuple [.int p.1, .int p.2]) = true := fun r => by
    induction r with
    | nil =>
      intro _
      simp only [List.map_nil, PyData.showableAll]
    | cons p r ih =>
      intro h
      obtain ⟨h1, h2⟩ := h p List.mem_cons_self
      rw [List.map_cons, PyData.showableAll, ih (fun x hx => h x (List.mem_cons_of_mem _ hx)), PyData.showable, PyData.showableAll, PyData.showableAll, PyData.showableAll, PyData.showable, PyData.showable, log_int h1, log_int h2]
      rfl
  rw [rowD, PyData.showable]
  exact q r h
theorem repr_ok {K : PySem.W.Frag} {H : Hp} {a : Addr} {r : Row} (ha : RowT K H a r) (h : Shw r) : Dp K H (.ref a) (rowD r) ∧ (rowD r).showable = true ∧ (rowD r).hasDict = false ∧ (rowD r).depth ≤ 60 ∧ (rowD r).shown.length ≤ sizeLine := by
  have := rowD_depth r
  have z : (165000 : Nat) ≤ sizeLine := by decide
  exact ⟨ha.dp, row_showable h.num, PyData.hasDict_of_canLay _ (rowD_lay r), by omega, Nat.le_trans (row_len h) z⟩
/-! rows in a list -/
def rowsD (rs : List Row) : PyData := .list (rs.map rowD)
theorem rows_dp {K : PySem.W.Frag} {H : Hp} : ∀ {vs : List V} {rs : List Row}, Paired (RowR H) vs rs → DpAll K H vs (rs.map rowD)
  | _, _, .nil => .nil
  | _, _, .cons ⟨_, e, h⟩ t => .cons (e ▸ h.t.dp) (rows_dp t)
theorem repr_okL {K : PySem.W.Frag} {H : Hp} {a : Addr} {vs : List V} {rs : List Row} (ha : SqL K H a vs) (hp : Paired (RowR H) vs rs) (hl : rs.length ≤ 20) (h : ∀ r ∈ rs, Shw r) : Dp K H (.ref a) (rowsD rs) ∧ (rowsD rs).showable = true ∧ (rowsD rs).hasDict = false ∧ (rowsD rs).depth ≤ 60 ∧ (rowsD rs).shown.length ≤ sizeLine := by
  have lay : ∀ rs : List Row, PyData.canLayAll0 (rs.map rowD) = true := fun rs => by
    induction rs with
    | nil => simp [PyData.canLayAll0]
    | cons r rs ih => rw [List.map_cons, PyData.canLayAll0, ih, rowD_lay]; rfl
  have dep : ∀ rs : List Row, PyData.depthAll (rs.map rowD) ≤ 2 := fun rs => by
    induction rs with
    | nil => simp [PyData.depthAll]
    | cons r rs ih =>
      have := rowD_depth r
      rw [List.map_cons, PyData.depthAll]
      omega
  have shw : ∀ rs : List Row, (∀ r ∈ rs, Shw r) → PyData.showableAll (rs.map rowD) = true := fun rs => by
    induction rs with
    | nil => intro _; simp only [List.map_nil, PyData.showableAll]
    | cons r rs ih =>
      intro h
      rw [List.map_cons, PyData.showableAll, ih (fun x hx => h x (List.mem_cons_of_mem _ hx)), row_showable (h r List.mem_cons_self).num]
      rfl
  have len : (rowsD rs).shown.length ≤ 4000000 := by
    have e : (rowsD rs).shown = listText (rs.map fun r => (rowD r).shown) := by rw [rowsD, PyData.shown, shownAll_map]
    rw [e]
    have h1 := list_len (rs.map fun r => (rowD r).shown)
    have h2 := piled_le (B := 165000) (ts := rs.map fun r => (rowD r).shown) fun t ht => by
      obtain ⟨r, hr, q⟩ := List.mem_map.mp ht
      rw [← q]
      exact row_len (h r hr)
    rw [List.length_map] at h2
    have : rs.length * (165000 + 2) ≤ 20 * (165000 + 2) := Nat.mul_le_mul_right _ hl
    omega
  have z : (4000000 : Nat) ≤ sizeLine := by decide
  have d2 := dep rs
  refine ⟨.lst ha (rows_dp hp), ?_, PyData.hasDict_of_canLay _ ?_, ?_, Nat.le_trans len z⟩
  · rw [rowsD, PyData.showable]
    exact shw rs h
  · rw [rowsD, PyData.canLay0]
    exact lay rs
  · rw [rowsD, PyData.depth]
    omega
theorem Small.shw {r : Row} (h : Small r) : Shw (gaps r) := by
  refine ⟨gaps_400 h.len, fun p hp => ?_⟩
  obtain ⟨h1, h2⟩ := Bnd.gaps h.bnd h.len p hp
  have b1 : 10 ^ 61 + 10 ^ 61 < 10 ^ 200 := by decide
  have b2 : 400 * (10 ^ 61 * 10 ^ 61) < 10 ^ 200 := by decide
  exact ⟨Nat.lt_of_le_of_lt h1 b1, Nat.lt_of_le_of_lt h2 b2⟩
end Sg
/-! ## SgE5 -/
namespace Sg
open PySem PySem.Spec PyProof.Rows L2
section
variable {P : Program} {w : World} {K : PySem.W.Frag} {mg : Str → Option Value} {base : Heap} {C : Addr}
theorem str_ne {a b : Str} (h : a = b) : (!decide (V.str a = V.str b)) = false := by
  rw [decide_eq_true (by rw [h])]
  rfl
def spIsK (K : PySem.W.Frag) (C : Addr) : Sp := fun vs H Q _ => ∃ (bk pl td nl : Addr) (E : Entries) (past : List Entries) (T : Tab) (N k : Nat) (zs : List Str), vs = [.ref bk, .ref td, .ref nl] ∧ BookAt K C H bk pl E past ∧ TabAt H td T N ∧ Rel k E T ∧ k ≤ 12 ∧ H nl = some (.lst (zs.map V.str)) ∧ zs.length ≤ 100 ∧ (∀ z ∈ zs, NameOk z) ∧ ∀ H', Same H H' → Q (.bl true) H'
theorem sc_isk : FnScope ["_law_book", "_law_table", "_law_names_here", "_law_each", "_law_name"] ["_law_book", "_law_table", "_law_names_here"] (defScope s__law_is_kept) := ⟨rfl, rfl, rfl, by decide +kernel, rfl, by decide +kernel, by decide +kernel⟩
theorem ok_isk (D : Df K mg "_law_is_kept" s__law_is_kept) (T : Free mg) (B : TB K mg C) (c1 : Mt P w K mg base 4 C "kept" ["self", "name"] (spKept K C)) (c2 : Cl P w K mg base 3 "_law_gaps" ["_law_row_here"] (spGaps K)) : ClG P w K mg base 5 "_law_is_kept" ["_law_book", "_law_table", "_law_names_here"] (spIsK K C) := by
  refine D.clG sc_isk (fun vs H Q E h => ?_) (fun _ _ _ _ _ _ us hl => match us, hl with | [_, _, _], _ => rfl) (fun f cdv A outer s H vs Q hr hG h => ?_)
  · obtain ⟨bk, pl, td, nl, E, past, T, N, k, zs, rfl, _⟩ := h
    rfl
  · obtain ⟨bk, pl, td, nl, E, past, Tb, N, k, zs, rfl, hb, ht, hrel, hk, hnl, hzl, hz, q⟩ := h
    have hu := hu_of hr
    have hsz : (100 : Nat) < sizeLine := by decide
    refine ⟨_, pss_cons (ps_for PassesOwn.never rfl (pi_list (pe_lc (own := [("_law_each", 3)]) (g := gName 3) (tt := tTest (tDIn (tVar 3) (tVar 1))) (te := tVar 3) (by rfl) sc_isk.nd (pi_list (pv 2))
        (blkOk_by (own := [("_law_each", 3)]) (N := ["_law_book", "_law_table", "_law_names_here", "_law_each", "_law_name"]) (sc := defScope s__law_is_kept) (by decide +kernel))
        (fun _ _ _ _ _ => pg_name (i := 3) sc_isk.nd rfl (Or.inl rfl)) (fun _ _ _ _ _ => pts_one (pt_cmp (pc_din hu (pv 3) (pv 1)))) (fun _ _ _ _ _ => pv 3))) (pg_name (i := 4) sc_isk.nd rfl (Or.inl rfl))
        (pss_one (ps_if (pt_cmpR op_ne (pe_callB (call_reprD hG hr.units) (by rfl) T.repr (by decide +kernel) (pa_cons (pe_mtd c1 B.cl hr (by decide) (pv 0) (pa_cons (pv 4) pa_nil)) pa_nil))
          (pe_callB (call_reprD hG hr.units) (by rfl) T.repr (by decide +kernel) (pa_cons (pe_cl c2 hr (by decide) (by rfl) (pa_cons (pe_dget hu (pv 1) (pv 4) (fun _ _ => rfl)) pa_nil)) pa_nil)) (nomark _)) (pss_one (ps_ret pe_bl)) pss_nil)))
      (pss_one (ps_ret pe_bl)), ?_⟩
    refine ⟨_, rfl, nl, rfl, ⟨_, SqL.of hnl⟩, fun L hL => ?_⟩
    refine lc_list (K := K) (a := nl) (xs := zs.map V.str) (fun i H' => H' L = some (.lst (((zs.take i).filter fun z => (Tb z).isSome).map V.str)) ∧ Same H H') ⟨upd_same, same_upd hL⟩ (fun i H' _ ⟨_, h⟩ => SqL.of (h _ _ hnl)) ?_ ?_
    · rintro i x H1 hx ⟨hacc, hs⟩
      obtain ⟨z, hzi, rfl⟩ : ∃ z, zs[i]? = some z ∧ x = V.str z := by
        rw [List.getElem?_map] at hx
        cases e : zs[i]? with
        | none => rw [e] at hx; cases hx
        | some z => rw [e] at hx; exact ⟨z, rfl, (Option.some.inj hx).symm⟩
      obtain ⟨o, ho, ho2⟩ := (ht.same hs).look z
      refine ⟨rfl, _, rfl, _, rfl, td, o, rfl, ho, _, rfl, ite2 (fun hc => ?_) (fun hc => ?_)⟩
      · rw [ho2] at hc
        have := filter_take_len zs (fun z => (Tb z).isSome) i
        refine ⟨_, rfl, _, hacc, by rw [List.length_map]; omega, ?_, fun b o e => ?_⟩
        · rw [upd_same, take_filter hzi, if_pos hc, List.map_append]
          rfl
        · rw [upd_ne (ne_of_none e hL)]
          exact hs _ _ e
      · rw [ho2] at hc
        refine ⟨?_, hs⟩
        rw [take_filter hzi, if_neg hc, List.append_nil]
        exact hacc
    · rintro H1 ⟨hacc, hs1⟩
      rw [List.length_map, List.take_length] at hacc
      refine ⟨L, rfl, ⟨_, SqL.of hacc⟩, for_list (K := K) (a := L) (xs := (zs.filter fun z => (Tb z).isSome).map V.str) (fun i σ H' => (∃ v3 v4, σ = [some (.ref bk), some (.ref td), some (.ref nl), v3, v4]) ∧ Same H1 H') ⟨⟨none, none, rfl⟩, Same.refl H1⟩ (fun i σ H' _ e => SqL.of (e.2 _ _ hacc)) ?_ ?_⟩
      · rintro i x σ H2 hx ⟨⟨v3, v4, rfl⟩, s2⟩
        obtain ⟨z, hzi, rfl⟩ : ∃ z, (zs.filter fun z => (Tb z).isSome)[i]? = some z ∧ x = V.str z := by
          rw [List.getElem?_map] at hx
          cases e : (zs.filter fun z => (Tb z).isSome)[i]? with
          | none => rw [e] at hx; cases hx
          | some z => rw [e] at hx; exact ⟨z, rfl, (Option.some.inj hx).symm⟩
        obtain ⟨hzm, hzs⟩ := List.mem_filter.mp (List.mem_of_getElem? hzi)
        obtain ⟨r, hr2⟩ := Option.isSome_iff_exists.mp hzs
        have s12 := Same.trans hs1 s2
        have hb2 := hb.same s12
        obtain ⟨dx, ve, vs, e1, e2, e3, e4⟩ := hb2.ex
        have hsm : Small r := (hrel.row hr2).small (by omega)
        have hle := hrel.len
        refine ⟨_, rfl, bk, dx, _, rfl, e1, bf_no _ _ (by decide +kernel) (by decide +kernel), _, rfl, bk, pl, z, r, E, past, rfl, hb2, hz z hzm, hrel.get hr2, by omega, Nat.le_trans hsm.len (by decide), hsm.w, fun a H3 s3 ha => ?_⟩
        obtain ⟨q1, q2, q3, q4, q5⟩ := repr_ok (K := K) ha.t hsm.shw
        refine ⟨a, rowD _, rfl, q1, q2, q3, q4, q5, ?_⟩
        obtain ⟨b, hget, hbv⟩ := (ht.same (Same.trans s12 s3)).get hr2
        refine ⟨_, rfl, _, rfl, td, _, rfl, hget, b, r, rfl, hbv.t, Nat.le_trans hsm.len (by decide), hsm.w, fun c H4 s4 hc => ?_⟩
        obtain ⟨q1, q2, q3, q4, q5⟩ := repr_ok (K := K) hc.t hsm.shw
        refine ⟨c, rowD _, rfl, q1, q2, q3, q4, q5, ?_⟩
        refine ⟨rfl, _, rfl, ifF (str_ne rfl) ?_⟩
        exact ⟨⟨_, _, rfl⟩, Same.trans s2 (Same.trans s3 s4)⟩
      · rintro σ H2 ⟨⟨v3, v4, rfl⟩, s2⟩
        exact q H2 (Same.trans hs1 s2)
/-! ### weight given to an entry, as grown tells -/
def spIsG (K : PySem.W.Frag) (C : Addr) : Sp := fun vs H Q _ => ∃ (bk pl a : Addr) (n : Str) (p w : Int) (r : Row) (E : Entries) (past : List Entries) (T : Tab) (k : Nat), vs = [.ref bk, .str n, .ref a, .int p, .int w] ∧ BookAt K C H bk pl E past ∧ past.length ≤ 1000 ∧ Rel k E T ∧ k ≤ 11 ∧ NameOk n ∧ T n = some r ∧ RowV H a r ∧ Wt r p w ∧
  ∀ H', Fr [bk, pl] H H' → BookAt K C H' bk pl (moreE E n p w) (past ++ [E]) → Q (.bl true) H'
theorem sc_isg : FnScope ["_law_book", "_law_name", "_law_row_here", "_law_at", "_law_weight_here", "_law_ahead", "_law_due"] ["_law_book", "_law_name", "_law_row_here", "_law_at", "_law_weight_here"] (defScope s__law_is_grown) := ⟨rfl, rfl, rfl, by decide +kernel, rfl, by decide +kernel, by decide +kernel⟩
theorem ok_isg (D : Df K mg "_law_is_grown" s__law_is_grown) (T : Free mg) (B : TB K mg C) (c1 : Mt P w K mg base 4 C "kept" ["self", "name"] (spKept K C)) (c2 : Cl P w K mg base 3 "_law_gaps" ["_law_row_here"] (spGaps K)) (c3 : Mt P w K mg base 5 C "more" ["self", "name", "place", "weight"] (spMore K C))
    (c4 : Cl P w K mg base 2 "_law_plus" ["_law_one", "_law_two", "_law_many"] (spLPlus K)) (c5 : Cl P w K mg base 5 "grown" ["told", "row", "place", "weight"] spGrown) : ClG P w K mg base 6 "_law_is_grown" ["_law_book", "_law_name", "_law_row_here", "_law_at", "_law_weight_here"] (spIsG K C) := by
  refine D.clG sc_isg (fun vs H Q E h => ?_) (fun _ _ _ _ _ _ us hl => match us, hl with | [_, _, _, _, _], _ => rfl) (fun f cdv A outer s H vs Q hr hG h => ?_)
  · obtain ⟨bk, pl, a, n, p, w, r, E, past, T, k, rfl, _⟩ := h
    rfl
  · obtain ⟨bk, pl, a, n, p, w, r, E, past, Tb, k, rfl, hb, hpl, hrel, hk, hn, hTn, ha, hw, q⟩ := h
    have hu := hu_of hr
    refine ⟨_, pss_cons (ps_set (i := 5) sc_isg.nd rfl (Or.inl rfl) (pe_mtd c1 B.cl hr (by decide) (pv 0) (pa_cons (pv 1) pa_nil)))
      (pss_cons (ps_expr (pe_mtd c3 B.cl hr (by decide) (pv 0) (pa_cons (pv 1) (pa_cons (pv 3) (pa_cons (pv 4) pa_nil)))))
      (pss_cons (ps_set (i := 6) sc_isg.nd rfl (Or.inl rfl) (pe_callB (call_reprD hG hr.units) (by rfl) T.repr (by decide +kernel) (pa_cons (pe_cl c2 hr (by decide) (by rfl) (pa_cons (pe_cl c4 hr (by decide) (by rfl) (pa_cons (pv 2) (pa_cons (pe_tup (pa_cons (pe_tup (pa_cons (pv 3) (pa_cons (pv 4) pa_nil))) pa_nil)) (pa_cons pe_int pa_nil)))) pa_nil)) pa_nil)))
      (pss_one (ps_ret (pe_and (pe_cmpR op_eq (pe_callB (call_reprD hG hr.units) (by rfl) T.repr (by decide +kernel) (pa_cons (pe_cl c5 hr (by decide) (by rfl) (pa_cons (pv 5) (pa_cons (pv 2) (pa_cons (pv 3) (pa_cons (pv 4) pa_nil))))) pa_nil)) (pv 6) (nomark _))
        (pe_one (pe_cmpR op_eq (pe_callB (call_reprD hG hr.units) (by rfl) T.repr (by decide +kernel) (pa_cons (pe_mtd c1 B.cl hr (by decide) (pv 0) (pa_cons (pv 1) pa_nil)) pa_nil)) (pv 6) (nomark _)))))))), ?_⟩
    obtain ⟨dx, ve, vs, e1, e2, e3, e4⟩ := hb.ex
    have hgd := hrel.row hTn
    have hsm : Small r := hgd.small (by omega)
    have hrel2 := hrel.more hTn hw
    have hsm2 : Small (plus r [(p, w)]) := (hgd.plus hw).small (by omega)
    have hle := hrel.len
    have hget2 : getE (moreE E n p w) n = [plus r [(p, w)]] := hrel2.get (by unfold putT; rw [if_pos rfl])
    refine ⟨_, rfl, bk, dx, _, rfl, e1, bf_no _ _ (by decide +kernel) (by decide +kernel), _, rfl, bk, pl, n, r, E, past, rfl, hb, hn, hrel.get hTn, by omega, Nat.le_trans hsm.len (by decide), hsm.w, fun g H1 s1 hg => ?_⟩
    -- book.more
    refine ⟨_, rfl, bk, dx, _, rfl, s1 _ _ e1, bf_no _ _ (by decide +kernel) (by decide +kernel), _, rfl, _, rfl, _, rfl, bk, pl, n, p, w, E, past, rfl, hw.ne, hb.same s1, hpl, hn, by rw [hrel.get hTn]; exact List.cons_ne_nil _ _, by omega, hrel.small (by omega), hrel2.small (by omega), fun H2 f2 hb2 => ?_⟩
    -- due
    refine ⟨_, rfl, _, rfl, _, rfl, (by show 2 ≤ sizeLine; decide), fun t1 ht1 => ⟨(by show 1 ≤ sizeLine; decide), fun t2 ht2 => ?_⟩⟩
    have s3 := same_new (same_upd (o := .tup [.int p, .int w]) ht1) (o := .tup [.ref t1]) ht2
    have ha2 : RowV H2 a r := (ha.stay (same_stay s1)).stay f2.stay
    refine ⟨a, t2, r, [(p, w)], rfl, (ha2.stay (same_stay s3)).t, one_pair ht1 ht2, Nat.le_trans hsm.len (by decide), Nat.le_of_ble_eq_true rfl, fun m H4 s4 hm => ?_⟩
    refine ⟨m, _, rfl, hm.t, Nat.le_trans hsm2.len (by decide), hsm2.w, fun c H5 s5 hc => ?_⟩
    obtain ⟨q1, q2, q3, q4, q5⟩ := repr_ok (K := K) hc.t hsm2.shw
    refine ⟨c, rowD _, rfl, q1, q2, q3, q4, q5, ?_⟩
    have s25 : Same H2 H5 := Same.trans s3 (Same.trans s4 s5)
    -- grown
    refine ⟨_, rfl, _, rfl, _, rfl, _, rfl, g, a, p, w, r, rfl, (hg.stay f2.stay).stay (same_stay s25), ha2.stay (same_stay s25), hgd.ok, hsm.len, hsm.w, hsm2.len, hsm2.w, fun z H6 s6 hz => ?_⟩
    obtain ⟨q1, q2, q3, q4, q5⟩ := repr_ok (K := K) hz.t hsm2.shw
    refine ⟨z, rowD _, rfl, q1, q2, q3, q4, q5, ?_⟩
    refine ⟨_, rfl, rfl, _, rfl, ifT (decide_eq_true rfl) ?_⟩
    have s26 : Same H2 H6 := Same.trans s25 s6
    have hb6 := hb2.same s26
    obtain ⟨dx6, ve6, vs6, g1, g2, g3, g4⟩ := hb6.ex
    have hle2 := hrel2.len
    refine ⟨_, rfl, bk, dx6, _, rfl, g1, bf_no _ _ (by decide +kernel) (by decide +kernel), _, rfl, bk, pl, n, _, _, _, rfl, hb6, hn, hget2, by omega, Nat.le_trans hsm2.len (by decide), hsm2.w, fun y H7 s7 hy => ?_⟩
    obtain ⟨q1, q2, q3, q4, q5⟩ := repr_ok (K := K) hy.t hsm2.shw
    refine ⟨y, rowD _, rfl, q1, q2, q3, q4, q5, ?_⟩
    refine ⟨_, rfl, rfl, ?_⟩
    have fin := q H7 (Fr.trans (Fr.pre s1 f2) (Fr.of (Same.trans s26 s7))) (hb6.same s7)
    have e : decide (V.str (rowD (gaps (plus r [(p, w)]))).shown = V.str (rowD (gaps (plus r [(p, w)]))).shown) = true := decide_eq_true rfl
    rw [← e] at fin
    exact fin
end
end Sg
/-! ## SgE6 -/
namespace Sg
open PySem PySem.Spec PyProof.Rows L2
theorem in3 {W : List Addr} {H : Hp} {x y z : Addr} (hx : x ∈ W ∨ H x = none) (hy : y ∈ W ∨ H y = none) (hz : z ∈ W ∨ H z = none) : ∀ b ∈ [x, y, z], b ∈ W ∨ H b = none := fun b hb => by
  rcases List.mem_cons.mp hb with q | hb
  · rw [q]; exact hx
  · rcases List.mem_cons.mp hb with q | hb
    · rw [q]; exact hy
    · rw [List.mem_singleton.mp hb]; exact hz
theorem PotAt.nl {H : Hp} {pt a : Addr} {o : HO} (h : PotAt H pt) (e : H a = some o) (ho : ∀ d s n : Int, o ≠ .lst [.int d, .int s, .int n]) : a ≠ pt := fun q => by
  obtain ⟨d, s, n, ep, _⟩ := h
  rw [q, ep] at e
  cases e
  exact ho d s n rfl
theorem BookAt.npt {K : PySem.W.Frag} {C : Addr} {H : Hp} {bk pl pt : Addr} {E : Entries} {past : List Entries} (h : BookAt K C H bk pl E past) (p : PotAt H pt) : bk ≠ pt := by
  obtain ⟨dx, ve, vs, e1, _⟩ := h.ex
  exact p.nl e1 fun _ _ _ q => nomatch q
theorem not_in1 {a b : Addr} (h : a ≠ b) : a ∉ [b] := fun q => h (List.mem_singleton.mp q)
theorem BookAt.frp {K : PySem.W.Frag} {C : Addr} {H H' : Hp} {bk pl pt : Addr} {E : Entries} {past : List Entries} (h : BookAt K C H bk pl E past) (f : Fr [pt] H H') (n1 : bk ≠ pt) (n2 : pl ≠ pt) : BookAt K C H' bk pl E past := h.fr f (not_in1 n1) (not_in1 n2)
theorem PotAt.frb {H H' : Hp} {bk pl pt : Addr} (p : PotAt H pt) (f : Fr [bk, pl] H H') (n1 : bk ≠ pt) (n2 : pl ≠ pt) : PotAt H' pt := p.fr f fun q => by
  rcases List.mem_cons.mp q with z | z
  · exact n1 z.symm
  · exact n2 (List.mem_singleton.mp z).symm
theorem Fr.w3 {pt bk pl : Addr} {H H' : Hp} (f : Fr [pt] H H') : Fr [pt, bk, pl] H H' := f.mono fun x hx => by rw [List.mem_singleton.mp hx]; exact List.mem_cons_self
theorem Fr.b3 {pt bk pl : Addr} {H H' : Hp} (f : Fr [bk, pl] H H') : Fr [pt, bk, pl] H H' := f.mono fun x hx => List.mem_cons_of_mem _ hx
section
variable {P : Program} {w : World} {K : PySem.W.Frag} {mg : Str → Option Value} {base : Heap} {C : Addr}
def spFresh (K : PySem.W.Frag) (C : Addr) : Sp := fun vs H Q _ => ∃ (pt bk pl td : Addr) (n : Str) (E : Entries) (past : List Entries) (T : Tab) (N k : Nat), vs = [.ref pt, .ref bk, .ref td, .str n] ∧ PotAt H pt ∧ pl ≠ pt ∧ BookAt K C H bk pl E past ∧ past.length ≤ 1000 ∧ TabAt H td T N ∧ N ≤ 60 ∧ Rel k E T ∧ k ≤ 11 ∧ NameOk n ∧ T n = none ∧
  ∀ a r H', Fr [pt, bk, pl] H H' → PotAt H' pt → BookAt K C H' bk pl (E ++ [(n, r)]) (past ++ [E]) → RowV H' a r → Good k r → Q (.ref a) H'
abbrev tFr2 (K : PySem.W.Frag) (C : Addr) : TS := tSeq (tAsg (tCl spLRow (tCons (tVar 0) (tCons (tPk K (tCons (tC (.int 2)) (tCons (tC (.int 4)) (tCons (tC (.int 6)) (tCons (tC (.int 20)) tNil))))) tNil))) (gName 8))
  (tSeq (tDrop (tMtd C "put" (spPut K C) (tVar 1) (tCons (tVar 3) (tCons (tVar 8) tNil)))) (tRet (tVar 8)))
theorem read_fr2 {H : Hp} {Q : VK} {pt bk pl td : Addr} {n : Str} {E : Entries} {past : List Entries} {T : Tab} {k : Nat} {v4 v5 v6 v7 v8 v9 v10 : Option V} (hp : PotAt H pt) (npl : pl ≠ pt) (hb : BookAt K C H bk pl E past) (hpl : past.length ≤ 1000) (hrel : Rel k E T) (hk : k ≤ 11) (hn : NameOk n) (hT : T n = none)
    (q : ∀ a r H', Fr [pt, bk, pl] H H' → PotAt H' pt → BookAt K C H' bk pl (E ++ [(n, r)]) (past ++ [E]) → RowV H' a r → Good k r → Q (.ref a) H') {D : Ends} (hD : D.rt = Q) :
    tFr2 K C D [some (.ref pt), some (.ref bk), some (.ref td), some (.str n), v4, v5, v6, v7, v8, v9, v10] H := by
  refine ⟨_, rfl, _, rfl, (by show 4 ≤ sizeLine; decide), fun l hl => ?_⟩
  refine ⟨pt, .ref l, rfl, hp.up hl, .inr ⟨l, _, rfl, by show 1 ≤ 4; decide, by show 4 ≤ 1000; decide, .inl ⟨upd_same, hp.ne hl⟩, fun y H1 hy f1' p1 => ?_⟩⟩
  obtain ⟨m, hm, rfl⟩ := mem_ints (is := [2, 4, 6, 20]) hy
  have f1 := Fr.trans (Fr.of (same_upd hl)) f1'
  have bm : 0 ≤ m ∧ m ≤ 20 := by
    simp only [List.mem_cons, List.not_mem_nil, or_false] at hm
    rcases hm with q | q | q | q <;> omega
  refine ⟨pt, m, rfl, p1, bm.1, bm.2, fun a r H2 f2 p2 ha hok hlen hbnd => ?_⟩
  have f12 := Fr.trans f1 f2
  have nbk := hb.npt hp
  have hb2 := hb.frp f12 nbk npl
  have hle := hrel.len
  have hg : Good k r := ⟨hok, hlen, hbnd.mono (by decide) (Nat.le_trans (show 10 ^ 12 ≤ 10 ^ 60 by decide) (Nat.le_add_right _ _))⟩
  obtain ⟨dx, ve, vs, e1, e2, e3, e4⟩ := hb2.ex
  refine ⟨_, rfl, bk, dx, _, rfl, e1, bf_no _ _ (by decide +kernel) (by decide +kernel), _, rfl, _, rfl, bk, pl, a, n, r, E, past, rfl, hb2, hpl, hn, ha, hok, hg.small (by omega), hrel.no hT, by omega, hrel.small (by omega), fun H3 f3 hb3 => ⟨_, rfl, ?_⟩⟩
  rw [hD]
  exact q a r H3 (Fr.trans f12.w3 f3.b3) (p2.frb f3 nbk npl) hb3 (ha.stay f3.stay) hg
abbrev rMx : List V → Hp → VK → Prop := fun xs H Q => ∃ i j, xs = [.int i, .int j] ∧ Q (.int (if j > i then j else i)) H
abbrev rAb : List V → Hp → VK → Prop := fun xs H Q => ∃ i, xs = [.int i] ∧ Q (.int (if i < 0 then -i else i)) H
abbrev rLenQ (K : PySem.W.Frag) : List V → Hp → VK → Prop := fun xs H Q => ∃ p ys, xs = [.ref p] ∧ (SqL K H p ys ∨ SqT K H p ys) ∧ Q (.int ys.length) H
abbrev rGe : R2 := rI0 fun i j => .bl (decide (j ≤ i))
abbrev rLe : R2 := rI0 fun i j => .bl (decide (i ≤ j))
abbrev tGrT (K : PySem.W.Frag) : TT := tTest (tOp rGe (tCB rMx (tCons (tCB rAb (tCons (tOp (rIxT K) (tVar 10) (tC (.int 0))) tNil)) (tCons (tCB rAb (tCons (tOp (rIxT K) (tVar 10) (tC (.int 1))) tNil)) tNil))) (tPow K 60))
abbrev tFr1 (K : PySem.W.Frag) (C : Addr) : TS := tSeq (tAsg (tLc (iTup K (tVar 8)) (gName 10) (tGrT K) (tVar 10) [10]) (gName 9))
  (tIfS (tAnd (tTest (tOp rLe (tCB (rLenQ K) (tCons (tVar 8) tNil)) (tC (.int 20)))) (tTest (tOp (rEqNil K false) (tVar 9) (tLst tNil))))
    (tSeq (tIfS (tB (tVar 7)) (tDrop (tMtd C "join" (spJoin K C id) (tVar 1) (tCons (tVar 3) (tCons (tVar 5) (tCons (tVar 6) tNil))))) (tDrop (tMtd C "cross" (spJoin K C mirror) (tVar 1) (tCons (tVar 3) (tCons (tVar 5) (tCons (tVar 6) tNil)))))) (tRet (tVar 8))) tNext)
theorem read_fr1 {H : Hp} {Q : VK} {pt bk pl td m : Addr} {n x y : Str} {rx ry : Row} {E : Entries} {past : List Entries} {T : Tab} {k : Nat} {jb : Bool} {v4 v9 v10 : Option V} (hp : PotAt H pt) (npl : pl ≠ pt) (hb : BookAt K C H bk pl E past) (hpl : past.length ≤ 1000) (hrel : Rel k E T) (hk : k ≤ 11) (hn : NameOk n) (hT : T n = none)
    (hx : NameOk x) (hy : NameOk y) (hTx : T x = some rx) (hTy : T y = some ry) (hm : RowV H m (times rx ((if jb = true then id else mirror) ry)))
    (q : ∀ a r H', Fr [pt, bk, pl] H H' → PotAt H' pt → BookAt K C H' bk pl (E ++ [(n, r)]) (past ++ [E]) → RowV H' a r → Good k r → Q (.ref a) H') {D : Ends} (hD : D.rt = Q)
    (hnx : ∀ v9 v10 H', Same H H' → D.nx [some (.ref pt), some (.ref bk), some (.ref td), some (.str n), v4, some (.str x), some (.str y), some (.bl jb), some (.ref m), v9, v10] H') :
    tFr1 K C D [some (.ref pt), some (.ref bk), some (.ref td), some (.str n), v4, some (.str x), some (.str y), some (.bl jb), some (.ref m), v9, v10] H := by
  have gx := hrel.row hTx
  have gy := hrel.row hTy
  have sx : Small rx := gx.small (by omega)
  have sy : Small ry := gy.small (by omega)
  have nbk := hb.npt hp
  have hle := hrel.len
  have hsz : (400 : Nat) < sizeLine := by decide
  generalize hrow : times rx ((if jb = true then id else mirror) ry) = row at hm
  have hlen : row.length ≤ 400 := by
    rw [← hrow]
    refine Nat.le_trans (times_len _ _) ?_
    have e : ((if jb = true then id else mirror) ry).length = ry.length := by
      cases jb
      · exact mirror_len ry
      · rfl
    rw [e]
    exact Nat.mul_le_mul sx.len sy.len
  obtain ⟨o, vs, hv, ho, hpv⟩ := hm.ex
  have lv := Paired.len hpv
  have hvT : SqT K H m vs := .inl (.inr ⟨o, hv⟩)
  have e60 : ((10 : Int) ^ (60 : Int).toNat) = 10 ^ 60 := rfl
  refine ⟨_, rfl, m, rfl, ⟨_, hvT⟩, fun L hL => ?_⟩
  refine lc_tup (K := K) (a := m) (xs := vs) (fun i H' => ∃ acc : List V, H' L = some (.lst acc) ∧ acc.length ≤ i ∧ (acc.isEmpty = true → ∀ p ∈ row.take i, p.1.natAbs ≤ 10 ^ 60 ∧ p.2.natAbs ≤ 10 ^ 60) ∧ Same H H') ?_ ?_ ?_ ?_
  · exact ⟨[], upd_same, Nat.le_refl _, (fun _ p hp => nomatch hp), same_upd hL⟩
  · exact fun i H' _ ⟨_, _, _, _, h⟩ => Stay.tup (same_stay h) hvT
  · rintro i z H1 hz ⟨acc, hacc, hal, hall, hs⟩
    obtain ⟨p, hpi, t, rfl, ht⟩ := Paired.get' hpv hz
    have hi := (List.getElem?_eq_some_iff.mp hpi).1
    have ht1 := hs _ _ ht
    refine ⟨rfl, _, rfl, t, _, _, _, rfl, rfl, .of ht1, atI_nat (j := 0) rfl, p.1, rfl, _, rfl, t, _, _, _, rfl, rfl, .of ht1, atI_nat (j := 1) rfl, p.2, rfl, _, _, rfl, _, _, rfl, rfl, ⟨by decide, by decide, by decide⟩, _, _, rfl, rfl, _, rfl, ?_⟩
    refine ite2 (fun hc => ?_) (fun hc => ?_)
    · refine ⟨_, rfl, acc, hacc, by omega, acc ++ [.ref t], upd_same, by rw [List.length_append, List.length_singleton]; omega, fun he => ?_, fun b u e => ?_⟩
      · cases acc <;> cases he
      · rw [upd_ne (ne_of_none e hL)]
        exact hs _ _ e
    · refine ⟨acc, hacc, by omega, fun he w hw => ?_, hs⟩
      rw [List.take_add_one, hpi] at hw
      rcases List.mem_append.mp hw with z | z
      · exact hall he w z
      · rw [List.mem_singleton.mp (show w ∈ [p] from z)]
        have hc2 : ¬ ((10 : Int) ^ 60 ≤ (if (if p.2 < 0 then -p.2 else p.2) > (if p.1 < 0 then -p.1 else p.1) then (if p.2 < 0 then -p.2 else p.2) else (if p.1 < 0 then -p.1 else p.1))) := fun z => hc (decide_eq_true z)
        constructor
        · split at hc2 <;> split at hc2 <;> split at hc2 <;> omega
        · split at hc2 <;> split at hc2 <;> split at hc2 <;> omega
  · rintro H1 ⟨acc, hacc, hal, hall, hs⟩
    rw [lv, List.take_length] at hall
    refine ⟨_, rfl, m, vs, rfl, .inr (Stay.tup (same_stay hs) hvT), _, _, rfl, rfl, _, rfl, ite2 (fun hc => ?_) (fun hc => ?_)⟩
    · refine ⟨_, rfl, Nat.zero_le _, fun l hl => ⟨L, l, acc, rfl, rfl, SqL.of (by rw [upd_ne (ne_of_none hacc hl)]; exact hacc), SqL.of upd_same, _, rfl, ite2 (fun hc2 => ?_) (fun hc2 => ?_)⟩⟩
      · have s2 : Same H _ := same_new hs hl (o := .lst [])
        have hall2 := hall hc2
        have hlen20 : row.length ≤ 20 := by
          have := of_decide_eq_true hc
          omega
        have hg : Good k row := ⟨by rw [← hrow]; exact times_ok _ _, hlen20, Bnd.mono (show Bnd (10 ^ 60) (10 ^ 60) row from hall2) (Nat.le_refl _) (Nat.le_add_right _ _)⟩
        have hb2 := hb.same s2
        obtain ⟨dx, ve, us, e1, e2, e3, e4⟩ := hb2.ex
        have p2 := hp.same s2
        cases jb with
        | true =>
          refine ⟨_, rfl, _, rfl, ifT rfl ?_⟩
          refine ⟨_, rfl, bk, dx, _, rfl, e1, bf_no _ _ (by decide +kernel) (by decide +kernel), _, rfl, _, rfl, _, rfl, bk, pl, n, x, y, rx, ry, E, past, rfl, hb2, hpl, hn, hx, hy, hrel.no hT, hrel.get hTx, hrel.get hTy, by omega, hrel.small (by omega), Nat.le_trans sx.len (by decide), Nat.le_trans sy.len (by decide), sx.w, sy.w, ?_, fun H3 f3 hb3 => ⟨_, rfl, ?_⟩⟩
          · have : times rx (id ry) = row := hrow
            rw [this]
            exact hg.small (by omega)
          · have e : times rx (id ry) = row := hrow
            rw [e] at hb3
            rw [hD]
            exact q m row H3 (Fr.trans (Fr.of s2) f3.b3) (p2.frb f3 nbk npl) hb3 ((hm.stay (same_stay s2)).stay f3.stay) hg
        | false =>
          refine ⟨_, rfl, _, rfl, ifF rfl ?_⟩
          refine ⟨_, rfl, bk, dx, _, rfl, e1, bf_no _ _ (by decide +kernel) (by decide +kernel), _, rfl, _, rfl, _, rfl, bk, pl, n, x, y, rx, ry, E, past, rfl, hb2, hpl, hn, hx, hy, hrel.no hT, hrel.get hTx, hrel.get hTy, by omega, hrel.small (by omega), Nat.le_trans sx.len (by decide), Nat.le_trans sy.len (by decide), sx.w, sy.w, ?_, fun H3 f3 hb3 => ⟨_, rfl, ?_⟩⟩
          · have : times rx (mirror ry) = row := hrow
            rw [this]
            exact hg.small (by omega)
          · have e : times rx (mirror ry) = row := hrow
            rw [e] at hb3
            rw [hD]
            exact q m row H3 (Fr.trans (Fr.of s2) f3.b3) (p2.frb f3 nbk npl) hb3 ((hm.stay (same_stay s2)).stay f3.stay) hg
      · exact hnx _ _ _ (same_new hs hl (o := .lst []))
    · exact ifF rfl (hnx _ _ _ hs)
theorem sc_fresh : FnScope ["_law_pot_here", "_law_book", "_law_table", "_law_name", "_law_some", "_law_one", "_law_other", "_law_is_joined", "_law_row_here", "_law_great", "_law_pair"] ["_law_pot_here", "_law_book", "_law_table", "_law_name"] (defScope s__law_fresh) := ⟨rfl, rfl, rfl, by decide +kernel, rfl, by decide +kernel, by decide +kernel⟩
theorem ok_fresh (D : Df K mg "_law_fresh" s__law_fresh) (T : Free mg) (B : TB K mg C) (c1 : Cl P w K mg base 2 "_law_pick" ["_law_pot_here", "_law_some"] (spPick K)) (c2 : Cl P w K mg base 1 "_law_draw" ["_law_pot_here", "_law_many"] spDraw)
    (c3 : Cl P w K mg base 2 "_law_times" ["_law_one", "_law_two"] (spProd K)) (c4 : Cl P w K mg base 1 "_law_mirror" ["_law_row_here"] (spMirror K)) (c5 : Mt P w K mg base 5 C "join" ["self", "name", "one", "other"] (spJoin K C id)) (c6 : Mt P w K mg base 5 C "cross" ["self", "name", "one", "other"] (spJoin K C mirror))
    (c7 : Cl P w K mg base 3 "_law_row" ["_law_pot_here", "_law_most"] spLRow) (c8 : Mt P w K mg base 5 C "put" ["self", "name", "row"] (spPut K C)) :
    Cl P w K mg base 6 "_law_fresh" ["_law_pot_here", "_law_book", "_law_table", "_law_name"] (spFresh K C) := by
  refine D.cl sc_fresh (fun vs H Q E h => ?_) (fun _ _ _ _ _ _ us hl => match us, hl with | [_, _, _, _], _ => rfl) (fun f cdv A outer s H vs Q E hr h => ?_)
  · obtain ⟨pt, bk, pl, td, n, E, past, T, N, k, rfl, _⟩ := h
    rfl
  · obtain ⟨pt, bk, pl, td, n, E, past, Tb, N, k, rfl, hp, npl, hb, hpl, ht, hN, hrel, hk, hn, hTn, q⟩ := h
    have hu := hu_of hr
    refine ⟨_, pss_cons (ps_set (i := 4) sc_fresh.nd rfl (Or.inl rfl) (pe_callB (call_sortedD rfl) (by rfl) T.sorted (by decide +kernel) (pa_cons (pv 2) pa_nil)))
      (pss_cons (ps_if (PW.pt (pw_and (pt_cmpR (op_neNil hr.units0) (pv 4) (pe_lst pa_nil) (nomark _)) (pw_and1 (pt_cmpR op_eq (pe_cl c2 hr (by decide) (by rfl) (pa_cons (pv 0) (pa_cons pe_int pa_nil))) pe_int (nomark _)))))
        (pss_cons (ps_par3 (i := 5) (j := 6) (l := 7) (by rfl) sc_fresh.nd rfl rfl rfl (by decide) (by decide) (by decide) rfl rfl rfl (pa_cons (pe_cl c1 hr (by decide) (by rfl) (pa_cons (pv 0) (pa_cons (pv 4) pa_nil))) (pa_cons (pe_cl c1 hr (by decide) (by rfl) (pa_cons (pv 0) (pa_cons (pv 4) pa_nil)))
            (pa_cons (pe_cmpR op_eq (pe_cl c2 hr (by decide) (by rfl) (pa_cons (pv 0) (pa_cons pe_int pa_nil))) pe_int (nomark _)) pa_nil))) (by rfl))
        (pss_cons (ps_set (i := 8) sc_fresh.nd rfl (Or.inl rfl) (pe_cl c3 hr (by decide) (by rfl) (pa_cons (pe_dget hu (pv 2) (pv 5) (fun _ _ => rfl)) (pa_cons (pe_ifExp (pt_val (pv 7)) (pe_dget hu (pv 2) (pv 6) (fun _ _ => rfl))
            (pe_cl c4 hr (by decide) (by rfl) (pa_cons (pe_dget hu (pv 2) (pv 6) (fun _ _ => rfl)) pa_nil))) pa_nil))))
        (pss_cons (ps_setLc (i := 9) (own := [("_law_pair", 10)]) (g := gName 10) (tt := tTest (tOp (rI0 fun i j => .bl (decide (j ≤ i))) (tCB (fun xs H Q => ∃ i j, xs = [.int i, .int j] ∧ Q (.int (if j > i then j else i)) H) (tCons (tCB (fun xs H Q => ∃ i, xs = [.int i] ∧ Q (.int (if i < 0 then -i else i)) H) (tCons (tOp (rIxT K) (tVar 10) (tC (.int 0))) tNil)) (tCons (tCB (fun xs H Q => ∃ i, xs = [.int i] ∧ Q (.int (if i < 0 then -i else i)) H) (tCons (tOp (rIxT K) (tVar 10) (tC (.int 1))) tNil)) tNil))) (tPow K 60))) (te := tVar 10)
          (by rfl) sc_fresh.nd rfl rfl (sw_true rfl rfl rfl (by decide +kernel)) (pi_tup (pv 8)) (blkOk_by (own := [("_law_pair", 10)]) (N := ["_law_pot_here", "_law_book", "_law_table", "_law_name", "_law_some", "_law_one", "_law_other", "_law_is_joined", "_law_row_here", "_law_great", "_law_pair"]) (sc := defScope s__law_fresh) (by decide +kernel))
          (fun _ _ _ _ _ => pg_name (i := 10) sc_fresh.nd rfl (Or.inl rfl)) (fun _ _ _ _ _ => pts_one (pt_cmpR op_ge (pe_callB (call_max2 rfl) (by rfl) T.max (by decide +kernel) (pa_cons (pe_callB call_abs (by rfl) T.abs (by decide +kernel) (pa_cons (pe_ix ix_tup (pv 10) pe_int (fun _ _ => rfl)) pa_nil))
            (pa_cons (pe_callB call_abs (by rfl) T.abs (by decide +kernel) (pa_cons (pe_ix ix_tup (pv 10) pe_int (fun _ _ => rfl)) pa_nil)) pa_nil))) (pe_op op_pow pe_int pe_int) (nomark _))) (fun _ _ _ _ _ => pv 10))
        (pss_one (ps_if (PW.pt (pw_and (pt_cmpR op_le (pe_callB call_len_seq (by rfl) T.len boot_len (pa_cons (pv 8) pa_nil)) pe_int (nomark _)) (pw_and1 (pt_cmpR (op_eqNil hr.units0) (pv 9) (pe_lst pa_nil) (nomark _)))))
          (pss_cons (ps_if (pt_val (pv 7)) (pss_one (ps_expr (pe_mtd c5 B.cl hr (by decide) (pv 1) (pa_cons (pv 3) (pa_cons (pv 5) (pa_cons (pv 6) pa_nil))))))
            (pss_one (ps_expr (pe_mtd c6 B.cl hr (by decide) (pv 1) (pa_cons (pv 3) (pa_cons (pv 5) (pa_cons (pv 6) pa_nil))))))) (pss_one (ps_ret (pv 8)))) pss_nil))))) pss_nil)
      (pss_cons (ps_set (i := 8) sc_fresh.nd rfl (Or.inl rfl) (pe_cl c7 hr (by decide) (by rfl) (pa_cons (pv 0) (pa_cons (pe_cl c1 hr (by decide) (by rfl) (pa_cons (pv 0) (pa_cons (pe_lst (pa_cons pe_int (pa_cons pe_int (pa_cons pe_int (pa_cons pe_int pa_nil))))) pa_nil))) pa_nil))))
      (pss_cons (ps_expr (pe_mtd c8 B.cl hr (by decide) (pv 1) (pa_cons (pv 3) (pa_cons (pv 8) pa_nil)))) (pss_one (ps_ret (pv 8)))))), ?_⟩
    obtain ⟨kvs, ks, hkv, hkk, hkl, hkn⟩ := ht.keys
    refine ⟨_, rfl, td, kvs, ks, rfl, .inl hkv, hkk, by omega, fun ys p hperm _ hpn => ?_⟩
    have s1 := same_upd (o := .lst (ys.map V.str)) hpn
    have p1 := hp.same s1
    have hys : ∀ y ∈ ys, NameOk y ∧ ∃ r, Tb y = some r := fun y hy => hkn y (hperm.mem_iff.mp hy)
    have hyl : ys.length ≤ 60 := by
      rw [hperm.length_eq]
      omega
    have nbk := hb.npt hp
    have fin2 : ∀ v4 v5 v6 v7 v8 v9 v10 H', Fr [pt] H H' → PotAt H' pt → tFr2 K C { nx := fun _ H' => Q .non H', rt := Q } [some (.ref pt), some (.ref bk), some (.ref td), some (.str n), v4, v5, v6, v7, v8, v9, v10] H' := fun v4 v5 v6 v7 v8 v9 v10 H' f' p' =>
      read_fr2 p' npl (hb.frp f' nbk npl) hpl hrel hk hn hTn (fun a r H2 f2 p2 hb2 ha hg => q a r H2 (Fr.trans f'.w3 f2) p2 hb2 ha hg) rfl
    refine ⟨_, rfl, Nat.zero_le _, fun l hl => ⟨p, l, _, rfl, rfl, SqL.of (by rw [upd_ne (ne_of_none upd_same hl), upd_same]), SqL.of upd_same, _, rfl, ite2 (fun hc => ?_) (fun hc => ?_)⟩⟩
    · have s2 : Same H _ := same_new s1 hl (o := .lst [])
      have p2 := hp.same s2
      have hpos : 1 ≤ ys.length := by
        cases ys with
        | nil => cases hc
        | cons _ _ => exact Nat.succ_le_succ (Nat.zero_le _)
      have hpl2 : (upd (upd H p (.lst (ys.map V.str))) l (.lst [])) p = some (.lst (ys.map V.str)) := by rw [upd_ne (ne_of_none upd_same hl), upd_same]
      have npp : p ≠ pt := hp.ne hpn
      refine ⟨_, rfl, pt, 2, rfl, p2, by decide, by decide, fun d H3 _ _ f3 p3 => ⟨rfl, _, rfl, ite2 (fun hc2 => ?_) (fun hc2 => ?_)⟩⟩
      · have f03 : Fr [pt] H H3 := Fr.trans (Fr.of s2) f3
        have hp3 := f3.keep _ _ hpl2 (not_in1 npp)
        refine ⟨_, rfl, _, rfl, pt, .ref p, rfl, p3, .inr ⟨p, _, rfl, by rw [List.length_map]; exact hpos, by rw [List.length_map]; omega, .inl ⟨hp3, npp⟩, fun xv H4 hxv f4 p4 => ?_⟩⟩
        obtain ⟨x, hx, rfl⟩ := List.mem_map.mp hxv
        have hp4 := f4.keep _ _ hp3 (not_in1 npp)
        refine ⟨_, rfl, _, rfl, pt, .ref p, rfl, p4, .inr ⟨p, _, rfl, by rw [List.length_map]; exact hpos, by rw [List.length_map]; omega, .inl ⟨hp4, npp⟩, fun yv H5 hyv f5 p5 => ?_⟩⟩
        obtain ⟨y, hy, rfl⟩ := List.mem_map.mp hyv
        obtain ⟨nx, rx, hTx⟩ := hys x hx
        obtain ⟨ny, ry, hTy⟩ := hys y hy
        refine ⟨_, rfl, pt, 2, rfl, p5, by decide, by decide, fun d2 H6 _ _ f6 p6 => ⟨rfl, _, _, _, rfl, ?_⟩⟩
        have f06 : Fr [pt] H H6 := Fr.trans f03 (Fr.trans f4 (Fr.trans f5 f6))
        have ntd : td ≠ pt := hp.nl hkv fun _ _ _ q => nomatch q
        have ht6 := ht.fr f06 (not_in1 ntd)
        have sx : Small rx := (hrel.row hTx).small (by omega)
        have sy : Small ry := (hrel.row hTy).small (by omega)
        obtain ⟨ax, gx, vx⟩ := ht6.get hTx
        obtain ⟨ay, gy, vy⟩ := ht6.get hTy
        have fin1 : ∀ (m : Addr) H7, Same H6 H7 → RowV H7 m (times rx ((if decide (V.int d2 = V.int 0) = true then id else mirror) ry)) → ∀ v4 v9 v10, tFr1 K C { nx := tFr2 K C { nx := fun _ H' => Q .non H', rt := Q }, rt := Q } [some (.ref pt), some (.ref bk), some (.ref td), some (.str n), v4, some (.str x), some (.str y), some (.bl (decide (V.int d2 = V.int 0))), some (.ref m), v9, v10] H7 := fun m H7 s7 hm v4 v9 v10 =>
          read_fr1 (p6.same s7) npl ((hb.frp f06 nbk npl).same s7) hpl hrel hk hn hTn nx ny hTx hTy hm (fun a r H8 f8 p8 hb8 ha hg => q a r H8 (Fr.trans (Fr.trans f06 (Fr.of s7)).w3 f8) p8 hb8 ha hg) rfl
            (fun v9 v10 H8 s8 => fin2 _ _ _ _ _ _ _ H8 (Fr.trans f06 (Fr.of (Same.trans s7 s8))) ((p6.same s7).same s8))
        refine ⟨_, rfl, _, rfl, td, _, rfl, gx, _, rfl, _, rfl, ite2 (fun hj => ?_) (fun hj => ?_)⟩
        · refine ⟨_, rfl, _, rfl, td, _, rfl, gy, ax, ay, rx, ry, rfl, vx.t, vy.t, Nat.le_trans sx.len (by decide), Nat.le_trans sy.len (by decide), sx.w, sy.w, fun m H7 s7 hm => ?_⟩
          exact fin1 m H7 s7 (by rw [if_pos hj]; exact hm) _ _ _
        · refine ⟨_, rfl, _, rfl, td, _, rfl, gy, ay, ry, rfl, vy.t, Nat.le_trans sy.len (by decide), fun z H7 s7 hz => ?_⟩
          refine ⟨ax, z, rx, mirror ry, rfl, (vx.stay (same_stay s7)).t, hz.t, Nat.le_trans sx.len (by decide), by rw [mirror_len]; exact Nat.le_trans sy.len (by decide), sx.w, mirror_w sy.w, fun m H8 s8 hm => ?_⟩
          exact fin1 m H8 (Same.trans s7 s8) (by rw [if_neg hj]; exact hm) _ _ _
      · exact fin2 _ _ _ _ _ _ _ H3 (Fr.trans (Fr.of s2) f3) p3
    · exact ifF rfl (fin2 _ _ _ _ _ _ _ _ (Fr.of (same_new s1 hl (o := .lst []))) (hp.same (same_new s1 hl (o := .lst []))))
end
end Sg
/-! ## SgE7 -/
namespace Sg
open PySem PySem.Spec PyProof.Rows L2
/-! ### what _law_right keeps from turn to turn -/
def PastI (H : Hp) (k : Nat) (d : Addr) (e : Entries × Tab) : Prop := TabAt H d e.2 k ∧ Rel k e.1 e.2
structure RI (K : PySem.W.Frag) (C : Addr) (H0 H : Hp) (pt nl bk pl td lp : Addr) (zs : List Str) (E : Entries) (T : Tab) (pastE : List Entries) (L : List (Entries × Tab)) (ds : List Addr) (k : Nat) : Prop where
  fr : Fr [pt] H0 H
  pot : PotAt H pt
  nm : H nl = some (.lst (zs.map V.str))
  n5 : zs.length = 5
  nz : ∀ z ∈ zs, NameOk z
  book : BookAt K C H bk pl E pastE
  tab : TabAt H td T k
  rel : Rel k E T
  lst : H lp = some (.lst (ds.map V.ref))
  pasts : Paired (PastI H k) ds L
  tds : td ∉ ds
  nd : ds.Nodup
  plpt : pl ≠ pt
  lppt : lp ≠ pt
  lppl : lp ≠ pl
  nlpt : nl ≠ pt
  nlpl : nl ≠ pl
  nllp : nl ≠ lp
  w1 : H0 nl = none
  w2 : H0 bk = none
  w3 : H0 pl = none
  w4 : H0 td = none
  w5 : H0 lp = none
  w6 : ∀ d ∈ ds, H0 d = none
inductive FI (K : PySem.W.Frag) (C : Addr) (H : Hp) (pt bk pl td lp : Addr) (ds : List Addr) : V → V → Prop
  | no {x : V} : FI K C H pt bk pl td lp ds .non x
  | yes {b0 p0 sd : Addr} {E0 : Entries} {past0 : List Entries} {T0 : Tab} (book : BookAt K C H b0 p0 E0 past0) (tab : TabAt H sd T0 12) (rel : Rel 12 E0 T0) (h1 : b0 ≠ bk) (h2 : p0 ≠ pt) (h3 : p0 ≠ pl) (h4 : p0 ≠ lp) (h5 : sd ≠ td) (h6 : sd ∉ ds) : FI K C H pt bk pl td lp ds (.ref b0) (.ref sd)
section
variable {K : PySem.W.Frag} {C : Addr} {H0 H : Hp} {pt nl bk pl td lp : Addr} {zs : List Str} {E : Entries} {T : Tab} {pastE : List Entries} {L : List (Entries × Tab)} {ds : List Addr} {k : Nat}
theorem ne_kind {a b : Addr} {o u : HO} (e1 : H a = some o) (e2 : H b = some u) (h : o ≠ u) : a ≠ b := fun q => by
  rw [q, e2] at e1
  cases e1
  exact h rfl
theorem PastI.keep {H' : Hp} {d : Addr} {e : Entries × Tab} (h : PastI H k d e) (s : Stay H H') (q : ∀ o, H d = some o → H' d = some o) : PastI H' k d e := ⟨h.1.keep s q, h.2⟩
theorem pasts_keep {H' : Hp} (s : Stay H H') : ∀ {ds : List Addr} {L : List (Entries × Tab)}, Paired (PastI H k) ds L → (∀ d ∈ ds, ∀ o, H d = some o → H' d = some o) → Paired (PastI H' k) ds L
  | _, _, .nil, _ => .nil
  | _, _, .cons h t, q => .cons (h.keep s (q _ List.mem_cons_self)) (pasts_keep s t fun d hd => q d (List.mem_cons_of_mem _ hd))
theorem pasts_mono {k' : Nat} (hk : k ≤ k') : ∀ {ds : List Addr} {L : List (Entries × Tab)}, Paired (PastI H k) ds L → Paired (PastI H k') ds L
  | _, _, .nil => .nil
  | _, _, .cons h t => .cons ⟨h.1.mono hk, h.2.mono hk⟩ (pasts_mono hk t)
theorem pasts_dk : ∀ {ds : List Addr} {L : List (Entries × Tab)}, Paired (PastI H k) ds L → ∀ d ∈ ds, ∃ kvs, H d = some (.dK kvs)
  | _, _, .nil, _, hd => nomatch hd
  | _, _, .cons h t, d, hd => by
    rcases List.mem_cons.mp hd with q | q
    · rw [q]
      exact h.1.dk
    · exact pasts_dk t d q
theorem RI.mono {k' : Nat} (R : RI K C H0 H pt nl bk pl td lp zs E T pastE L ds k) (hk : k ≤ k') : RI K C H0 H pt nl bk pl td lp zs E T pastE L ds k' :=
  { R with tab := R.tab.mono hk, rel := R.rel.mono hk, pasts := pasts_mono hk R.pasts }
theorem RI.bkpt (R : RI K C H0 H pt nl bk pl td lp zs E T pastE L ds k) : bk ≠ pt := R.book.npt R.pot
theorem RI.tdpt (R : RI K C H0 H pt nl bk pl td lp zs E T pastE L ds k) : td ≠ pt := by
  obtain ⟨kvs, e⟩ := R.tab.dk
  exact R.pot.nl e fun _ _ _ q => nomatch q
/-- draws and picks, new things -/
theorem RI.pass {H' : Hp} (R : RI K C H0 H pt nl bk pl td lp zs E T pastE L ds k) (f : Fr [pt] H H') (p : PotAt H' pt) : RI K C H0 H' pt nl bk pl td lp zs E T pastE L ds k :=
  { R with
    fr := Fr.trans R.fr f
    pot := p
    nm := f.keep _ _ R.nm (not_in1 R.nlpt)
    book := R.book.frp f R.bkpt R.plpt
    tab := R.tab.fr f (not_in1 R.tdpt)
    lst := f.keep _ _ R.lst (not_in1 R.lppt)
    pasts := pasts_keep f.stay R.pasts fun d hd o e => by
      obtain ⟨kvs, e2⟩ := pasts_dk R.pasts d hd
      exact f.keep _ _ e (not_in1 (R.pot.nl e2 fun _ _ _ q => nomatch q)) }
theorem RI.same {H' : Hp} (R : RI K C H0 H pt nl bk pl td lp zs E T pastE L ds k) (s : Same H H') : RI K C H0 H' pt nl bk pl td lp zs E T pastE L ds k := R.pass (Fr.of s) (R.pot.same s)
theorem FI.fr {H' : Hp} {x y : V} (F : FI K C H pt bk pl td lp ds x y) (R : RI K C H0 H pt nl bk pl td lp zs E T pastE L ds k) (f : Fr [pt, bk, pl, td, lp] H H') : FI K C H' pt bk pl td lp ds x y := by
  cases F with
  | no => exact .no
  | yes book tab rel h1 h2 h3 h4 h5 h6 =>
    obtain ⟨dx, ve, vs, e1, e2, e3, e4⟩ := book.ex
    obtain ⟨kvs, ed⟩ := tab.dk
    obtain ⟨kvt, et⟩ := R.tab.dk
    obtain ⟨dd, ss, nn, ep, _⟩ := R.pot
    obtain ⟨dx2, ve2, vs2, g1, g2, g3, g4⟩ := R.book.ex
    have nb : ∀ x ∈ [pt, bk, pl, td, lp], _ ≠ x := fun x hx => by
      simp only [List.mem_cons, List.not_mem_nil, or_false] at hx
      rcases hx with q | q | q | q | q <;> rw [q]
      · exact ne_kind e1 ep (fun q => nomatch q)
      · exact h1
      · exact ne_kind e1 g3 (fun q => nomatch q)
      · exact ne_kind e1 et (fun q => nomatch q)
      · exact ne_kind e1 R.lst (fun q => nomatch q)
    have np : ∀ x ∈ [pt, bk, pl, td, lp], _ ≠ x := fun x hx => by
      simp only [List.mem_cons, List.not_mem_nil, or_false] at hx
      rcases hx with q | q | q | q | q <;> rw [q]
      · exact h2
      · exact ne_kind e3 g1 (fun q => nomatch q)
      · exact h3
      · exact ne_kind e3 et (fun q => nomatch q)
      · exact h4
    have ns : ∀ x ∈ [pt, bk, pl, td, lp], _ ≠ x := fun x hx => by
      simp only [List.mem_cons, List.not_mem_nil, or_false] at hx
      rcases hx with q | q | q | q | q <;> rw [q]
      · exact ne_kind ed ep (fun q => nomatch q)
      · exact ne_kind ed g1 (fun q => nomatch q)
      · exact ne_kind ed g3 (fun q => nomatch q)
      · exact h5
      · exact ne_kind ed R.lst (fun q => nomatch q)
    exact .yes (book.fr f (fun q => nb _ q rfl) (fun q => np _ q rfl)) (tab.fr f (fun q => ns _ q rfl)) rel h1 h2 h3 h4 h5 h6
theorem w5_1 {H H' : Hp} (f : Fr [pt] H H') : Fr [pt, bk, pl, td, lp] H H' := f.mono fun x hx => by rw [List.mem_singleton.mp hx]; exact List.mem_cons_self
theorem w5_3 {H H' : Hp} (f : Fr [pt, bk, pl] H H') : Fr [pt, bk, pl, td, lp] H H' := f.mono fun x hx => by
  simp only [List.mem_cons, List.not_mem_nil, or_false] at hx ⊢
  rcases hx with q | q | q <;> rw [q] <;> simp
/-- a copy of the table kept for undoing -/
theorem RI.push {d : Addr} {kvs : List (Key × V)} (R : RI K C H0 H pt nl bk pl td lp zs E T pastE L ds k) (hd : H d = none) (hk : H td = some (.dK kvs)) (ht : TabAt (upd H d (.dK kvs)) d T k) :
    (upd H d (.dK kvs)) lp = some (.lst (ds.map V.ref)) ∧ Fr [pt, bk, pl, td, lp] H (upd (upd H d (.dK kvs)) lp (.lst (ds.map V.ref ++ [.ref d]))) ∧ RI K C H0 (upd (upd H d (.dK kvs)) lp (.lst (ds.map V.ref ++ [.ref d]))) pt nl bk pl td lp zs E T pastE (L ++ [(E, T)]) (ds ++ [d]) k := by
  have R1 := R.same (same_upd (o := .dK kvs) hd)
  have e1 := R1.lst
  have st := stay_lst (o := .lst (ds.map V.ref ++ [.ref d])) e1
  have dlp : d ≠ lp := (ne_of_none R.lst hd).symm
  have dtd : d ≠ td := (ne_of_none hk hd).symm
  have dds : d ∉ ds := fun q => by
    obtain ⟨kv, e⟩ := pasts_dk R.pasts d q
    rw [e] at hd
    cases hd
  have f1 : Fr [lp] (upd H d (.dK kvs)) (upd (upd H d (.dK kvs)) lp (.lst (ds.map V.ref ++ [.ref d]))) := Fr.lst e1
  obtain ⟨kvt, et⟩ := R1.tab.dk
  obtain ⟨dx2, ve2, vs2, g1, g2, g3, g4⟩ := R1.book.ex
  have hd0 : H0 d = none := R.fr.none R.pot hd
  refine ⟨e1, ?_, ?_⟩
  · refine Fr.trans (Fr.of (same_upd hd)) (f1.mono fun x hx => ?_)
    rw [List.mem_singleton.mp hx]
    simp
  · exact { R1 with
      fr := Fr.drop R1.fr f1 fun x hx => by rw [List.mem_singleton.mp hx]; exact .inr R.w5
      pot := R1.pot.fr f1 (not_in1 (Ne.symm R.lppt))
      nm := f1.keep _ _ R1.nm (not_in1 R.nllp)
      book := R1.book.fr f1 (not_in1 (ne_kind g1 e1 (fun q => nomatch q))) (not_in1 (Ne.symm R.lppl))
      tab := R1.tab.fr f1 (not_in1 (ne_kind et e1 (fun q => nomatch q)))
      lst := by rw [upd_same, List.map_append]; rfl
      pasts := Paired.snoc ⟨ht.fr f1 (not_in1 dlp), R.rel⟩ (pasts_keep st R1.pasts fun x hx o e => f1.keep _ _ e (not_in1 (by
        obtain ⟨kv, e2⟩ := pasts_dk R1.pasts x hx
        exact ne_kind e2 e1 (fun q => nomatch q))))
      tds := fun q => by
        rcases List.mem_append.mp q with z | z
        · exact R.tds z
        · exact dtd (List.mem_singleton.mp z).symm
      nd := List.nodup_append.mpr ⟨R.nd, List.nodup_cons.mpr ⟨(fun q => nomatch q), List.nodup_nil⟩, fun x hx y hy z => dds (by rw [← List.mem_singleton.mp hy, ← z]; exact hx)⟩
      w6 := fun x hx => by
        rcases List.mem_append.mp hx with z | z
        · exact R.w6 x z
        · rw [List.mem_singleton.mp z]; exact hd0 }
theorem FI.push {d : Addr} {x y : V} (F : FI K C H pt bk pl td lp ds x y) (hd : H d = none) {H' : Hp} (F2 : FI K C H' pt bk pl td lp ds x y) : FI K C H' pt bk pl td lp (ds ++ [d]) x y := by
  cases F2 with
  | no => exact .no
  | yes book tab rel h1 h2 h3 h4 h5 h6 =>
    refine .yes book tab rel h1 h2 h3 h4 h5 fun q => ?_
    rcases List.mem_append.mp q with z | z
    · exact h6 z
    · cases F with
      | yes _ tab0 _ _ _ _ _ _ _ =>
        obtain ⟨kv, e⟩ := tab0.dk
        rw [List.mem_singleton.mp z, hd] at e
        cases e
/-- a deed of the book, then the table's change -/
theorem RI.deed {H1 : Hp} {o : HO} {E' : Entries} {T' : Tab} {pastE' : List Entries} {k' : Nat} (R : RI K C H0 H pt nl bk pl td lp zs E T pastE L ds k) (hk : k ≤ k') (f : Fr [pt, bk, pl] H H1) (p : PotAt H1 pt) (hb : BookAt K C H1 bk pl E' pastE') (st : Stay H1 (upd H1 td o)) (ht : TabAt (upd H1 td o) td T' k') (hr : Rel k' E' T') :
    Fr [pt, bk, pl, td, lp] H (upd H1 td o) ∧ RI K C H0 (upd H1 td o) pt nl bk pl td lp zs E' T' pastE' L ds k' := by
  obtain ⟨kvt, et⟩ := R.tab.dk
  obtain ⟨dx, ve, vs, g1, g2, g3, g4⟩ := R.book.ex
  have tdn : td ∉ [pt, bk, pl] := fun q => by
    simp only [List.mem_cons, List.not_mem_nil, or_false] at q
    rcases q with q | q | q
    · exact R.tdpt q
    · exact ne_kind et g1 (fun q => nomatch q) q
    · exact ne_kind et g3 (fun q => nomatch q) q
  have et1 := f.keep _ _ et tdn
  have f2 : Fr [td] H1 (upd H1 td o) := Fr.upd_in List.mem_cons_self st
  obtain ⟨dx1, ve1, vs1, k1, k2, k3, k4⟩ := hb.ex
  have lpn : lp ∉ [pt, bk, pl] := fun q => by
    simp only [List.mem_cons, List.not_mem_nil, or_false] at q
    rcases q with q | q | q
    · exact R.lppt q
    · exact ne_kind R.lst g1 (fun q => nomatch q) q
    · exact R.lppl q
  have nln : nl ∉ [pt, bk, pl] := fun q => by
    simp only [List.mem_cons, List.not_mem_nil, or_false] at q
    rcases q with q | q | q
    · exact R.nlpt q
    · exact ne_kind R.nm g1 (fun q => nomatch q) q
    · exact R.nlpl q
  refine ⟨?_, ?_⟩
  · refine Fr.trans (w5_3 f) (f2.mono fun x hx => ?_)
    rw [List.mem_singleton.mp hx]
    simp
  · exact { R with
      fr := Fr.drop (Fr.drop R.fr f (in3 (.inl List.mem_cons_self) (.inr R.w2) (.inr R.w3))) f2 fun x hx => by rw [List.mem_singleton.mp hx]; exact .inr R.w4
      pot := p.fr f2 (not_in1 (Ne.symm R.tdpt))
      nm := f2.keep _ _ (f.keep _ _ R.nm nln) (not_in1 (ne_kind R.nm et (fun q => nomatch q)))
      book := hb.fr f2 (not_in1 (ne_kind k1 et1 (fun q => nomatch q))) (not_in1 (ne_kind k3 et1 (fun q => nomatch q)))
      tab := ht
      rel := hr
      lst := f2.keep _ _ (f.keep _ _ R.lst lpn) (not_in1 (ne_kind R.lst et (fun q => nomatch q)))
      pasts := pasts_mono hk (pasts_keep (f.stay.trans st) R.pasts fun d hd u e => by
        obtain ⟨kv, e2⟩ := pasts_dk R.pasts d hd
        refine f2.keep _ _ (f.keep _ _ e fun q => ?_) (not_in1 fun q => R.tds (q ▸ hd))
        simp only [List.mem_cons, List.not_mem_nil, or_false] at q
        rcases q with q | q | q
        · exact R.pot.nl e2 (fun _ _ _ q => nomatch q) q
        · exact ne_kind e2 g1 (fun q => nomatch q) q
        · exact ne_kind e2 g3 (fun q => nomatch q) q) }
/-- a deed undone -/
theorem paired_snoc_inv2 {α β : Type} {F : α → β → Prop} : ∀ {xs : List α} {L : List β}, Paired F xs L → L ≠ [] → ∃ us x M b, xs = us ++ [x] ∧ L = M ++ [b] ∧ Paired F us M ∧ F x b := by
  intro xs L h hne
  obtain ⟨M, b, e⟩ : ∃ M b, L = M ++ [b] := ⟨L.dropLast, L.getLast hne, (List.dropLast_concat_getLast hne).symm⟩
  subst e
  obtain ⟨us, x, e, h1, h2⟩ := paired_snoc_inv h
  exact ⟨us, x, M, b, e, rfl, h1, h2⟩
theorem RI.undo {H1 : Hp} {d0 : Addr} {ds' : List Addr} {L' : List (Entries × Tab)} {E0 : Entries} {T0 : Tab} {pastE' : List Entries} (R : RI K C H0 H pt nl bk pl td lp zs E T pastE (L' ++ [(E0, T0)]) (ds' ++ [d0]) k) (f : Fr [bk, pl] H H1) (hb : BookAt K C H1 bk pl E0 pastE') :
    H1 lp = some (.lst ((ds' ++ [d0]).map V.ref)) ∧ Fr [pt, bk, pl, td, lp] H (upd H1 lp (.lst (ds'.map V.ref))) ∧ RI K C H0 (upd H1 lp (.lst (ds'.map V.ref))) pt nl bk pl d0 lp zs E0 T0 pastE' L' ds' k := by
  obtain ⟨us, x, e1, h1, h2⟩ := paired_snoc_inv R.pasts
  have e2 := List.append_inj' e1 rfl
  obtain ⟨eu, ex⟩ := e2
  have ex2 : d0 = x := (List.cons.inj ex).1
  subst eu
  subst ex2
  obtain ⟨dx, ve, vs, g1, g2, g3, g4⟩ := R.book.ex
  obtain ⟨kd, ed⟩ := h2.1.dk
  have two : ∀ {a : Addr} {o : HO}, H a = some o → (∀ C' dx' fs', o ≠ .ins C' dx' fs') → a ≠ pl → a ∉ [bk, pl] := fun {a o} e no np q => by
    simp only [List.mem_cons, List.not_mem_nil, or_false] at q
    rcases q with q | q
    · rw [q, g1] at e
      cases e
      exact no _ _ _ rfl
    · exact np q
  have elp := f.keep _ _ R.lst (two R.lst (fun _ _ _ q => nomatch q) R.lppl)
  have st := stay_lst (o := .lst (ds'.map V.ref)) elp
  have f2 : Fr [lp] H1 (upd H1 lp (.lst (ds'.map V.ref))) := Fr.lst elp
  have keepd : ∀ d ∈ ds' ++ [d0], ∀ o, H d = some o → (upd H1 lp (.lst (ds'.map V.ref))) d = some o := fun d hd o e => by
    obtain ⟨kv, e2⟩ := pasts_dk R.pasts d hd
    exact f2.keep _ _ (f.keep _ _ e (two e2 (fun _ _ _ q => nomatch q) (ne_kind e2 g3 (fun q => nomatch q)))) (not_in1 (ne_kind e2 R.lst (fun q => nomatch q)))
  obtain ⟨dx1, ve1, vs1, k1, k2, k3, k4⟩ := hb.ex
  obtain ⟨n1, n2, n3⟩ := List.nodup_append.mp R.nd
  refine ⟨elp, ?_, ?_⟩
  · refine Fr.trans (f.mono fun x hx => ?_) (f2.mono fun x hx => ?_)
    · simp only [List.mem_cons, List.not_mem_nil, or_false] at hx
      rcases hx with q | q <;> rw [q] <;> simp
    · rw [List.mem_singleton.mp hx]
      simp
  · exact { R with
      fr := Fr.drop (Fr.drop R.fr f fun x hx => by
        simp only [List.mem_cons, List.not_mem_nil, or_false] at hx
        rcases hx with q | q <;> rw [q]
        · exact .inr R.w2
        · exact .inr R.w3) f2 fun x hx => by rw [List.mem_singleton.mp hx]; exact .inr R.w5
      pot := (R.pot.frb f R.bkpt R.plpt).fr f2 (not_in1 (Ne.symm R.lppt))
      nm := f2.keep _ _ (f.keep _ _ R.nm (two R.nm (fun _ _ _ q => nomatch q) R.nlpl)) (not_in1 R.nllp)
      book := hb.fr f2 (not_in1 (ne_kind k1 elp (fun q => nomatch q))) (not_in1 (Ne.symm R.lppl))
      tab := h2.1.keep (f.stay.trans st) (keepd d0 (List.mem_append.mpr (.inr List.mem_cons_self)))
      rel := h2.2
      lst := upd_same
      pasts := pasts_keep (f.stay.trans st) h1 fun d hd => keepd d (List.mem_append.mpr (.inl hd))
      tds := fun q => n3 d0 q d0 List.mem_cons_self rfl
      nd := n1
      w4 := R.w6 d0 (List.mem_append.mpr (.inr List.mem_cons_self))
      w6 := fun d hd => R.w6 d (List.mem_append.mpr (.inl hd)) }
theorem FI.undo {d0 : Addr} {ds' : List Addr} {x y : V} (F : FI K C H pt bk pl td lp (ds' ++ [d0]) x y) : FI K C H pt bk pl d0 lp ds' x y := by
  cases F with
  | no => exact .no
  | yes book tab rel h1 h2 h3 h4 h5 h6 => exact .yes book tab rel h1 h2 h3 h4 (fun q => h6 (by rw [q]; exact List.mem_append.mpr (.inr List.mem_cons_self))) (fun q => h6 (List.mem_append.mpr (.inl q)))
/-- the book's twin goes on -/
theorem RI.twin {H2 : Hp} {b2 p2 sd : Addr} {kvs : List (Key × V)} (R : RI K C H0 H pt nl bk pl td lp zs E T pastE L ds k) (hk12 : k ≤ 12) (hsd : H sd = none) (hk : H td = some (.dK kvs)) (ht : TabAt (upd H sd (.dK kvs)) sd T k)
    (s : Same (upd H sd (.dK kvs)) H2) (hb2 : (upd H sd (.dK kvs)) b2 = none) (hp2 : (upd H sd (.dK kvs)) p2 = none) (hb : BookAt K C H2 b2 p2 E pastE) :
    RI K C H0 H2 pt nl b2 p2 td lp zs E T pastE L ds k ∧ FI K C H2 pt b2 p2 td lp ds (.ref bk) (.ref sd) := by
  have s1 : Same H H2 := Same.trans (same_upd hsd) s
  have R2 := R.same s1
  have hbH : H b2 = none := (same_upd hsd).free hb2
  have hpH : H p2 = none := (same_upd hsd).free hp2
  have hb0 : H0 b2 = none := R.fr.none R.pot hbH
  have hp0 : H0 p2 = none := R.fr.none R.pot hpH
  obtain ⟨dx, ve, vs, g1, g2, g3, g4⟩ := R.book.ex
  refine ⟨{ R2 with book := hb, plpt := R.pot.ne hpH, lppl := ne_of_none R.lst hpH, nlpl := ne_of_none R.nm hpH, w2 := hb0, w3 := hp0 }, ?_⟩
  refine .yes R2.book ((ht.same s).mono hk12) (R.rel.mono hk12) (ne_of_none g1 hbH) R.plpt (ne_of_none g3 hpH) (Ne.symm R.lppl) (ne_of_none hk hsd).symm fun q => ?_
  obtain ⟨kv, e⟩ := pasts_dk R.pasts sd q
  rw [e] at hsd
  cases hsd
end
end Sg
/-! ## SgT -/
namespace Sg
open PySem PySem.Spec PyProof.Rows L2
/-! ### one sorted order of names -/
def leS (a b : Str) : Prop := a.cps.toList ≤ b.cps.toList
theorem leS_of {x p : Str} (h : (!ltCps x.cps.toList p.cps.toList) = true) : leS p x := by
  rw [ltCps_eq] at h
  have h2 : decide (x.cps.toList < p.cps.toList) = false := by
    cases q : decide (x.cps.toList < p.cps.toList) with
    | true => rw [q] at h; cases h
    | false => rfl
  exact List.not_lt.mp (of_decide_eq_false h2)
theorem leS_trans {a b c : Str} (h1 : leS a b) (h2 : leS b c) : leS a c := List.le_trans h1 h2
theorem leS_anti {a b : Str} (h1 : leS a b) (h2 : leS b a) : a = b := by
  have := List.le_antisymm h1 h2
  rw [← SX.S_tl a, ← SX.S_tl b, this]
theorem rising_pw : ∀ (r : List Str) (p : Str), risingS p r = true → (p :: r).Pairwise leS
  | [], p, _ => List.pairwise_cons.mpr ⟨(fun x hx => nomatch hx), List.Pairwise.nil⟩
  | x :: r, p, h => by
    have h' : (!ltCps x.cps.toList p.cps.toList && risingS x r) = true := h
    rw [Bool.and_eq_true] at h'
    have ih := rising_pw r x h'.2
    have hx := leS_of h'.1
    refine List.pairwise_cons.mpr ⟨fun y hy => ?_, ih⟩
    rcases List.mem_cons.mp hy with q | q
    · rw [q]; exact hx
    · exact leS_trans hx ((List.pairwise_cons.mp ih).1 y q)
theorem sorted_pw : ∀ {r : List Str}, sortedS r = true → r.Pairwise leS
  | [], _ => List.Pairwise.nil
  | x :: r, h => rising_pw r x h
theorem sorted_oneS : ∀ {l l' : List Str}, l.Perm l' → l.Pairwise leS → l'.Pairwise leS → l = l'
  | [], l', h, _, _ => (List.Perm.nil_eq h)
  | a :: l, [], h, _, _ => absurd h.length_eq (by simp)
  | a :: l, b :: l', h, hp, hq => by
    obtain ⟨h1, h2⟩ := List.pairwise_cons.mp hp
    obtain ⟨h3, h4⟩ := List.pairwise_cons.mp hq
    have e : a = b := by
      have ha : a ∈ b :: l' := h.mem_iff.mp List.mem_cons_self
      have hb : b ∈ a :: l := h.mem_iff.mpr List.mem_cons_self
      rcases List.mem_cons.mp ha with q | q
      · exact q
      · rcases List.mem_cons.mp hb with z | z
        · exact z.symm
        · exact leS_anti (h1 b z) (h3 a q)
    subst e
    rw [sorted_oneS (List.Perm.cons_inv h) h2 h4]
end Sg
/-! ## SgE8 -/
namespace Sg
open PySem PySem.Spec PyProof.Rows L2
section
variable {P : Program} {w : World} {K : PySem.W.Frag} {mg : Str → Option Value} {base : Heap} {C : Addr}
abbrev tIsKc (K : PySem.W.Frag) (C : Addr) (a b c : TE) : TE := tCl (spIsK K C) (tCons a (tCons b (tCons c tNil)))
abbrev tB4 (K : PySem.W.Frag) (C : Addr) : TS := tIfS (tNot (tB (tIsKc K C (tVar 2) (tVar 3) (tLst (tCons (tVar 9) (tCons (tCl (spPick K) (tCons (tVar 0) (tCons (tVar 1) tNil))) tNil)))))) (tRet (tC (.bl false))) tNext
abbrev rDictC : List V → Hp → VK → Prop := fun xs H Q => ∃ (a : Addr) (kvs : List (Key × V)), xs = [.ref a] ∧ Rd H a (.dK kvs) ∧ ∀ p, H p = none → Q (.ref p) (upd H p (.dK kvs))
abbrev tPush (K : PySem.W.Frag) : TS := tDrop (tBM K "list" rAppend (tVar 4) (tCons (tCB rDictC (tCons (tVar 3) tNil)) tNil))
abbrev tGrowB (K : PySem.W.Frag) (C : Addr) : TS := tSeq (tAsg (tCl (spWt K) (tCons (tVar 0) (tCons (tDGet (tVar 3) (tVar 9)) tNil))) (gTup K 2 (gCons (gName 11) (gCons (gName 12) gNil))))
  (tSeq (tIfS (tNot (tB (tCl (spIsG K C) (tCons (tVar 2) (tCons (tVar 9) (tCons (tDGet (tVar 3) (tVar 9)) (tCons (tVar 11) (tCons (tVar 12) tNil)))))))) (tRet (tC (.bl false))) tNext)
    (sDPut (tVar 3) (tVar 9) (tCl (spLPlus K) (tCons (tDGet (tVar 3) (tVar 9)) (tCons (tTup (tCons (tTup (tCons (tVar 11) (tCons (tVar 12) tNil))) tNil)) (tCons (tC (.int 1)) tNil))))))
abbrev tDeedB (K : PySem.W.Frag) (C : Addr) : TS := tIfS (tTest (tDNotIn (tVar 9) (tVar 3))) (sDPut (tVar 3) (tVar 9) (tCl (spFresh K C) (tCons (tVar 0) (tCons (tVar 2) (tCons (tVar 3) (tCons (tVar 9) tNil))))))
  (tIfS (tTest (tOp rEq (tVar 10) (tC (.int 1)))) (tSeq (tDrop (tMtd C "strike" (spStrike K C) (tVar 2) (tCons (tVar 9) tNil))) (tDrop (tDPop1 (tVar 3) (tVar 9)))) (tGrowB K C))
abbrev tB3 (K : PySem.W.Frag) (C : Addr) : TS := tIfS (tAnd (tTest (tOp rEq (tVar 10) (tC (.int 0)))) (tTest (tOp (rEqNil K true) (tVar 4) (tLst tNil))))
  (tSeq (tDrop (tMtd C "undo" (spUndo K C) (tVar 2) tNil)) (tAsg (tBM0 K "list" rPop (tVar 4)) (gName 3))) (tSeq (tPush K) (tDeedB K C))
abbrev tB2 (K : PySem.W.Frag) : TS := tPar 9 10 (tCons (tCl (spPick K) (tCons (tVar 0) (tCons (tVar 1) tNil))) (tCons (tDr (tC (.int 6))) tNil))
abbrev tB1 (K : PySem.W.Frag) (C : Addr) : TS := tIfS (tTest (tOp rEq (tVar 8) (tVar 5))) (tSeq (tPar 6 7 (tCons (tVar 2) (tCons (tCB rDictC (tCons (tVar 3) tNil)) tNil))) (tAsg (tMtd C "twin" (spTwin K C) (tVar 2) tNil) (gName 2))) tNext
abbrev tTold (K : PySem.W.Frag) (sp : Sp) : TE := tLc (iList K (tCB (fun xs H Q => ∃ (a : Addr) (kvs : List (Key × V)) (ks : List Str), xs = [.ref a] ∧ Rd H a (.dK kvs) ∧ kvs.map (·.1) = ks.map Sum.inr ∧ ks.length < 64 ∧ ∀ ys p, ys.Perm ks → sortedS ys = true → H p = none → Q (.ref p) (upd H p (.lst (ys.map V.str)))) (tCons (tVar 3) tNil)))
  (gName 9) tYes (tCl sp (tCons (tDGet (tVar 3) (tVar 9)) tNil)) [9]
abbrev sgr (pt nl bk td lp : Addr) (v5 v6 v7 v8 v9 v10 v11 v12 v13 : Option V) : L2.St := [some (.ref pt), some (.ref nl), some (.ref bk), some (.ref td), some (.ref lp), v5, v6, v7, v8, v9, v10, v11, v12, v13]
section
variable {H0 H : Hp} {pt nl bk pl td lp : Addr} {zs : List Str} {E : Entries} {T : Tab} {pastE : List Entries} {L : List (Entries × Tab)} {ds : List Addr} {k : Nat} {D : Ends} {z : Str} {v5 v6 v7 v8 v9 v10 v11 v12 v13 : Option V} {x6 x7 : V}
theorem read_b4 (R : RI K C H0 H pt nl bk pl td lp zs E T pastE L ds k) (hk : k ≤ 12) (hz : NameOk z) (go : ∀ H', Fr [pt] H H' → PotAt H' pt → D.nx (sgr pt nl bk td lp v5 v6 v7 v8 (some (.str z)) v10 v11 v12 v13) H') :
    tB4 K C D (sgr pt nl bk td lp v5 v6 v7 v8 (some (.str z)) v10 v11 v12 v13) H := by
  refine ⟨_, rfl, _, rfl, _, rfl, _, rfl, _, rfl, pt, .ref nl, rfl, R.pot, .inr ⟨nl, _, rfl, by rw [List.length_map, R.n5]; decide, by rw [List.length_map, R.n5]; decide, .inl ⟨R.nm, R.nlpt⟩, fun y H1 hy f1 p1 => ?_⟩⟩
  obtain ⟨y2, hy2, rfl⟩ := List.mem_map.mp hy
  have R1 := R.pass f1 p1
  refine ⟨(by show 2 ≤ sizeLine; decide), fun l hl => ?_⟩
  have R2 := R1.same (same_upd (o := .lst [.str z, .str y2]) hl)
  refine ⟨bk, pl, td, l, E, pastE, T, k, k, [z, y2], rfl, R2.book, R2.tab, R2.rel, hk, upd_same, (by show 2 ≤ 100; decide), fun w hw => ?_, fun H' s' => ⟨_, rfl, ifF rfl (go H' (Fr.trans f1 (Fr.of (Same.trans (same_upd hl) s'))) (R2.pot.same s'))⟩⟩
  rcases List.mem_cons.mp hw with q | q
  · rw [q]; exact hz
  · rw [List.mem_singleton.mp q]; exact R.nz y2 hy2
theorem RI.tdn (R : RI K C H0 H pt nl bk pl td lp zs E T pastE L ds k) : td ∉ [pt, bk, pl] := fun q => by
  obtain ⟨kvt, et⟩ := R.tab.dk
  obtain ⟨dx, ve, vs, g1, g2, g3, g4⟩ := R.book.ex
  simp only [List.mem_cons, List.not_mem_nil, or_false] at q
  rcases q with q | q | q
  · exact R.tdpt q
  · exact ne_kind et g1 (fun q => nomatch q) q
  · exact ne_kind et g3 (fun q => nomatch q) q
theorem map_snoc {α β : Type} (f : α → β) (l : List α) (a : α) : (l ++ [a]).map f = l.map f ++ [f a] := by rw [List.map_append]; rfl
theorem read_deed (R : RI K C H0 H pt nl bk pl td lp zs E T (L.map (·.1)) L ds k) (F : FI K C H pt bk pl td lp ds x6 x7) (hk : k ≤ 11) (hL : L.length ≤ k) (hz : NameOk z) {way : Int}
    (go : ∀ E' T' L' ds' v11 v12 H', RI K C H0 H' pt nl bk pl td lp zs E' T' (L'.map (·.1)) L' ds' (k + 1) → FI K C H' pt bk pl td lp ds' x6 x7 → L'.length ≤ k + 1 → D.nx (sgr pt nl bk td lp v5 v6 v7 v8 (some (.str z)) (some (.int way)) v11 v12 v13) H') :
    tSeq (tPush K) (tDeedB K C) D (sgr pt nl bk td lp v5 v6 v7 v8 (some (.str z)) (some (.int way)) v11 v12 v13) H := by
  obtain ⟨kvs, hkv, hcp⟩ := R.tab.copy
  have ldl : ds.length = L.length := Paired.len R.pasts
  have hsz : (1000 : Nat) < sizeLine := by decide
  refine ⟨_, rfl, .inl ⟨rfl, _, SqL.of R.lst⟩, _, rfl, td, kvs, rfl, .inl hkv, fun d hd => ?_⟩
  obtain ⟨elp, f1, R2⟩ := R.push hd hkv (hcp d hd)
  refine ⟨lp, _, _, rfl, rfl, elp, by rw [List.length_map]; omega, ?_⟩
  have F2 := F.push hd (F.fr R f1)
  have hL2 : (L ++ [(E, T)]).length ≤ k + 1 := by
    rw [List.length_append, List.length_singleton]
    omega
  have epast : (L ++ [(E, T)]).map (·.1) = L.map (·.1) ++ [E] := map_snoc _ _ _
  have plen : (L.map (·.1)).length ≤ 1000 := by
    rw [List.length_map]
    omega
  have hle := R2.rel.len
  generalize (upd (upd H d (.dK kvs)) lp (.lst (ds.map V.ref ++ [.ref d]))) = H2 at R2 F2 f1 ⊢
  -- a deed of the book and the table's change land here
  have land : ∀ {H3 : Hp} {o : HO} {E' : Entries} {T' : Tab} {v11 v12 : Option V}, Fr [pt, bk, pl] H2 H3 → PotAt H3 pt → BookAt K C H3 bk pl E' (L.map (·.1) ++ [E]) → Stay H3 (upd H3 td o) → TabAt (upd H3 td o) td T' (k + 1) → Rel (k + 1) E' T' → D.nx (sgr pt nl bk td lp v5 v6 v7 v8 (some (.str z)) (some (.int way)) v11 v12 v13) (upd H3 td o) := fun {H3 o E' T' v11 v12} f3 p3 hb3 st ht hr => by
    obtain ⟨f4, R4⟩ := R2.deed (Nat.le_succ k) f3 p3 hb3 st ht hr
    rw [← epast] at R4
    exact go _ _ _ _ _ _ _ R4 (F2.fr R2 f4) hL2
  obtain ⟨o, ho, ho2⟩ := R2.tab.look z
  refine ⟨_, rfl, _, rfl, td, o, rfl, ho, _, rfl, ite2 (fun hc => ?_) (fun hc => ?_)⟩
  · have hT : T z = none := by
      rw [ho2] at hc
      cases e : T z with
      | none => rfl
      | some r => rw [e] at hc; cases hc
    refine ⟨_, rfl, _, rfl, _, rfl, _, rfl, pt, bk, pl, td, z, E, L.map (·.1), T, k, k, rfl, R2.pot, R2.plpt, R2.book, plen, R2.tab, by omega, R2.rel, hk, hz, hT, fun a r H3 f3 p3 hb3 ha hg => ?_⟩
    obtain ⟨o3, hput, st, ht⟩ := (R2.tab.fr f3 R2.tdn).put (by omega) hz ha
    exact ⟨_, rfl, _, rfl, td, _, rfl, hput, land f3 p3 hb3 st ht (R2.rel.put hT hg)⟩
  · obtain ⟨r, hT⟩ : ∃ r, T z = some r := by
      rw [ho2] at hc
      cases e : T z with
      | none => rw [e] at hc; exact absurd rfl hc
      | some r => exact ⟨r, rfl⟩
    obtain ⟨dx, ve, us, e1, e2, e3, e4⟩ := R2.book.ex
    have hgd := R2.rel.row hT
    refine ⟨_, rfl, rfl, _, rfl, ite2 (fun hw => ?_) (fun hw => ?_)⟩
    · refine ⟨_, rfl, bk, dx, _, rfl, e1, bf_no _ _ (by decide +kernel) (by decide +kernel), _, rfl, bk, pl, z, E, L.map (·.1), rfl, R2.book, plen, hz, by rw [R2.rel.get hT]; exact List.cons_ne_nil _ _, by omega, R2.rel.small (by omega), fun H3 f3 hb3 => ?_⟩
      obtain ⟨isd, kv3, v3, hkv3, hv3, st, ht⟩ := (R2.tab.fr f3 (fun q => R2.tdn (List.mem_cons_of_mem _ q))).drop z (by rw [hT]; exact fun q => nomatch q)
      exact ⟨_, rfl, td, rfl, isd, _, rfl, kv3, Sum.inr z, v3, hkv3, rfl, hv3, land f3.b3 (R2.pot.frb f3 R2.bkpt R2.plpt) hb3 st (ht.mono (Nat.le_succ k)) (R2.rel.drop z)⟩
    · obtain ⟨a, hget, ha⟩ := R2.tab.get hT
      refine ⟨_, rfl, _, rfl, _, rfl, td, _, rfl, hget, pt, a, r, rfl, R2.pot, ha.t, hgd.ok, hgd.len, fun t p w H3 f3 p3 ht3 hwt => ?_⟩
      refine ⟨t, _, rfl, .of ht3, rfl, _, _, rfl, _, _, rfl, rfl, ?_⟩
      have R3 := R2.pass f3 p3
      obtain ⟨a3, hget3, ha3⟩ := R3.tab.get hT
      refine ⟨_, rfl, _, rfl, _, rfl, _, rfl, td, _, rfl, hget3, _, rfl, _, rfl, bk, pl, a3, z, p, w, r, E, L.map (·.1), T, k, rfl, R3.book, plen, R3.rel, hk, hz, hT, ha3, hwt, fun H4 f4 hb4 => ⟨_, rfl, ifF rfl ?_⟩⟩
      have f24 : Fr [pt, bk, pl] H2 H4 := Fr.trans f3.w3 f4.b3
      have p4 : PotAt H4 pt := p3.frb f4 R2.bkpt R2.plpt
      obtain ⟨a4, hget4, ha4⟩ := (R2.tab.fr f24 R2.tdn).get hT
      refine ⟨_, rfl, _, rfl, td, _, rfl, hget4, _, rfl, _, rfl, (by show 2 ≤ sizeLine; decide), fun t1 ht1 => ⟨(by show 1 ≤ sizeLine; decide), fun t2 ht2 => ?_⟩⟩
      have s5 := same_new (same_upd (o := .tup [.int p, .int w]) ht1) (o := .tup [.ref t1]) ht2
      refine ⟨a4, t2, r, [(p, w)], rfl, (ha4.stay (same_stay s5)).t, one_pair ht1 ht2, Nat.le_trans hgd.len (by decide), Nat.le_of_ble_eq_true rfl, fun m H6 s6 hm => ?_⟩
      have s46 : Same H4 H6 := Same.trans s5 s6
      have f26 : Fr [pt, bk, pl] H2 H6 := Fr.trans f24 (Fr.of s46)
      obtain ⟨o6, hput, st, ht⟩ := (R2.tab.fr f26 R2.tdn).put (by omega) hz hm
      exact ⟨_, rfl, _, rfl, td, _, rfl, hput, land f26 (p4.same s46) (hb4.same s46) st ht (R2.rel.more hT hwt)⟩
theorem read_b3 (R : RI K C H0 H pt nl bk pl td lp zs E T (L.map (·.1)) L ds k) (F : FI K C H pt bk pl td lp ds x6 x7) (hk : k ≤ 11) (hL : L.length ≤ k) (hz : NameOk z) {way : Int}
    (go : ∀ td' E' T' L' ds' v11 v12 H', RI K C H0 H' pt nl bk pl td' lp zs E' T' (L'.map (·.1)) L' ds' (k + 1) → FI K C H' pt bk pl td' lp ds' x6 x7 → L'.length ≤ k + 1 → D.nx (sgr pt nl bk td' lp v5 v6 v7 v8 (some (.str z)) (some (.int way)) v11 v12 v13) H') :
    tB3 K C D (sgr pt nl bk td lp v5 v6 v7 v8 (some (.str z)) (some (.int way)) v11 v12 v13) H := by
  refine ⟨_, rfl, rfl, _, rfl, ite2 (fun hc => ?_) (fun hc => ?_)⟩
  · refine ⟨_, rfl, Nat.zero_le _, fun l hl => ?_⟩
    have R1 := R.same (same_upd (o := .lst []) hl)
    have F1 := F.fr R (w5_1 (Fr.of (same_upd (o := .lst []) hl)))
    refine ⟨lp, l, _, rfl, rfl, SqL.of R1.lst, SqL.of upd_same, _, rfl, ite2 (fun hc2 => ?_) (fun hc2 => ?_)⟩
    · have hne : L ≠ [] := fun q => by
        have h1 := Paired.len R.pasts
        rw [q] at h1
        have h2 : ds = [] := List.length_eq_zero_iff.mp h1
        rw [h2] at hc2
        cases hc2
      obtain ⟨ds', d0, L', ⟨E0, T0⟩, rfl, rfl, _, _⟩ := paired_snoc_inv2 R.pasts hne
      obtain ⟨dx, ve, us, e1, e2, e3, e4⟩ := R1.book.ex
      have hb1 := R1.book
      rw [map_snoc] at hb1
      refine ⟨_, rfl, bk, dx, _, rfl, e1, bf_no _ _ (by decide +kernel) (by decide +kernel), bk, pl, E, E0, L'.map (·.1), rfl, hb1, fun H2 f2 hb2 => ?_⟩
      obtain ⟨elp, f3, R3⟩ := R1.undo f2 hb2
      have F3 := (F1.fr R1 f3).undo
      have ed : ((ds' ++ [d0]).map V.ref).dropLast = ds'.map V.ref := by rw [map_snoc, List.dropLast_concat]
      refine ⟨_, rfl, .inl ⟨rfl, _, SqL.of elp⟩, lp, _, .ref d0, rfl, rfl, elp, by rw [map_snoc, List.length_append, List.length_singleton, Nat.add_sub_cancel]; exact List.getElem?_concat_length, ?_⟩
      rw [ed]
      refine go d0 E0 T0 L' ds' _ _ _ (R3.mono (Nat.le_succ k)) F3 ?_
      rw [List.length_append, List.length_singleton] at hL
      omega
    · exact read_deed R1 F1 hk hL hz (fun E' T' L' ds' v11 v12 H' => go td E' T' L' ds' v11 v12 H')
  · exact ifF rfl (read_deed R F hk hL hz (fun E' T' L' ds' v11 v12 H' => go td E' T' L' ds' v11 v12 H'))
end
theorem read_told {σ : L2.St} {H : Hp} {Q : VK} {sp : Sp} {td : Addr} {T : Tab} {E : Entries} {N : Nat} {kvs : List (Key × V)} {ks : List Str} (h30 : σ[3]? = some (some (.ref td)))
    (h3 : ∀ x : V, wipe ((wipe σ [9]).set 9 (some x)) [9] = wipe σ [9] ∧ ((wipe σ [9]).set 9 (some x))[3]? = some (some (.ref td)) ∧ ((wipe σ [9]).set 9 (some x))[9]? = some (some x))
    (ht : TabAt H td T N) (hrel : Rel 12 E T) (hkv : H td = some (.dK kvs)) (hkk : kvs.map (·.1) = ks.map Sum.inr) (hkl : ks.length ≤ 12) (hkn : ∀ k ∈ ks, ∃ r, T k = some r)
    (hsp : ∀ a r H1 (Q1 : VK), RowV H1 a r → Good 12 r → (∀ p H', Same H1 H' → RowV H' p (gaps r) → Q1 (.ref p) H') → sp [.ref a] H1 Q1 E0)
    (go : ∀ M vs ys H', ys.Perm ks → sortedS ys = true → Same H H' → H' M = some (.lst vs) → Paired (RowR H') vs (ys.map fun y => gaps ((T y).getD [])) → Q (.ref M) H') : tTold K sp σ H Q := by
  have hsz : (12 : Nat) < sizeLine := by decide
  refine ⟨_, h30, td, kvs, ks, rfl, .inl hkv, hkk, by omega, fun ys p hperm hsort hpn => ⟨p, rfl, ⟨_, SqL.of upd_same⟩, fun M hM => ?_⟩⟩
  have hyl : ys.length ≤ 12 := by rw [hperm.length_eq]; exact hkl
  have hMp : M ≠ p := fun e => by
    rw [e, upd_same] at hM
    cases hM
  have hHM : H M = none := by
    rw [upd_ne hMp] at hM
    exact hM
  refine lc_list (K := K) (a := p) (xs := ys.map V.str) (fun i H' => ∃ acc : List V, H' M = some (.lst acc) ∧ Paired (RowR H') acc ((ys.take i).map fun y => gaps ((T y).getD [])) ∧ Same H H' ∧ H' p = some (.lst (ys.map V.str))) ?_ ?_ ?_ ?_
  · exact ⟨[], upd_same, .nil, same_new (same_upd hpn) hM, by rw [upd_ne (Ne.symm hMp), upd_same]⟩
  · exact fun i H' _ ⟨_, _, _, _, h⟩ => SqL.of h
  · rintro i x H1 hx ⟨acc, hacc, hpa, hs, hp1⟩
    obtain ⟨y, hy, rfl⟩ : ∃ y, ys[i]? = some y ∧ x = V.str y := by
      rw [List.getElem?_map] at hx
      cases e : ys[i]? with
      | none => rw [e] at hx; cases hx
      | some z => rw [e] at hx; exact ⟨z, rfl, (Option.some.inj hx).symm⟩
    obtain ⟨r, hT⟩ := hkn y (hperm.mem_iff.mp (List.mem_of_getElem? hy))
    obtain ⟨g1, g2, g3⟩ := h3 (.str y)
    obtain ⟨b, hget, hb⟩ := (ht.same hs).get hT
    refine ⟨g1, ?_⟩
    dsimp only [tYes]
    rw [if_pos rfl]
    refine ⟨_, g2, _, g3, td, _, rfl, hget, ?_⟩
    refine hsp b r H1 _ hb (hrel.row hT) fun c H2 s2 hc => ?_
    have hacc2 := s2 _ _ hacc
    have hal : acc.length < sizeLine := by
      have h1 := Paired.len hpa
      rw [List.length_map, List.length_take] at h1
      omega
    refine ⟨acc, hacc2, hal, acc ++ [.ref c], upd_same, ?_, fun b' o e => ?_, ?_⟩
    · have e : (ys.take (i + 1)).map (fun y => gaps ((T y).getD [])) = (ys.take i).map (fun y => gaps ((T y).getD [])) ++ [gaps r] := by
        rw [List.take_add_one, hy, List.map_append]
        show _ ++ [gaps ((T y).getD [])] = _
        rw [hT]
        rfl
      rw [e]
      exact Paired.snoc ⟨c, rfl, hc.stay (stay_lst hacc2)⟩ (Stay.rows (stay_lst hacc2) (Stay.rows (same_stay s2) hpa))
    · rw [upd_ne (ne_of_none e hHM)]
      exact s2 _ _ (hs _ _ e)
    · rw [upd_ne (Ne.symm hMp)]
      exact s2 _ _ hp1
  · rintro H1 ⟨acc, hacc, hpa, hs, hp1⟩
    rw [List.length_map, List.take_length] at hpa
    exact go M acc ys H1 hperm hsort hs hacc hpa
theorem sp_diffs (a : Addr) (r : Row) (H1 : Hp) (Q1 : VK) (ha : RowV H1 a r) (hg : Good 12 r) (k : ∀ p H', Same H1 H' → RowV H' p (gaps r) → Q1 (.ref p) H') : spDiffs [.ref a] H1 Q1 E0 := ⟨a, r, rfl, ha, hg.ok, hg.len, (hg.small (by decide)).w, k⟩
theorem sp_gaps (a : Addr) (r : Row) (H1 : Hp) (Q1 : VK) (ha : RowV H1 a r) (hg : Good 12 r) (k : ∀ p H', Same H1 H' → RowV H' p (gaps r) → Q1 (.ref p) H') : spGaps K [.ref a] H1 Q1 E0 := ⟨a, r, rfl, ha.t, Nat.le_trans hg.len (by decide), (hg.small (by decide)).w, k⟩
def LoopI (K : PySem.W.Frag) (C : Addr) (H : Hp) (pt nl lp : Addr) (sp : Int) (zs : List Str) (i : Nat) (σ : L2.St) (H' : Hp) : Prop := ∃ (bk pl td : Addr) (E : Entries) (T : Tab) (L : List (Entries × Tab)) (ds : List Addr) (x6 x7 : V) (v8 v9 v10 v11 v12 v13 : Option V), σ = sgr pt nl bk td lp (some (.int sp)) (some x6) (some x7) v8 v9 v10 v11 v12 v13 ∧
  RI K C H H' pt nl bk pl td lp zs E T (L.map (·.1)) L ds i ∧ FI K C H' pt bk pl td lp ds x6 x7 ∧ L.length ≤ i
theorem sc_right : FnScope ["_law_pot_here", "_law_names_here", "_law_book", "_law_table", "_law_past", "_law_split", "_law_first", "_law_spare", "_law_turn", "_law_name", "_law_way", "_law_at", "_law_weight_here", "_law_told"] ["_law_pot_here"] (defScope s__law_right) := ⟨rfl, rfl, rfl, by decide +kernel, rfl, by decide +kernel, by decide +kernel⟩
def spRight : Sp := fun vs H Q _ => ∃ pt : Addr, vs = [.ref pt] ∧ PotAt H pt ∧ ∀ H', Fr [pt] H H' → Q (.bl true) H'
theorem read_turn {H0 H : Hp} {pt nl bk pl td lp : Addr} {zs : List Str} {E : Entries} {T : Tab} {L : List (Entries × Tab)} {ds : List Addr} {i : Nat} {x6 x7 : V} {sp : Int} {v9 v10 v11 v12 v13 : Option V} (D : Ends) (R : RI K C H0 H pt nl bk pl td lp zs E T (L.map (·.1)) L ds i) (F : FI K C H pt bk pl td lp ds x6 x7) (hi : i < 12) (hL : L.length ≤ i)
    (hnx : ∀ σ H', LoopI K C H0 pt nl lp sp zs (i + 1) σ H' → D.nx σ H') :
    tSeq (tB1 K C) (tSeq (tB2 K) (tSeq (tB3 K C) (tB4 K C))) D (sgr pt nl bk td lp (some (.int sp)) (some x6) (some x7) (some (.int (0 + (i : Nat)))) v9 v10 v11 v12 v13) H := by
  have fin : ∀ (bk pl : Addr) (x6 x7 : V) (H8 : Hp), RI K C H0 H8 pt nl bk pl td lp zs E T (L.map (·.1)) L ds i → FI K C H8 pt bk pl td lp ds x6 x7 →
      tSeq (tB2 K) (tSeq (tB3 K C) (tB4 K C)) D (sgr pt nl bk td lp (some (.int sp)) (some x6) (some x7) (some (.int (0 + (i : Nat)))) v9 v10 v11 v12 v13) H8 := by
    intro bk pl x6 x7 H8 R8 F8
    refine ⟨_, rfl, _, rfl, pt, .ref nl, rfl, R8.pot, .inr ⟨nl, _, rfl, by rw [List.length_map, R8.n5]; decide, by rw [List.length_map, R8.n5]; decide, .inl ⟨R8.nm, R8.nlpt⟩, fun y H9 hy f9 p9 => ?_⟩⟩
    obtain ⟨z, hzm, rfl⟩ := List.mem_map.mp hy
    have R9 := R8.pass f9 p9
    refine ⟨_, rfl, pt, 6, rfl, p9, by decide, by decide, fun way H10 _ _ f10 p10 => ⟨_, _, rfl, ?_⟩⟩
    have R10 := R9.pass f10 p10
    have F10 := F8.fr R8 (w5_1 (Fr.trans f9 f10))
    exact read_b3 (D := { D with nx := tB4 K C D }) R10 F10 (by omega) hL (R.nz z hzm) fun td' E' T' L' ds' v11 v12 H11 R11 F11 hL11 =>
      read_b4 (D := D) R11 (by omega) (R.nz z hzm) fun H12 f12 p12 => hnx _ _ ⟨bk, pl, td', E', T', L', ds', x6, x7, _, _, _, _, _, _, rfl, R11.pass f12 p12, F11.fr R11 (w5_1 f12), hL11⟩
  refine ⟨_, rfl, _, rfl, rfl, _, rfl, ite2 (fun hc => ?_) (fun hc => ?_)⟩
  · obtain ⟨kvs, hkv, hcp⟩ := R.tab.copy
    refine ⟨_, rfl, _, rfl, td, kvs, rfl, .inl hkv, fun sd2 hsd2 => ⟨_, _, rfl, ?_⟩⟩
    have Rs := R.same (same_upd (o := .dK kvs) hsd2)
    obtain ⟨dxb, veb, vsb, b1, b2, b3, b4⟩ := Rs.book.ex
    refine ⟨_, rfl, bk, dxb, _, rfl, b1, bf_no _ _ (by decide +kernel) (by decide +kernel), bk, pl, E, L.map (·.1), rfl, Rs.book, by rw [List.length_map]; omega, fun bk2 pl2 H8 s8 hb2 hp2 hB2 => ?_⟩
    obtain ⟨R8, F8⟩ := R.twin (by omega) hsd2 hkv (hcp sd2 hsd2) s8 hb2 hp2 hB2
    exact fin bk2 pl2 _ _ H8 R8 F8
  · exact fin bk pl _ _ _ R F
theorem ok_right (D : Df K mg "_law_right" s__law_right) (T : Free mg) (B : TB K mg C) (c1 : Cl P w K mg base 3 "_law_names" ["_law_pot_here", "_law_many"] spNames) (c2 : Mkd P w K mg base 1 C (spInit K C)) (c3 : Cl P w K mg base 1 "_law_draw" ["_law_pot_here", "_law_many"] spDraw)
    (c4 : Mt P w K mg base 3 C "twin" ["self"] (spTwin K C)) (c5 : Cl P w K mg base 2 "_law_pick" ["_law_pot_here", "_law_some"] (spPick K)) (c6 : Mt P w K mg base 1 C "undo" ["self"] (spUndo K C)) (c7 : Cl P w K mg base 6 "_law_fresh" ["_law_pot_here", "_law_book", "_law_table", "_law_name"] (spFresh K C))
    (c8 : Mt P w K mg base 5 C "strike" ["self", "name"] (spStrike K C)) (c9 : Cl P w K mg base 3 "_law_weight" ["_law_pot_here", "_law_row_here"] (spWt K)) (c10 : ClG P w K mg base 6 "_law_is_grown" ["_law_book", "_law_name", "_law_row_here", "_law_at", "_law_weight_here"] (spIsG K C))
    (c11 : Cl P w K mg base 2 "_law_plus" ["_law_one", "_law_two", "_law_many"] (spLPlus K)) (c12 : ClG P w K mg base 5 "_law_is_kept" ["_law_book", "_law_table", "_law_names_here"] (spIsK K C)) (c13 : Cl P w K mg base 4 "differences" ["row"] spDiffs) (c14 : Cl P w K mg base 3 "_law_gaps" ["_law_row_here"] (spGaps K)) :
    ClG P w K mg base 7 "_law_right" ["_law_pot_here"] spRight := by
  refine D.clG sc_right (fun vs H Q E h => ?_) (fun _ _ _ _ _ _ us hl => match us, hl with | [_], _ => rfl) (fun f cdv A outer s H vs Q hr hG h => ?_)
  · obtain ⟨pt, rfl, _⟩ := h
    rfl
  · obtain ⟨pt, rfl, hp, q⟩ := h
    have hu := hu_of hr
    refine ⟨tSeq (tAsg (tCl spNames (tCons (tVar 0) (tCons (tC (.int 5)) tNil))) (gName 1)) (tSeq (tAsg (tTup (tCons (tMake C (spInit K C) [] E0 tNil) (tCons tDNewK (tCons (tLst tNil) tNil)))) (gTup K 3 (gCons (gName 2) (gCons (gName 3) (gCons (gName 4) gNil)))))
        (tSeq (tPar3 5 6 7 (tCons (tDr (tC (.int 24))) (tCons (tC .non) (tCons tDNewK tNil)))) (tSeq (tFor (iRng1 (tCons (tC (.int 12)) tNil)) (gName 8) (tSeq (tB1 K C) (tSeq (tB2 K) (tSeq (tB3 K C) (tB4 K C)))))
        (tSeq (tAsg (tTold K spDiffs) (gName 13)) (tSeq (tIfS (tTest (tOp rNe (tCB (rRepr K) (tCons (tVar 13) tNil)) (tCB (rRepr K) (tCons (tTold K (spGaps K)) tNil)))) (tRet (tC (.bl false))) tNext)
        (tRet (tAndV (tIsKc K C (tVar 2) (tVar 3) (tVar 1)) (tOrV (tOp (fun x y H Q => y = .non ∧ Q (.bl (decide (x = .non))) H) (tVar 6) (tC .non)) (tIsKc K C (tVar 6) (tVar 7) (tVar 1)))))))))), ?_, ?_⟩
    · exact pss_cons (ps_set (i := 1) sc_right.nd rfl (Or.inl rfl) (pe_cl c1 hr (by decide) (by rfl) (pa_cons (pv 0) (pa_cons pe_int pa_nil))))
        (pss_cons (ps_asg (pe_tup (pa_cons (pe_mk0 c2 hr (by decide) (by rfl) B.mgC) (pa_cons pe_dnewK (pa_cons (pe_lst pa_nil) pa_nil)))) (pg_tup (by rfl) (pgs_cons (pg_name (i := 2) sc_right.nd rfl (Or.inl rfl)) (pgs_cons (pg_name (i := 3) sc_right.nd rfl (Or.inr rfl)) (pgs_cons (pg_name (i := 4) sc_right.nd rfl (Or.inl rfl)) pgs_nil)))))
        (pss_cons (ps_par3 (i := 5) (j := 6) (l := 7) (by rfl) sc_right.nd rfl rfl rfl (by decide) (by decide) (by decide) rfl rfl rfl (pa_cons (pe_cl c3 hr (by decide) (by rfl) (pa_cons (pv 0) (pa_cons pe_int pa_nil))) (pa_cons pe_non (pa_cons pe_dnewK pa_nil))) (by rfl))
        (pss_cons (ps_for PassesOwn.never rfl (pi_range1 (by rfl) T.range (pa_cons pe_int pa_nil)) (pg_name (i := 8) sc_right.nd rfl (Or.inl rfl))
          (pss_cons (ps_if (pt_cmpR op_eq (pv 8) (pv 5) (nomark _)) (pss_cons (ps_par (i := 6) (j := 7) (by rfl) sc_right.nd rfl rfl (by decide) rfl rfl (pa_cons (pv 2) (pa_cons (pe_callTy call_dictD (by rfl) T.dict (by decide +kernel) (pa_cons (pv 3) pa_nil)) pa_nil)) (by rfl))
              (pss_one (ps_set (i := 2) sc_right.nd rfl (Or.inl rfl) (pe_mtd0 c4 B.cl hr (by decide) (pv 2))))) pss_nil)
          (pss_cons (ps_par (i := 9) (j := 10) (by rfl) sc_right.nd rfl rfl (by decide) rfl rfl (pa_cons (pe_cl c5 hr (by decide) (by rfl) (pa_cons (pv 0) (pa_cons (pv 1) pa_nil))) (pa_cons (pe_cl c3 hr (by decide) (by rfl) (pa_cons (pv 0) (pa_cons pe_int pa_nil))) pa_nil)) (by rfl))
          (pss_cons (ps_if (PW.pt (pw_and (pt_cmpR op_eq (pv 10) pe_int (nomark _)) (pw_and1 (pt_cmpR (op_neNil hr.units0) (pv 4) (pe_lst pa_nil) (nomark _)))))
              (pss_cons (ps_expr (pe_mtd0 c6 B.cl hr (by decide) (pv 2))) (pss_one (ps_set (i := 3) sc_right.nd rfl (Or.inr rfl) (pe_bm0 PySem.F.plainAttrs_list PySem.F.slot_list_pop PySem.F.type_list_pop mt_pop (pv 4)))))
              (pss_cons (ps_expr (pe_bm PySem.F.plainAttrs_list PySem.F.slot_list_append PySem.F.type_list_append mt_append (pv 4) (pa_cons (pe_callTy call_dictD (by rfl) T.dict (by decide +kernel) (pa_cons (pv 3) pa_nil)) pa_nil)))
              (pss_one (ps_if (pt_cmp (pc_dnotin hu (pv 9) (pv 3))) (pss_one (ps_dput hu (pv 3) (pv 9) (pe_cl c7 hr (by decide) (by rfl) (pa_cons (pv 0) (pa_cons (pv 2) (pa_cons (pv 3) (pa_cons (pv 9) pa_nil))))) rfl))
              (pss_one (ps_if (pt_cmpR op_eq (pv 10) pe_int (nomark _)) (pss_cons (ps_expr (pe_mtd c8 B.cl hr (by decide) (pv 2) (pa_cons (pv 9) pa_nil))) (pss_one (ps_expr (pe_dpop1 (pv 3) (pv 9) ⟨rfl, rfl, rfl, rfl⟩))))
              (pss_cons (ps_asg (pe_cl c9 hr (by decide) (by rfl) (pa_cons (pv 0) (pa_cons (pe_dget hu (pv 3) (pv 9) (fun _ _ => rfl)) pa_nil))) (pg_tup (by rfl) (pgs_cons (pg_name (i := 11) sc_right.nd rfl (Or.inl rfl)) (pgs_cons (pg_name (i := 12) sc_right.nd rfl (Or.inl rfl)) pgs_nil))))
              (pss_cons (ps_if (pt_not (pt_val (pe_clG c10 hr (by decide) hG (by rfl) (pa_cons (pv 2) (pa_cons (pv 9) (pa_cons (pe_dget hu (pv 3) (pv 9) (fun _ _ => rfl)) (pa_cons (pv 11) (pa_cons (pv 12) pa_nil)))))))) (pss_one (ps_ret pe_bl)) pss_nil)
              (pss_one (ps_dput hu (pv 3) (pv 9) (pe_cl c11 hr (by decide) (by rfl) (pa_cons (pe_dget hu (pv 3) (pv 9) (fun _ _ => rfl)) (pa_cons (pe_tup (pa_cons (pe_tup (pa_cons (pv 11) (pa_cons (pv 12) pa_nil))) pa_nil)) (pa_cons pe_int pa_nil)))) rfl))))))))))
          (pss_one (ps_if (pt_not (pt_val (pe_clG c12 hr (by decide) hG (by rfl) (pa_cons (pv 2) (pa_cons (pv 3) (pa_cons (pe_lst (pa_cons (pv 9) (pa_cons (pe_cl c5 hr (by decide) (by rfl) (pa_cons (pv 0) (pa_cons (pv 1) pa_nil))) pa_nil))) pa_nil)))))) (pss_one (ps_ret pe_bl)) pss_nil))))))
        (pss_cons (ps_setLc (i := 13) (own := [("_law_name", 9)]) (by rfl) sc_right.nd rfl rfl (sw_true rfl rfl rfl (by decide +kernel)) (pi_list (pe_callB (call_sortedD rfl) (by rfl) T.sorted (by decide +kernel) (pa_cons (pv 3) pa_nil)))
          (blkOk_by (own := [("_law_name", 9)]) (N := ["_law_pot_here", "_law_names_here", "_law_book", "_law_table", "_law_past", "_law_split", "_law_first", "_law_spare", "_law_turn", "_law_name", "_law_way", "_law_at", "_law_weight_here", "_law_told"]) (sc := defScope s__law_right) (by decide +kernel))
          (fun _ _ _ _ _ => pg_name (i := 9) sc_right.nd rfl (Or.inl rfl)) (fun _ _ _ _ _ => pts_nil) (fun _ _ _ _ _ => pe_cl c13 hr (by decide) (by rfl) (pa_cons (pe_dget hu (pv 3) (pv 9) (fun _ _ => rfl)) pa_nil)))
        (pss_cons (ps_if (pt_cmpR op_ne (pe_callB (call_reprD hG hr.units) (by rfl) T.repr (by decide +kernel) (pa_cons (pv 13) pa_nil)) (pe_callB (call_reprD hG hr.units) (by rfl) T.repr (by decide +kernel) (pa_cons (pe_lc (own := [("_law_name", 9)]) (by rfl) sc_right.nd
            (pi_list (pe_callB (call_sortedD rfl) (by rfl) T.sorted (by decide +kernel) (pa_cons (pv 3) pa_nil)))
            (blkOk_by (own := [("_law_name", 9)]) (N := ["_law_pot_here", "_law_names_here", "_law_book", "_law_table", "_law_past", "_law_split", "_law_first", "_law_spare", "_law_turn", "_law_name", "_law_way", "_law_at", "_law_weight_here", "_law_told"]) (sc := defScope s__law_right) (by decide +kernel))
            (fun _ _ _ _ _ => pg_name (i := 9) sc_right.nd rfl (Or.inl rfl)) (fun _ _ _ _ _ => pts_nil) (fun _ _ _ _ _ => pe_cl c14 hr (by decide) (by rfl) (pa_cons (pe_dget hu (pv 3) (pv 9) (fun _ _ => rfl)) pa_nil))) pa_nil)) (nomark _)) (pss_one (ps_ret pe_bl)) pss_nil)
        (pss_one (ps_ret (pe_and (pe_clG c12 hr (by decide) hG (by rfl) (pa_cons (pv 2) (pa_cons (pv 3) (pa_cons (pv 1) pa_nil)))) (pe_one (pe_or (pe_cmpR op_isN (pv 6) pe_non (by rfl)) (pe_one (pe_clG c12 hr (by decide) hG (by rfl) (pa_cons (pv 6) (pa_cons (pv 7) (pa_cons (pv 1) pa_nil)))))))))))))))
    · refine ⟨_, rfl, pt, rfl, hp, fun nl zs H1 f1 p1 hnl e1 l5 hz => ?_⟩
      intro x dx nx ndx nex
      refine ⟨x, dx, rfl, upd_same, fun H2 pl hpl hk hB => ⟨rfl, fun td htd => ⟨Nat.zero_le _, fun lp hlp => ⟨(by show 3 ≤ sizeLine; decide), fun t ht => ⟨t, _, rfl, .of upd_same, rfl, _, _, rfl, _, _, rfl, _, _, rfl, rfl, ?_⟩⟩⟩⟩⟩
      have s12 : Same H1 H2 := fun b o e => hk b o (by rw [upd_ne (ne_of_none e nx), upd_ne (ne_of_none e ndx)]; exact e) (ne_of_none e nx)
      have hplx : pl ≠ x := fun q => by rw [q, upd_same] at hpl; cases hpl
      have hpl1 : H1 pl = none := by
        rw [upd_ne hplx] at hpl
        exact (same_upd ndx).free hpl
      have htd1 : H1 td = none := s12.free htd
      have hlp2 : H2 lp = none := (same_upd htd).free hlp
      have hlp1 : H1 lp = none := s12.free hlp2
      obtain ⟨dxb, veb, vsb, b1, b2, b3, b4⟩ := hB.ex
      have s23 : Same H2 (upd H2 td (.dK [])) := same_upd htd
      have s34 : Same (upd H2 td (.dK [])) (upd (upd H2 td (.dK [])) lp (.lst [])) := same_upd hlp
      have s45 := same_upd (o := .tup [.ref x, .ref td, .ref lp]) ht
      have s25 := Same.trans s23 (Same.trans s34 s45)
      have s15 := Same.trans s12 s25
      have R5 : RI K C H _ pt nl x pl td lp zs [] (fun _ => none) [] [] [] 0 :=
        { fr := Fr.trans f1 (Fr.of s15)
          pot := p1.same s15
          nm := s15 _ _ e1
          n5 := l5
          nz := hz
          book := hB.same s25
          tab := TabAt.empty (s45 _ _ (s34 _ _ upd_same))
          rel := Rel.zero
          lst := s45 _ _ upd_same
          pasts := .nil
          tds := fun q => nomatch q
          nd := List.nodup_nil
          plpt := p1.ne hpl1
          lppt := p1.ne hlp1
          lppl := (ne_of_none b3 hlp2).symm
          nlpt := hp.ne hnl
          nlpl := ne_of_none e1 hpl1
          nllp := ne_of_none e1 hlp1
          w1 := hnl
          w2 := f1.none p1 nx
          w3 := f1.none p1 hpl1
          w4 := f1.none p1 htd1
          w5 := f1.none p1 hlp1
          w6 := fun d hd => nomatch hd }
      refine ⟨_, rfl, pt, 24, rfl, R5.pot, by decide, by decide, fun sp H6 _ _ f6 p6 => fun sd hsd => ⟨_, _, _, rfl, ?_⟩⟩
      have R7 := (R5.pass f6 p6).same (same_upd (o := .dK []) hsd)
      refine ⟨12, rfl, by decide, by decide, for_range (n := 12) (LoopI K C H pt nl lp sp zs) ⟨x, pl, td, [], _, [], [], .non, .ref sd, none, none, none, none, none, none, rfl, R7, .no, Nat.le_refl _⟩ ?_ ?_⟩
      · rintro i σ H7 hi ⟨bk, pl, td, E, T, L, ds, x6, x7, v8, v9, v10, v11, v12, v13, rfl, R, F, hL⟩
        exact read_turn _ R F hi hL fun σ H' h => h
      · rintro σ H7 ⟨bk, pl, td, E, T', L, ds, x6, x7, v8, v9, v10, v11, v12, v13, rfl, R, F, hL⟩
        obtain ⟨kvs, ks, hkv, hkk, hkl, hkn⟩ := R.tab.keys
        show tSeq (tAsg (tTold K spDiffs) (gName 13)) _ _ _ _
        unfold tSeq tAsg
        refine read_told (σ := sgr pt nl bk td lp (some (.int sp)) (some x6) (some x7) v8 v9 v10 v11 v12 v13) rfl (fun x => ⟨rfl, rfl, rfl⟩) R.tab R.rel hkv hkk hkl (fun k hk => (hkn k hk).2) sp_diffs fun M vs ys H8 hperm hsort s8 hM hpa => ?_
        have R8 := R.same s8
        have shw : ∀ (ys : List Str), ys.Perm ks → ∀ r ∈ ys.map fun y => gaps ((T' y).getD []), Shw r := fun ys hperm r hr => by
          obtain ⟨y, hy, rfl⟩ := List.mem_map.mp hr
          obtain ⟨r, hT⟩ := (hkn y (hperm.mem_iff.mp hy)).2
          rw [hT]
          exact ((R.rel.row hT).small (by decide)).shw
        have len20 : ∀ (ys : List Str), ys.Perm ks → (ys.map fun y => gaps ((T' y).getD [])).length ≤ 20 := fun ys hperm => by
          rw [List.length_map, hperm.length_eq]
          omega
        obtain ⟨q1, q2, q3, q4, q5⟩ := repr_okL (K := K) (SqL.of hM) hpa (len20 ys hperm) (shw ys hperm)
        refine ⟨_, rfl, M, rowsD _, rfl, q1, q2, q3, q4, q5, ?_⟩
        dsimp only
        unfold tCB tCons
        refine read_told (σ := sgr pt nl bk td lp (some (.int sp)) (some x6) (some x7) v8 v9 v10 v11 v12 (some (.ref M))) rfl (fun x => ⟨rfl, rfl, rfl⟩) R8.tab R.rel (s8 _ _ hkv) hkk hkl (fun k hk => (hkn k hk).2) sp_gaps fun M2 vs2 ys2 H9 hperm2 hsort2 s9 hM2 hpa2 => ?_
        obtain ⟨q1, q2, q3, q4, q5⟩ := repr_okL (K := K) (SqL.of hM2) hpa2 (len20 ys2 hperm2) (shw ys2 hperm2)
        refine ⟨M2, rowsD _, rfl, q1, q2, q3, q4, q5, ?_⟩
        have eys : ys = ys2 := sorted_oneS (hperm.trans hperm2.symm) (sorted_pw hsort) (sorted_pw hsort2)
        refine ⟨rfl, _, rfl, ifF (str_ne (by rw [eys])) ?_⟩
        have R9 := R8.same s9
        have F9 := F.fr R (w5_1 (Fr.of (Same.trans s8 s9)))
        refine ⟨_, rfl, _, rfl, _, rfl, bk, pl, td, nl, E, L.map (·.1), T', 12, 12, zs, rfl, R9.book, R9.tab, R9.rel, Nat.le_refl _, R9.nm, by rw [R9.n5]; decide, hz, fun H10 s10 => ⟨true, rfl, ifT rfl ?_⟩⟩
        have R10 := R9.same s10
        have F10 := F9.fr R9 (w5_1 (Fr.of s10))
        cases F10 with
        | no => exact ⟨_, rfl, rfl, _, rfl, ifT (decide_eq_true rfl) (q _ R10.fr)⟩
        | yes book tab rel h1 h2 h3 h4 h5 h6 =>
          refine ⟨_, rfl, rfl, _, rfl, ifF (decide_eq_false (fun q => nomatch q)) ?_⟩
          refine ⟨_, rfl, _, rfl, _, rfl, _, _, _, nl, _, _, _, 12, 12, zs, rfl, book, tab, rel, Nat.le_refl _, R10.nm, by rw [R10.n5]; decide, hz, fun H11 s11 => ?_⟩
          exact q _ (Fr.trans R10.fr (Fr.of s11))
end
end Sg
/-! ## SgE9 -/
namespace Sg
open PySem PySem.Spec PyProof.Rows L2
theorem cut_ints (ns : List Int) (lo hi : Option Int) : ∃ ms : List Int, cutV (ns.map V.int) lo hi = ms.map V.int ∧ ms.length ≤ ns.length := by
  refine ⟨(ns.drop (HT.sIx (ns.map V.int).length 0 lo)).take (HT.sIx (ns.map V.int).length (ns.map V.int).length hi - HT.sIx (ns.map V.int).length 0 lo), ?_, ?_⟩
  · unfold cutV
    rw [List.map_take, List.map_drop]
  · rw [List.length_take, List.length_drop]
    omega
section
variable {P : Program} {w : World} {K : PySem.W.Frag} {mg : Str → Option Value} {base : Heap} {C : Addr}
def spLPot (K : PySem.W.Frag) : Sp := fun vs H Q _ => ∃ (a : Addr) (t : Nat) (ns : List Int), vs = [.ref a, .int (t : Int)] ∧ SqL K H a (ns.map V.int) ∧ ns.length ≤ 63 ∧ t ≤ 1000 ∧ ∀ pt H', Same H H' → H pt = none → PotAt H' pt → Q (.ref pt) H'
theorem sc_lpot : FnScope ["_law_script", "_law_turn", "_law_cell", "_law_stirred", "_law_each", "_law_digits"] ["_law_script", "_law_turn"] (defScope s__law_pot) := ⟨rfl, rfl, rfl, by decide +kernel, rfl, by decide +kernel, by decide +kernel⟩
abbrev rInt1 : List V → Hp → VK → Prop := fun xs H Q => (∃ i, xs = [.int i] ∧ Q (.int i) H) ∨ ∃ k, xs = [.bl k] ∧ Q (.int (if k then 1 else 0)) H
abbrev rMulI : R2 := rI CMul fun i j => .int (i * j)
abbrev rModI : R2 := rI (fun _ j => 0 < j) fun i j => .int (i % j)
abbrev tPotE : TS := tRet (tLst (tCons (tVar 5) (tCons (tVar 3) (tCons (tC (.int 0)) tNil))))
abbrev tPotR (K : PySem.W.Frag) : TS := tSeq (tAsg (tOp rAddI (tC (.int 611953)) (tOp rMulI (tC (.int 3571)) (tVar 1))) (gName 3))
  (tSeq (tFor (iList K (tOp rCat (tSl (rSlL K) (tVar 0) tNoPart (tPart (tC (.int 7)))) (tLst (tCons (tVar 2) tNil)))) (gName 4) (tAsg (tOp rModI (tCB rInt1 (tCons (tOp rAddI (tOp rAddI (tOp rMulI (tVar 3) (tC (.int 69621))) (tOp rModI (tCB rInt1 (tCons (tVar 4) tNil)) (tC (.int 2147483563)))) (tC (.int 3))) tNil)) (tC (.int 2147483563))) (gName 3)))
  (tSeq (tAsg (tIf (tTest (tOp rGe (tVar 2) (tPow K 18))) (tVar 2) (tIf (tTest (tOp rLe (tVar 2) (tOp rSubI (tC (.int 0)) (tPow K 18)))) (tOp rSubI (tC (.int 0)) (tVar 2)) (tC (.int 0)))) (gName 5)) tPotE))
theorem read_potR {K : PySem.W.Frag} {H : Hp} {Q : VK} {a : Addr} {t : Nat} {c : Int} {ns : List Int} (ha : SqL K H a (ns.map V.int)) (hl : ns.length ≤ 63) (ht : t ≤ 1000) (k : ∀ pt H', Same H H' → H pt = none → PotAt H' pt → Q (.ref pt) H') {D : Ends} (hD : D.rt = Q) :
    tPotR K D [some (.ref a), some (.int (t : Int)), some (.int c), none, none, none] H := by
  have hsz : (1000 : Nat) < sizeLine := by decide
  obtain ⟨ms, ems, hms⟩ := cut_ints ns none (some 7)
  refine ⟨_, rfl, _, _, rfl, rfl, .inl ⟨by decide, by decide⟩, _, _, rfl, rfl, ?_⟩
  refine ⟨_, rfl, _, rfl, a, _, rfl, ha, fun p hp => ⟨_, rfl, (by show 1 ≤ sizeLine; decide), fun q hq => ?_⟩⟩
  rw [ems] at hq ⊢
  refine ⟨p, q, _, _, rfl, rfl, by rw [upd_ne (ne_of_none upd_same hq), upd_same], upd_same, by rw [List.length_map]; show ms.length + 1 ≤ sizeLine; omega, fun m hm => ?_⟩
  have s1 : Same H _ := same_new (same_new (same_upd (o := .lst (ms.map V.int)) hp) hq (o := .lst [.int c])) hm (o := .lst (ms.map V.int ++ [.int c]))
  have em : ms.map V.int ++ [V.int c] = (ms ++ [c]).map V.int := by rw [List.map_append]; rfl
  rw [em] at s1 ⊢
  refine ⟨m, rfl, ⟨_, SqL.of upd_same⟩, for_list (K := K) (a := m) (xs := (ms ++ [c]).map V.int) (fun i σ H' => (∃ (st : Int) (v4 : Option V), σ = [some (.ref a), some (.int (t : Int)), some (.int c), some (.int st), v4, none] ∧ 0 ≤ st ∧ st < 2147483563) ∧ Same H H' ∧ H' m = some (.lst ((ms ++ [c]).map V.int))) ?_ (fun i σ H' _ e => SqL.of e.2.2) ?_ ?_⟩
  · exact ⟨⟨_, none, rfl, by omega, by omega⟩, s1, upd_same⟩
  · rintro i x σ H2 hx ⟨⟨st, v4, rfl, h0, h1⟩, s2, hm2⟩
    obtain ⟨y, hy, rfl⟩ := mem_ints (List.mem_of_getElem? hx)
    refine ⟨_, rfl, _, _, rfl, rfl, .inr ⟨by decide, by decide⟩, _, rfl, .inl ⟨_, rfl, _, _, rfl, rfl, (by show (0 : Int) < 2147483563; decide), _, _, rfl, rfl, _, _, rfl, rfl, .inl ⟨_, rfl, _, _, rfl, rfl, (by show (0 : Int) < 2147483563; decide), ?_⟩⟩⟩
    exact ⟨⟨_, _, rfl, Int.emod_nonneg _ (by decide), Int.emod_lt_of_pos _ (by decide)⟩, s2, hm2⟩
  · rintro σ H2 ⟨⟨st, v4, rfl, h0, h1⟩, s2, hm2⟩
    have fin : ∀ d : Int, tPotE D [some (.ref a), some (.int (t : Int)), some (.int c), some (.int st), v4, some (.int d)] H2 := fun d => by
      refine ⟨_, rfl, _, rfl, (by show 3 ≤ sizeLine; decide), fun pt hpt => ?_⟩
      rw [hD]
      exact k pt _ (same_new s2 hpt) (s2.free hpt) ⟨d, st, 0, upd_same, h0, h1⟩
    refine ⟨_, rfl, _, _, rfl, rfl, ⟨by decide, by decide, by decide⟩, _, _, rfl, rfl, _, rfl, ite2 (fun hc => ?_) (fun hc => ?_)⟩
    · exact ⟨_, rfl, fin c⟩
    · refine ⟨_, rfl, _, _, rfl, rfl, ⟨by decide, by decide, by decide⟩, _, _, rfl, rfl, _, _, rfl, rfl, _, rfl, ite2 (fun hc => ?_) (fun hc => ?_)⟩
      · exact ⟨_, rfl, _, _, rfl, rfl, fin (0 - c)⟩
      · exact fin 0
theorem seqL_same {H H' : Hp} {a : Addr} {xs : List V} (s : Same H H') (h : SqL K H a xs) : SqL K H' a xs := s.seq h
theorem ok_lpot (D : Df K mg "_law_pot" s__law_pot) (T : Free mg) : Cl P w K mg base 1 "_law_pot" ["_law_script", "_law_turn"] (spLPot K) := by
  refine D.cl sc_lpot (fun vs H Q E h => ?_) (fun _ _ _ _ _ _ us hl => match us, hl with | [_, _], _ => rfl) (fun f cdv A outer s H vs Q E hr h => ?_)
  · obtain ⟨a, t, ns, rfl, _⟩ := h
    rfl
  · obtain ⟨a, t, ns, rfl, ha, hl, ht, k⟩ := h
    have hsz : (1000 : Nat) < sizeLine := by decide
    refine ⟨_, pss_cons (ps_set (i := 2) sc_lpot.nd rfl (Or.inl rfl) (pe_ifExp (pt_cmpR op_lt (pv 1) (pe_callB call_len_seq (by rfl) T.len boot_len (pa_cons (pv 0) pa_nil)) (nomark _))
        (pe_callTy call_int1 (by rfl) T.int (by decide +kernel) (pa_cons (pe_ix ix_list (pv 0) (pv 1) (fun _ _ => rfl)) pa_nil))
        (pe_op op_add (pe_op op_add (pe_op op_mul pe_int (pv 1)) pe_int) (pe_op op_mod (pe_callTy call_int1 (by rfl) T.int (by decide +kernel) (pa_cons (pe_callB (cr_sum rfl) (by rfl) T.sum (by decide +kernel) (pa_cons (pe_slice sl_list (pv 0) po_none (po_some pe_int)) pa_nil)) pa_nil)) pe_int))))
      (pss_cons (ps_set (i := 3) sc_lpot.nd rfl (Or.inl rfl) (pe_op op_add pe_int (pe_op op_mul pe_int (pv 1))))
      (pss_cons (ps_for PassesOwn.never rfl (pi_list (pe_op op_cat (pe_slice sl_list (pv 0) po_none (po_some pe_int)) (pe_lst (pa_cons (pv 2) pa_nil)))) (pg_name (i := 4) sc_lpot.nd rfl (Or.inl rfl))
        (pss_one (ps_set (i := 3) sc_lpot.nd rfl (Or.inl rfl) (pe_op op_mod (pe_callTy call_int1 (by rfl) T.int (by decide +kernel) (pa_cons (pe_op op_add (pe_op op_add (pe_op op_mul (pv 3) pe_int) (pe_op op_mod (pe_callTy call_int1 (by rfl) T.int (by decide +kernel) (pa_cons (pv 4) pa_nil)) pe_int)) pe_int) pa_nil)) pe_int))))
      (pss_cons (ps_set (i := 5) sc_lpot.nd rfl (Or.inl rfl) (pe_ifExp (pt_cmpR op_ge (pv 2) (pe_op op_pow pe_int pe_int) (nomark _)) (pv 2) (pe_ifExp (pt_cmpR op_le (pv 2) (pe_op op_sub pe_int (pe_op op_pow pe_int pe_int)) (nomark _)) (pe_op op_sub pe_int (pv 2)) pe_int)))
      (pss_one (ps_ret (pe_lst (pa_cons (pv 5) (pa_cons (pv 3) (pa_cons pe_int pa_nil))))))))), ?_⟩
    have fin : ∀ (c : Int) H', Same H H' → tPotR K { nx := fun _ H' => Q .non H', rt := Q } [some (.ref a), some (.int (t : Int)), some (.int c), none, none, none] H' := fun c H' s' =>
      read_potR (seqL_same s' ha) hl ht (fun pt H2 s2 h2 p2 => k pt H2 (Same.trans s' s2) (s'.free h2) p2) rfl
    refine ⟨_, rfl, _, rfl, a, _, rfl, .inl ha, _, _, rfl, rfl, _, rfl, ite2 (fun hc => ?_) (fun hc => ?_)⟩
    · have hlt : t < ns.length := by
        have := of_decide_eq_true hc
        rw [List.length_map] at this
        omega
      refine ⟨_, rfl, _, rfl, a, _, _, _, rfl, rfl, ha, atI_nat (j := t) (v := V.int ns[t]) (by rw [List.getElem?_map, List.getElem?_eq_getElem hlt]; rfl), .inl ⟨_, rfl, ?_⟩⟩
      exact fin _ H (Same.refl H)
    · obtain ⟨ms, ems, hms⟩ := cut_ints ns none (some 3)
      refine ⟨_, rfl, _, _, rfl, rfl, .inl ⟨by decide, by decide⟩, _, _, rfl, rfl, ?_⟩
      refine ⟨_, rfl, _, rfl, a, _, rfl, ha, fun p hp => ?_⟩
      rw [ems]
      refine ⟨p, ms, rfl, SqL.of upd_same, .inl ⟨_, rfl, _, _, rfl, rfl, (by show (0 : Int) < 1000003; decide), _, _, rfl, rfl, ?_⟩⟩
      exact fin _ _ (same_upd hp)
def spLaw (K : PySem.W.Frag) : Sp := fun vs H Q _ => ∃ (a : Addr) (ns : List Int), vs = [.ref a] ∧ SqL K H a (ns.map V.int) ∧ ns.length ≤ 63 ∧ ∀ H', Q (.bl true) H'
theorem sc_law : FnScope ["_law_script", "_law_turn"] ["_law_script"] (defScope s_law) := ⟨rfl, rfl, rfl, by decide +kernel, rfl, by decide +kernel, by decide +kernel⟩
theorem ok_law {f : Addr} {fd : FuncData} (F : FunD K "law" "law" (defArgs s_law) (defBody s_law) (defScope s_law) [] [] f fd) (T : Free mg) (c1 : Cl P w K mg base 1 "_law_pot" ["_law_script", "_law_turn"] (spLPot K)) (c2 : ClG P w K mg base 7 "_law_right" ["_law_pot_here"] spRight) : FnG P w K mg base 8 f fd ["_law_script"] (spLaw K) := by
  refine okG F sc_law (fun vs H Q E h => ?_) (fun cdv A outer s H vs Q hr hG h => ?_)
  · obtain ⟨a, ns, rfl, _⟩ := h
    rfl
  · obtain ⟨a, ns, rfl, ha, hl, k⟩ := h
    have hsz : (1000 : Nat) < sizeLine := by decide
    refine ⟨_, pss_one (ps_ret (pe_callB (cr_all rfl) (by rfl) T.all (by decide +kernel) (pa_cons (pe_lc (own := [("_law_turn", 1)]) (g := gName 1) (te := tCl spRight (tCons (tCl (spLPot K) (tCons (tVar 0) (tCons (tVar 1) tNil))) tNil)) (by rfl) sc_law.nd
      (pi_range1 (by rfl) T.range (pa_cons (pe_callB (call_max2 rfl) (by rfl) T.max (by decide +kernel) (pa_cons pe_int (pa_cons (pe_callB (call_min2 rfl) (by rfl) T.min (by decide +kernel) (pa_cons (pe_callB call_len_seq (by rfl) T.len boot_len (pa_cons (pv 0) pa_nil)) (pa_cons pe_int pa_nil))) pa_nil))) pa_nil))
      (blkOk_by (own := [("_law_turn", 1)]) (N := ["_law_script", "_law_turn"]) (sc := defScope s_law) (by decide +kernel))
      (fun _ _ _ _ _ => pg_name (i := 1) sc_law.nd rfl (Or.inl rfl)) (fun _ _ _ _ _ => pts_nil) (fun _ _ _ _ _ => pe_clG c2 hr (by decide) hG (by rfl) (pa_cons (pe_cl c1 hr (by decide) (by rfl) (pa_cons (pv 0) (pa_cons (pv 1) pa_nil))) pa_nil))) pa_nil))), ?_⟩
    refine ⟨_, rfl, a, _, rfl, .inl ha, _, _, rfl, _, _, rfl, ?_⟩
    generalize hn : (if (if (3 : Int) < ((ns.map V.int).length : Nat) then (3 : Int) else ((ns.map V.int).length : Nat)) > 2 then (if (3 : Int) < ((ns.map V.int).length : Nat) then (3 : Int) else ((ns.map V.int).length : Nat)) else 2) = n
    have hn3 : 2 ≤ n ∧ n ≤ 3 := by
      rw [← hn]
      split <;> split <;> omega
    refine ⟨n, rfl, by omega, by omega, fun L hL => ?_⟩
    refine lc_range (n := n.toNat) (fun i H' => H' L = some (.lst ((List.replicate i true).map V.bl)) ∧ Same H H') ⟨upd_same, same_upd hL⟩ ?_ ?_
    · rintro i H1 hi ⟨hacc, hs⟩
      refine ⟨rfl, ?_⟩
      dsimp only [tYes]
      rw [if_pos rfl]
      refine ⟨_, rfl, _, rfl, a, i, ns, by rw [Int.zero_add], seqL_same hs ha, hl, by omega, fun pt H2 s2 h2 p2 => ?_⟩
      refine ⟨pt, rfl, p2, fun H3 f3 => ?_⟩
      have nL : L ≠ pt := ne_of_none hacc h2
      have hacc3 := f3.keep _ _ (s2 _ _ hacc) (not_in1 nL)
      refine ⟨_, hacc3, ?_, ?_, fun b o e => ?_⟩
      · rw [List.length_map, List.length_replicate]
        omega
      · rw [upd_same, List.replicate_succ', List.map_append]
        rfl
      · rw [upd_ne (ne_of_none e hL)]
        have e1 := hs _ _ e
        exact f3.keep _ _ (s2 _ _ e1) (not_in1 (ne_of_none e1 h2))
    · rintro H1 ⟨hacc, hs⟩
      refine ⟨L, _, rfl, SqL.of hacc, ?_⟩
      rw [all_true]
      exact k H1
end
end Sg
/-! ## SgH -/
namespace Sg
open PySem PySem.Spec PyProof.Rows L2
/-! ### facts by names -/
def d_is_whole : He.DefD := ⟨("is_whole", none), "is_whole", "is_whole", defArgs s_is_whole, defBody s_is_whole, defScope s_is_whole, [], []⟩
def d_is_pair : He.DefD := ⟨("is_pair", none), "is_pair", "is_pair", defArgs s_is_pair, defBody s_is_pair, defScope s_is_pair, [], []⟩
def d_power_of : He.DefD := ⟨("power_of", none), "power_of", "power_of", defArgs s_power_of, defBody s_power_of, defScope s_power_of, [], []⟩
def d_wrong_in_row : He.DefD := ⟨("wrong_in_row", none), "wrong_in_row", "wrong_in_row", defArgs s_wrong_in_row, defBody s_wrong_in_row, defScope s_wrong_in_row, [], []⟩
def d_row_of_sums : He.DefD := ⟨("row_of_sums", none), "row_of_sums", "row_of_sums", defArgs s_row_of_sums, defBody s_row_of_sums, defScope s_row_of_sums, [], []⟩
def d_row_plus : He.DefD := ⟨("row_plus", none), "row_plus", "row_plus", defArgs s_row_plus, defBody s_row_plus, defScope s_row_plus, [], []⟩
def d_row_mirror : He.DefD := ⟨("row_mirror", none), "row_mirror", "row_mirror", defArgs s_row_mirror, defBody s_row_mirror, defScope s_row_mirror, [], []⟩
def d_row_product : He.DefD := ⟨("row_product", none), "row_product", "row_product", defArgs s_row_product, defBody s_row_product, defScope s_row_product, [], []⟩
def d_differences_by : He.DefD := ⟨("differences_by", none), "differences_by", "differences_by", defArgs s_differences_by, defBody s_differences_by, defScope s_differences_by, [], []⟩
def d_with_weight : He.DefD := ⟨("with_weight", none), "with_weight", "with_weight", defArgs s_with_weight, defBody s_with_weight, defScope s_with_weight, [], []⟩
def d_is_name_by : He.DefD := ⟨("is_name_by", none), "is_name_by", "is_name_by", defArgs s_is_name_by, defBody s_is_name_by, defScope s_is_name_by, [], []⟩
def d_book_row : He.DefD := ⟨("book_row", none), "book_row", "book_row", defArgs s_book_row, defBody s_book_row, defScope s_book_row, [], []⟩
def d_book_put : He.DefD := ⟨("book_put", none), "book_put", "book_put", defArgs s_book_put, defBody s_book_put, defScope s_book_put, [], []⟩
def d_book_more : He.DefD := ⟨("book_more", none), "book_more", "book_more", defArgs s_book_more, defBody s_book_more, defScope s_book_more, [], []⟩
def d_book_strike : He.DefD := ⟨("book_strike", none), "book_strike", "book_strike", defArgs s_book_strike, defBody s_book_strike, defScope s_book_strike, [], []⟩
def d_book_join : He.DefD := ⟨("book_join", none), "book_join", "book_join", defArgs s_book_join, defBody s_book_join, defScope s_book_join, [], []⟩
def d_book_cross : He.DefD := ⟨("book_cross", none), "book_cross", "book_cross", defArgs s_book_cross, defBody s_book_cross, defScope s_book_cross, [], []⟩
def d_is_great : He.DefD := ⟨("is_great", none), "is_great", "is_great", defArgs s_is_great, defBody s_is_great, defScope s_is_great, [], []⟩
def d_is_full : He.DefD := ⟨("is_full", none), "is_full", "is_full", defArgs s_is_full, defBody s_is_full, defScope s_is_full, [], []⟩
def d_check_row : He.DefD := ⟨("check_row", none), "check_row", "check_row", defArgs s_check_row, defBody s_check_row, defScope s_check_row, [], []⟩
def d_check_both : He.DefD := ⟨("check_both", none), "check_both", "check_both", defArgs s_check_both, defBody s_check_both, defScope s_check_both, [], []⟩
def d_check_whole : He.DefD := ⟨("check_whole", none), "check_whole", "check_whole", defArgs s_check_whole, defBody s_check_whole, defScope s_check_whole, [], []⟩
def d_few_pairs : He.DefD := ⟨("few_pairs", none), "few_pairs", "few_pairs", defArgs s_few_pairs, defBody s_few_pairs, defScope s_few_pairs, [], []⟩
def d_check_name : He.DefD := ⟨("check_name", none), "check_name", "check_name", defArgs s_check_name, defBody s_check_name, defScope s_check_name, [], []⟩
def d_check_names : He.DefD := ⟨("check_names", none), "check_names", "check_names", defArgs s_check_names, defBody s_check_names, defScope s_check_names, [], []⟩
def d_differences : He.DefD := ⟨("differences", none), "differences", "differences", defArgs s_differences, defBody s_differences, defScope s_differences, [], []⟩
def d_grown : He.DefD := ⟨("grown", none), "grown", "grown", defArgs s_grown, defBody s_grown, defScope s_grown, [], []⟩
def d__law_pot : He.DefD := ⟨("_law_pot", none), "_law_pot", "_law_pot", defArgs s__law_pot, defBody s__law_pot, defScope s__law_pot, [], []⟩
def d__law_draw : He.DefD := ⟨("_law_draw", none), "_law_draw", "_law_draw", defArgs s__law_draw, defBody s__law_draw, defScope s__law_draw, [], []⟩
def d__law_pick : He.DefD := ⟨("_law_pick", none), "_law_pick", "_law_pick", defArgs s__law_pick, defBody s__law_pick, defScope s__law_pick, [], []⟩
def d__law_packed : He.DefD := ⟨("_law_packed", none), "_law_packed", "_law_packed", defArgs s__law_packed, defBody s__law_packed, defScope s__law_packed, [], []⟩
def d__law_times : He.DefD := ⟨("_law_times", none), "_law_times", "_law_times", defArgs s__law_times, defBody s__law_times, defScope s__law_times, [], []⟩
def d__law_plus : He.DefD := ⟨("_law_plus", none), "_law_plus", "_law_plus", defArgs s__law_plus, defBody s__law_plus, defScope s__law_plus, [], []⟩
def d__law_mirror : He.DefD := ⟨("_law_mirror", none), "_law_mirror", "_law_mirror", defArgs s__law_mirror, defBody s__law_mirror, defScope s__law_mirror, [], []⟩
def d__law_gaps : He.DefD := ⟨("_law_gaps", none), "_law_gaps", "_law_gaps", defArgs s__law_gaps, defBody s__law_gaps, defScope s__law_gaps, [], []⟩
def d__law_names : He.DefD := ⟨("_law_names", none), "_law_names", "_law_names", defArgs s__law_names, defBody s__law_names, defScope s__law_names, [], []⟩
def d__law_row : He.DefD := ⟨("_law_row", none), "_law_row", "_law_row", defArgs s__law_row, defBody s__law_row, defScope s__law_row, [], []⟩
def d__law_is_kept : He.DefD := ⟨("_law_is_kept", none), "_law_is_kept", "_law_is_kept", defArgs s__law_is_kept, defBody s__law_is_kept, defScope s__law_is_kept, [], []⟩
def d__law_weight : He.DefD := ⟨("_law_weight", none), "_law_weight", "_law_weight", defArgs s__law_weight, defBody s__law_weight, defScope s__law_weight, [], []⟩
def d__law_fresh : He.DefD := ⟨("_law_fresh", none), "_law_fresh", "_law_fresh", defArgs s__law_fresh, defBody s__law_fresh, defScope s__law_fresh, [], []⟩
def d__law_is_grown : He.DefD := ⟨("_law_is_grown", none), "_law_is_grown", "_law_is_grown", defArgs s__law_is_grown, defBody s__law_is_grown, defScope s__law_is_grown, [], []⟩
def d__law_right : He.DefD := ⟨("_law_right", none), "_law_right", "_law_right", defArgs s__law_right, defBody s__law_right, defScope s__law_right, [], []⟩
def d_law : He.DefD := ⟨("law", none), "law", "law", defArgs s_law, defBody s_law, defScope s_law, [], []⟩
def e___init__ : He.DefD := ⟨("Book", some "__init__"), "__init__", "Book.__init__", defArgs m___init__, defBody m___init__, defScope m___init__, [], []⟩
def e__be_new : He.DefD := ⟨("Book", some "_be_new"), "_be_new", "Book._be_new", defArgs m__be_new, defBody m__be_new, defScope m__be_new, [], []⟩
def e__be_there : He.DefD := ⟨("Book", some "_be_there"), "_be_there", "Book._be_there", defArgs m__be_there, defBody m__be_there, defScope m__be_there, [], []⟩
def e__lead : He.DefD := ⟨("Book", some "_lead"), "_lead", "Book._lead", defArgs m__lead, defBody m__lead, defScope m__lead, [], []⟩
def e_put : He.DefD := ⟨("Book", some "put"), "put", "Book.put", defArgs m_put, defBody m_put, defScope m_put, [], []⟩
def e_more : He.DefD := ⟨("Book", some "more"), "more", "Book.more", defArgs m_more, defBody m_more, defScope m_more, [], []⟩
def e_strike : He.DefD := ⟨("Book", some "strike"), "strike", "Book.strike", defArgs m_strike, defBody m_strike, defScope m_strike, [], []⟩
def e_join : He.DefD := ⟨("Book", some "join"), "join", "Book.join", defArgs m_join, defBody m_join, defScope m_join, [], []⟩
def e_cross : He.DefD := ⟨("Book", some "cross"), "cross", "Book.cross", defArgs m_cross, defBody m_cross, defScope m_cross, [], []⟩
def e_undo : He.DefD := ⟨("Book", some "undo"), "undo", "Book.undo", defArgs m_undo, defBody m_undo, defScope m_undo, [], []⟩
def e_row : He.DefD := ⟨("Book", some "row"), "row", "Book.row", defArgs m_row, defBody m_row, defScope m_row, [], []⟩
def e_kept : He.DefD := ⟨("Book", some "kept"), "kept", "Book.kept", defArgs m_kept, defBody m_kept, defScope m_kept, [], []⟩
def e_twin : He.DefD := ⟨("Book", some "twin"), "twin", "Book.twin", defArgs m_twin, defBody m_twin, defScope m_twin, [], []⟩
def fn : List He.DefD := [d_is_whole, d_is_pair, d_power_of, d_wrong_in_row, d_row_of_sums, d_row_plus, d_row_mirror, d_row_product, d_differences_by, d_with_weight, d_is_name_by, d_book_row, d_book_put, d_book_more, d_book_strike, d_book_join, d_book_cross, d_is_great, d_is_full, d_check_row, d_check_both, d_check_whole, d_few_pairs, d_check_name, d_check_names, d_differences, d_grown, d__law_pot, d__law_draw, d__law_pick, d__law_packed, d__law_times, d__law_plus, d__law_mirror, d__law_gaps, d__law_names, d__law_row, d__law_is_kept, d__law_weight, d__law_fresh, d__law_is_grown, d__law_right, d_law] ++ [e___init__, e__be_new, e__be_there, e__lead, e_put, e_more, e_strike, e_join, e_cross, e_undo, e_row, e_kept, e_twin]
def fa1 : List He.Fa := [.glo "is_whole", .glo "is_pair", .glo "power_of", .glo "wrong_in_row", .glo "row_of_sums", .glo "row_plus", .glo "row_mirror", .glo "row_product", .glo "differences_by", .glo "with_weight", .glo "is_name_by", .glo "book_row", .glo "book_put", .glo "book_more", .glo "book_strike", .glo "book_join", .glo "book_cross", .glo "is_great", .glo "is_full", .glo "check_row", .glo "check_both", .glo "check_whole", .glo "few_pairs", .glo "check_name", .glo "check_names", .glo "differences", .glo "grown", .glo "_law_pot", .glo "_law_draw", .glo "_law_pick", .glo "_law_packed", .glo "_law_times", .glo "_law_plus"]
def fa2 : List He.Fa := [.glo "_law_mirror", .glo "_law_gaps", .glo "_law_names", .glo "_law_row", .glo "_law_is_kept", .glo "_law_weight", .glo "_law_fresh", .glo "_law_is_grown", .glo "_law_right", .glo "law", .int "MOST_PAIRS" 400, .int "MOST_ENTRIES" 12, .int "MOST_IN_ENTRY" 20, .int "MOST_FIGURES" 400, .int "MOST_LETTERS" 8, .str "LETTERS" "abcdefghijklmnopqrstuvwxyz", .free "isinstance", .free "int", .free "bool", .free "tuple", .free "len", .free "enumerate", .free "sorted", .free "dict", .free "range", .free "str", .free "all", .free "any", .free "abs", .free "list", .free "sum", .free "repr", .free "max", .free "min"]
def fa3 : List He.Fa := [.glo "Book", .cls "Book", .noat "Book" "_entries", .noat "Book" "_past", .mkr "Book", .meth "Book" "_be_new", .meth "Book" "_be_there", .meth "Book" "_lead", .meth "Book" "put", .meth "Book" "more", .meth "Book" "strike", .meth "Book" "join", .meth "Book" "cross", .meth "Book" "undo", .meth "Book" "row", .meth "Book" "kept", .meth "Book" "twin"]
def fa : List He.Fa := fa1 ++ (fa2 ++ fa3)
abbrev R : PySem.W.OpenRow := PySem.W.OpenLaw.row PySem.Challenge.rw_samegaps_k84_whole_kept_differences
abbrev hk : PySem.W.Hook := He.hookD 5 fa fn
def ob (s : PySem.W.SharedT) : He.AlD := He.obsDG 5 fa fn (HandSHeadRun.getT s)
theorem ob_eq (s : PySem.W.SharedT) : ob s = hk.obs s.abs := He.obsDG_eq (HandSHeadRun.getT_eq s)
def loose1 : List PySem.Str := ["_wall", "is_whole", "is_pair", "power_of", "MOST_PAIRS", "wrong_in_row", "row_of_sums", "row_plus", "row_mirror", "row_product", "differences_by", "with_weight", "MOST_ENTRIES", "MOST_IN_ENTRY", "MOST_FIGURES", "LETTERS", "MOST_LETTERS", "is_name_by", "book_row", "book_put", "book_more", "book_strike", "book_join", "book_cross", "is_great", "is_full", "GapError", "InvalidWhole"]
def loose2 : List PySem.Str := ["InvalidName", "InvalidRow", "NotNow", "TooMany", "Alike", "check_row", "check_both", "check_whole", "few_pairs", "check_name", "check_names", "Book", "differences", "grown", "_law_pot", "_law_draw", "_law_pick", "_law_packed", "_law_times", "_law_plus", "_law_mirror", "_law_gaps", "_law_names", "_law_row", "_law_is_kept", "_law_weight", "_law_fresh", "_law_is_grown", "_law_right"]
abbrev loose : List PySem.Str := loose1 ++ loose2
set_option maxHeartbeats 0 in
theorem run (w : World) : HandSHeadRun.RunEq R (PySem.W.view R.prog [66]) hk ob 20000 loose w := by
  intro os
  kernel_rfl
end Sg
/-! ## SgF -/
namespace Sg
open PySem PySem.Spec PyProof.Rows L2
theorem free_of {K : PySem.W.Frag} {h : Heap} {mg : Str → Option Value} (X : K.In h) (G : h.Ns mainGlobals mg) (c : He.SaysD fa fn K) : Free mg where
  isi := He.free_ok X G (c.fact 49 (f := .free "isinstance") rfl)
  int := He.free_ok X G (c.fact 50 (f := .free "int") rfl)
  bool := He.free_ok X G (c.fact 51 (f := .free "bool") rfl)
  tup := He.free_ok X G (c.fact 52 (f := .free "tuple") rfl)
  len := He.free_ok X G (c.fact 53 (f := .free "len") rfl)
  enum := He.free_ok X G (c.fact 54 (f := .free "enumerate") rfl)
  sorted := He.free_ok X G (c.fact 55 (f := .free "sorted") rfl)
  dict := He.free_ok X G (c.fact 56 (f := .free "dict") rfl)
  range := He.free_ok X G (c.fact 57 (f := .free "range") rfl)
  str := He.free_ok X G (c.fact 58 (f := .free "str") rfl)
  all := He.free_ok X G (c.fact 59 (f := .free "all") rfl)
  any := He.free_ok X G (c.fact 60 (f := .free "any") rfl)
  abs := He.free_ok X G (c.fact 61 (f := .free "abs") rfl)
  list := He.free_ok X G (c.fact 62 (f := .free "list") rfl)
  sum := He.free_ok X G (c.fact 63 (f := .free "sum") rfl)
  repr := He.free_ok X G (c.fact 64 (f := .free "repr") rfl)
  max := He.free_ok X G (c.fact 65 (f := .free "max") rfl)
  min := He.free_ok X G (c.fact 66 (f := .free "min") rfl)
  mostP := He.int_ok X G (c.fact 43 (f := .int "MOST_PAIRS" 400) rfl)
  mostE := He.int_ok X G (c.fact 44 (f := .int "MOST_ENTRIES" 12) rfl)
  mostI := He.int_ok X G (c.fact 45 (f := .int "MOST_IN_ENTRY" 20) rfl)
  mostF := He.int_ok X G (c.fact 46 (f := .int "MOST_FIGURES" 400) rfl)
  mostL := He.int_ok X G (c.fact 47 (f := .int "MOST_LETTERS" 8) rfl)
  letters := He.str_ok X G (c.fact 48 (f := .str "LETTERS" "abcdefghijklmnopqrstuvwxyz") rfl)
theorem book_of {K : PySem.W.Frag} {h : Heap} {mg : Str → Option Value} (X : K.In h) (G : h.Ns mainGlobals mg) (c : He.SaysD fa fn K) : TB K mg (He.ga K "Book") where
  cl := He.cls_ok (c.fact 68 (f := .cls "Book") rfl)
  nE := He.noat_ok (c.fact 69 (f := .noat "Book" "_entries") rfl)
  nP := He.noat_ok (c.fact 70 (f := .noat "Book" "_past") rfl)
  mgC := He.glo_ok X G (c.fact 67 (f := .glo "Book") rfl)
theorem df_is_whole {K : PySem.W.Frag} {h : Heap} {mg : Str → Option Value} (X : K.In h) (G : h.Ns mainGlobals mg) (c : He.SaysD fa fn K) : Df K mg "is_whole" s_is_whole := by
  obtain ⟨fd, F⟩ := c.def_ 0 (d := d_is_whole) rfl
  exact ⟨_, fd, F, He.glo_ok X G (c.fact 0 (f := .glo "is_whole") rfl)⟩
theorem df_is_pair {K : PySem.W.Frag} {h : Heap} {mg : Str → Option Value} (X : K.In h) (G : h.Ns mainGlobals mg) (c : He.SaysD fa fn K) : Df K mg "is_pair" s_is_pair := by
  obtain ⟨fd, F⟩ := c.def_ 1 (d := d_is_pair) rfl
  exact ⟨_, fd, F, He.glo_ok X G (c.fact 1 (f := .glo "is_pair") rfl)⟩
theorem df_power_of {K : PySem.W.Frag} {h : Heap} {mg : Str → Option Value} (X : K.In h) (G : h.Ns mainGlobals mg) (c : He.SaysD fa fn K) : Df K mg "power_of" s_power_of := by
  obtain ⟨fd, F⟩ := c.def_ 2 (d := d_power_of) rfl
  exact ⟨_, fd, F, He.glo_ok X G (c.fact 2 (f := .glo "power_of") rfl)⟩
theorem df_wrong_in_row {K : PySem.W.Frag} {h : Heap} {mg : Str → Option Value} (X : K.In h) (G : h.Ns mainGlobals mg) (c : He.SaysD fa fn K) : Df K mg "wrong_in_row" s_wrong_in_row := by
  obtain ⟨fd, F⟩ := c.def_ 3 (d := d_wrong_in_row) rfl
  exact ⟨_, fd, F, He.glo_ok X G (c.fact 3 (f := .glo "wrong_in_row") rfl)⟩
theorem df_row_of_sums {K : PySem.W.Frag} {h : Heap} {mg : Str → Option Value} (X : K.In h) (G : h.Ns mainGlobals mg) (c : He.SaysD fa fn K) : Df K mg "row_of_sums" s_row_of_sums := by
  obtain ⟨fd, F⟩ := c.def_ 4 (d := d_row_of_sums) rfl
  exact ⟨_, fd, F, He.glo_ok X G (c.fact 4 (f := .glo "row_of_sums") rfl)⟩
theorem df_row_plus {K : PySem.W.Frag} {h : Heap} {mg : Str → Option Value} (X : K.In h) (G : h.Ns mainGlobals mg) (c : He.SaysD fa fn K) : Df K mg "row_plus" s_row_plus := by
  obtain ⟨fd, F⟩ := c.def_ 5 (d := d_row_plus) rfl
  exact ⟨_, fd, F, He.glo_ok X G (c.fact 5 (f := .glo "row_plus") rfl)⟩
theorem df_row_mirror {K : PySem.W.Frag} {h : Heap} {mg : Str → Option Value} (X : K.In h) (G : h.Ns mainGlobals mg) (c : He.SaysD fa fn K) : Df K mg "row_mirror" s_row_mirror := by
  obtain ⟨fd, F⟩ := c.def_ 6 (d := d_row_mirror) rfl
  exact ⟨_, fd, F, He.glo_ok X G (c.fact 6 (f := .glo "row_mirror") rfl)⟩
theorem df_row_product {K : PySem.W.Frag} {h : Heap} {mg : Str → Option Value} (X : K.In h) (G : h.Ns mainGlobals mg) (c : He.SaysD fa fn K) : Df K mg "row_product" s_row_product := by
  obtain ⟨fd, F⟩ := c.def_ 7 (d := d_row_product) rfl
  exact ⟨_, fd, F, He.glo_ok X G (c.fact 7 (f := .glo "row_product") rfl)⟩
theorem df_differences_by {K : PySem.W.Frag} {h : Heap} {mg : Str → Option Value} (X : K.In h) (G : h.Ns mainGlobals mg) (c : He.SaysD fa fn K) : Df K mg "differences_by" s_differences_by := by
  obtain ⟨fd, F⟩ := c.def_ 8 (d := d_differences_by) rfl
  exact ⟨_, fd, F, He.glo_ok X G (c.fact 8 (f := .glo "differences_by") rfl)⟩
theorem df_with_weight {K : PySem.W.Frag} {h : Heap} {mg : Str → Option Value} (X : K.In h) (G : h.Ns mainGlobals mg) (c : He.SaysD fa fn K) : Df K mg "with_weight" s_with_weight := by
  obtain ⟨fd, F⟩ := c.def_ 9 (d := d_with_weight) rfl
  exact ⟨_, fd, F, He.glo_ok X G (c.fact 9 (f := .glo "with_weight") rfl)⟩
theorem df_is_name_by {K : PySem.W.Frag} {h : Heap} {mg : Str → Option Value} (X : K.In h) (G : h.Ns mainGlobals mg) (c : He.SaysD fa fn K) : Df K mg "is_name_by" s_is_name_by := by
  obtain ⟨fd, F⟩ := c.def_ 10 (d := d_is_name_by) rfl
  exact ⟨_, fd, F, He.glo_ok X G (c.fact 10 (f := .glo "is_name_by") rfl)⟩
theorem df_book_row {K : PySem.W.Frag} {h : Heap} {mg : Str → Option Value} (X : K.In h) (G : h.Ns mainGlobals mg) (c : He.SaysD fa fn K) : Df K mg "book_row" s_book_row := by
  obtain ⟨fd, F⟩ := c.def_ 11 (d := d_book_row) rfl
  exact ⟨_, fd, F, He.glo_ok X G (c.fact 11 (f := .glo "book_row") rfl)⟩
theorem df_book_put {K : PySem.W.Frag} {h : Heap} {mg : Str → Option Value} (X : K.In h) (G : h.Ns mainGlobals mg) (c : He.SaysD fa fn K) : Df K mg "book_put" s_book_put := by
  obtain ⟨fd, F⟩ := c.def_ 12 (d := d_book_put) rfl
  exact ⟨_, fd, F, He.glo_ok X G (c.fact 12 (f := .glo "book_put") rfl)⟩
theorem df_book_more {K : PySem.W.Frag} {h : Heap} {mg : Str → Option Value} (X : K.In h) (G : h.Ns mainGlobals mg) (c : He.SaysD fa fn K) : Df K mg "book_more" s_book_more := by
  obtain ⟨fd, F⟩ := c.def_ 13 (d := d_book_more) rfl
  exact ⟨_, fd, F, He.glo_ok X G (c.fact 13 (f := .glo "book_more") rfl)⟩
theorem df_book_strike {K : PySem.W.Frag} {h : Heap} {mg : Str → Option Value} (X : K.In h) (G : h.Ns mainGlobals mg) (c : He.SaysD fa fn K) : Df K mg "book_strike" s_book_strike := by
  obtain ⟨fd, F⟩ := c.def_ 14 (d := d_book_strike) rfl
  exact ⟨_, fd, F, He.glo_ok X G (c.fact 14 (f := .glo "book_strike") rfl)⟩
theorem df_book_join {K : PySem.W.Frag} {h : Heap} {mg : Str → Option Value} (X : K.In h) (G : h.Ns mainGlobals mg) (c : He.SaysD fa fn K) : Df K mg "book_join" s_book_join := by
  obtain ⟨fd, F⟩ := c.def_ 15 (d := d_book_join) rfl
  exact ⟨_, fd, F, He.glo_ok X G (c.fact 15 (f := .glo "book_join") rfl)⟩
theorem df_book_cross {K : PySem.W.Frag} {h : Heap} {mg : Str → Option Value} (X : K.In h) (G : h.Ns mainGlobals mg) (c : He.SaysD fa fn K) : Df K mg "book_cross" s_book_cross := by
  obtain ⟨fd, F⟩ := c.def_ 16 (d := d_book_cross) rfl
  exact ⟨_, fd, F, He.glo_ok X G (c.fact 16 (f := .glo "book_cross") rfl)⟩
theorem df_is_great {K : PySem.W.Frag} {h : Heap} {mg : Str → Option Value} (X : K.In h) (G : h.Ns mainGlobals mg) (c : He.SaysD fa fn K) : Df K mg "is_great" s_is_great := by
  obtain ⟨fd, F⟩ := c.def_ 17 (d := d_is_great) rfl
  exact ⟨_, fd, F, He.glo_ok X G (c.fact 17 (f := .glo "is_great") rfl)⟩
theorem df_is_full {K : PySem.W.Frag} {h : Heap} {mg : Str → Option Value} (X : K.In h) (G : h.Ns mainGlobals mg) (c : He.SaysD fa fn K) : Df K mg "is_full" s_is_full := by
  obtain ⟨fd, F⟩ := c.def_ 18 (d := d_is_full) rfl
  exact ⟨_, fd, F, He.glo_ok X G (c.fact 18 (f := .glo "is_full") rfl)⟩
theorem df_check_row {K : PySem.W.Frag} {h : Heap} {mg : Str → Option Value} (X : K.In h) (G : h.Ns mainGlobals mg) (c : He.SaysD fa fn K) : Df K mg "check_row" s_check_row := by
  obtain ⟨fd, F⟩ := c.def_ 19 (d := d_check_row) rfl
  exact ⟨_, fd, F, He.glo_ok X G (c.fact 19 (f := .glo "check_row") rfl)⟩
theorem df_check_both {K : PySem.W.Frag} {h : Heap} {mg : Str → Option Value} (X : K.In h) (G : h.Ns mainGlobals mg) (c : He.SaysD fa fn K) : Df K mg "check_both" s_check_both := by
  obtain ⟨fd, F⟩ := c.def_ 20 (d := d_check_both) rfl
  exact ⟨_, fd, F, He.glo_ok X G (c.fact 20 (f := .glo "check_both") rfl)⟩
theorem df_check_whole {K : PySem.W.Frag} {h : Heap} {mg : Str → Option Value} (X : K.In h) (G : h.Ns mainGlobals mg) (c : He.SaysD fa fn K) : Df K mg "check_whole" s_check_whole := by
  obtain ⟨fd, F⟩ := c.def_ 21 (d := d_check_whole) rfl
  exact ⟨_, fd, F, He.glo_ok X G (c.fact 21 (f := .glo "check_whole") rfl)⟩
theorem df_few_pairs {K : PySem.W.Frag} {h : Heap} {mg : Str → Option Value} (X : K.In h) (G : h.Ns mainGlobals mg) (c : He.SaysD fa fn K) : Df K mg "few_pairs" s_few_pairs := by
  obtain ⟨fd, F⟩ := c.def_ 22 (d := d_few_pairs) rfl
  exact ⟨_, fd, F, He.glo_ok X G (c.fact 22 (f := .glo "few_pairs") rfl)⟩
theorem df_check_name {K : PySem.W.Frag} {h : Heap} {mg : Str → Option Value} (X : K.In h) (G : h.Ns mainGlobals mg) (c : He.SaysD fa fn K) : Df K mg "check_name" s_check_name := by
  obtain ⟨fd, F⟩ := c.def_ 23 (d := d_check_name) rfl
  exact ⟨_, fd, F, He.glo_ok X G (c.fact 23 (f := .glo "check_name") rfl)⟩
theorem df_check_names {K : PySem.W.Frag} {h : Heap} {mg : Str → Option Value} (X : K.In h) (G : h.Ns mainGlobals mg) (c : He.SaysD fa fn K) : Df K mg "check_names" s_check_names := by
  obtain ⟨fd, F⟩ := c.def_ 24 (d := d_check_names) rfl
  exact ⟨_, fd, F, He.glo_ok X G (c.fact 24 (f := .glo "check_names") rfl)⟩
theorem df_differences {K : PySem.W.Frag} {h : Heap} {mg : Str → Option Value} (X : K.In h) (G : h.Ns mainGlobals mg) (c : He.SaysD fa fn K) : Df K mg "differences" s_differences := by
  obtain ⟨fd, F⟩ := c.def_ 25 (d := d_differences) rfl
  exact ⟨_, fd, F, He.glo_ok X G (c.fact 25 (f := .glo "differences") rfl)⟩
theorem df_grown {K : PySem.W.Frag} {h : Heap} {mg : Str → Option Value} (X : K.In h) (G : h.Ns mainGlobals mg) (c : He.SaysD fa fn K) : Df K mg "grown" s_grown := by
  obtain ⟨fd, F⟩ := c.def_ 26 (d := d_grown) rfl
  exact ⟨_, fd, F, He.glo_ok X G (c.fact 26 (f := .glo "grown") rfl)⟩
theorem df__law_pot {K : PySem.W.Frag} {h : Heap} {mg : Str → Option Value} (X : K.In h) (G : h.Ns mainGlobals mg) (c : He.SaysD fa fn K) : Df K mg "_law_pot" s__law_pot := by
  obtain ⟨fd, F⟩ := c.def_ 27 (d := d__law_pot) rfl
  exact ⟨_, fd, F, He.glo_ok X G (c.fact 27 (f := .glo "_law_pot") rfl)⟩
theorem df__law_draw {K : PySem.W.Frag} {h : Heap} {mg : Str → Option Value} (X : K.In h) (G : h.Ns mainGlobals mg) (c : He.SaysD fa fn K) : Df K mg "_law_draw" s__law_draw := by
  obtain ⟨fd, F⟩ := c.def_ 28 (d := d__law_draw) rfl
  exact ⟨_, fd, F, He.glo_ok X G (c.fact 28 (f := .glo "_law_draw") rfl)⟩
theorem df__law_pick {K : PySem.W.Frag} {h : Heap} {mg : Str → Option Value} (X : K.In h) (G : h.Ns mainGlobals mg) (c : He.SaysD fa fn K) : Df K mg "_law_pick" s__law_pick := by
  obtain ⟨fd, F⟩ := c.def_ 29 (d := d__law_pick) rfl
  exact ⟨_, fd, F, He.glo_ok X G (c.fact 29 (f := .glo "_law_pick") rfl)⟩
theorem df__law_packed {K : PySem.W.Frag} {h : Heap} {mg : Str → Option Value} (X : K.In h) (G : h.Ns mainGlobals mg) (c : He.SaysD fa fn K) : Df K mg "_law_packed" s__law_packed := by
  obtain ⟨fd, F⟩ := c.def_ 30 (d := d__law_packed) rfl
  exact ⟨_, fd, F, He.glo_ok X G (c.fact 30 (f := .glo "_law_packed") rfl)⟩
theorem df__law_times {K : PySem.W.Frag} {h : Heap} {mg : Str → Option Value} (X : K.In h) (G : h.Ns mainGlobals mg) (c : He.SaysD fa fn K) : Df K mg "_law_times" s__law_times := by
  obtain ⟨fd, F⟩ := c.def_ 31 (d := d__law_times) rfl
  exact ⟨_, fd, F, He.glo_ok X G (c.fact 31 (f := .glo "_law_times") rfl)⟩
theorem df__law_plus {K : PySem.W.Frag} {h : Heap} {mg : Str → Option Value} (X : K.In h) (G : h.Ns mainGlobals mg) (c : He.SaysD fa fn K) : Df K mg "_law_plus" s__law_plus := by
  obtain ⟨fd, F⟩ := c.def_ 32 (d := d__law_plus) rfl
  exact ⟨_, fd, F, He.glo_ok X G (c.fact 32 (f := .glo "_law_plus") rfl)⟩
theorem df__law_mirror {K : PySem.W.Frag} {h : Heap} {mg : Str → Option Value} (X : K.In h) (G : h.Ns mainGlobals mg) (c : He.SaysD fa fn K) : Df K mg "_law_mirror" s__law_mirror := by
  obtain ⟨fd, F⟩ := c.def_ 33 (d := d__law_mirror) rfl
  exact ⟨_, fd, F, He.glo_ok X G (c.fact 33 (f := .glo "_law_mirror") rfl)⟩
theorem df__law_gaps {K : PySem.W.Frag} {h : Heap} {mg : Str → Option Value} (X : K.In h) (G : h.Ns mainGlobals mg) (c : He.SaysD fa fn K) : Df K mg "_law_gaps" s__law_gaps := by
  obtain ⟨fd, F⟩ := c.def_ 34 (d := d__law_gaps) rfl
  exact ⟨_, fd, F, He.glo_ok X G (c.fact 34 (f := .glo "_law_gaps") rfl)⟩
theorem df__law_names {K : PySem.W.Frag} {h : Heap} {mg : Str → Option Value} (X : K.In h) (G : h.Ns mainGlobals mg) (c : He.SaysD fa fn K) : Df K mg "_law_names" s__law_names := by
  obtain ⟨fd, F⟩ := c.def_ 35 (d := d__law_names) rfl
  exact ⟨_, fd, F, He.glo_ok X G (c.fact 35 (f := .glo "_law_names") rfl)⟩
theorem df__law_row {K : PySem.W.Frag} {h : Heap} {mg : Str → Option Value} (X : K.In h) (G : h.Ns mainGlobals mg) (c : He.SaysD fa fn K) : Df K mg "_law_row" s__law_row := by
  obtain ⟨fd, F⟩ := c.def_ 36 (d := d__law_row) rfl
  exact ⟨_, fd, F, He.glo_ok X G (c.fact 36 (f := .glo "_law_row") rfl)⟩
theorem df__law_is_kept {K : PySem.W.Frag} {h : Heap} {mg : Str → Option Value} (X : K.In h) (G : h.Ns mainGlobals mg) (c : He.SaysD fa fn K) : Df K mg "_law_is_kept" s__law_is_kept := by
  obtain ⟨fd, F⟩ := c.def_ 37 (d := d__law_is_kept) rfl
  exact ⟨_, fd, F, He.glo_ok X G (c.fact 37 (f := .glo "_law_is_kept") rfl)⟩
theorem df__law_weight {K : PySem.W.Frag} {h : Heap} {mg : Str → Option Value} (X : K.In h) (G : h.Ns mainGlobals mg) (c : He.SaysD fa fn K) : Df K mg "_law_weight" s__law_weight := by
  obtain ⟨fd, F⟩ := c.def_ 38 (d := d__law_weight) rfl
  exact ⟨_, fd, F, He.glo_ok X G (c.fact 38 (f := .glo "_law_weight") rfl)⟩
theorem df__law_fresh {K : PySem.W.Frag} {h : Heap} {mg : Str → Option Value} (X : K.In h) (G : h.Ns mainGlobals mg) (c : He.SaysD fa fn K) : Df K mg "_law_fresh" s__law_fresh := by
  obtain ⟨fd, F⟩ := c.def_ 39 (d := d__law_fresh) rfl
  exact ⟨_, fd, F, He.glo_ok X G (c.fact 39 (f := .glo "_law_fresh") rfl)⟩
theorem df__law_is_grown {K : PySem.W.Frag} {h : Heap} {mg : Str → Option Value} (X : K.In h) (G : h.Ns mainGlobals mg) (c : He.SaysD fa fn K) : Df K mg "_law_is_grown" s__law_is_grown := by
  obtain ⟨fd, F⟩ := c.def_ 40 (d := d__law_is_grown) rfl
  exact ⟨_, fd, F, He.glo_ok X G (c.fact 40 (f := .glo "_law_is_grown") rfl)⟩
theorem df__law_right {K : PySem.W.Frag} {h : Heap} {mg : Str → Option Value} (X : K.In h) (G : h.Ns mainGlobals mg) (c : He.SaysD fa fn K) : Df K mg "_law_right" s__law_right := by
  obtain ⟨fd, F⟩ := c.def_ 41 (d := d__law_right) rfl
  exact ⟨_, fd, F, He.glo_ok X G (c.fact 41 (f := .glo "_law_right") rfl)⟩
theorem md___init__ {K : PySem.W.Frag} (c : He.SaysD fa fn K) : Mki K (He.ga K "Book") "Book.__init__" m___init__ := by
  obtain ⟨fd, F⟩ := c.def_ 43 (d := e___init__) rfl
  exact ⟨_, fd, F, He.mkr_ok (c.fact 71 (f := .mkr "Book") rfl)⟩
theorem md__be_new {K : PySem.W.Frag} (c : He.SaysD fa fn K) : Md K (He.ga K "Book") "_be_new" "Book._be_new" m__be_new := by
  obtain ⟨fd, F⟩ := c.def_ 44 (d := e__be_new) rfl
  exact ⟨_, fd, F, He.meth_ok (c.fact 72 (f := .meth "Book" "_be_new") rfl)⟩
theorem md__be_there {K : PySem.W.Frag} (c : He.SaysD fa fn K) : Md K (He.ga K "Book") "_be_there" "Book._be_there" m__be_there := by
  obtain ⟨fd, F⟩ := c.def_ 45 (d := e__be_there) rfl
  exact ⟨_, fd, F, He.meth_ok (c.fact 73 (f := .meth "Book" "_be_there") rfl)⟩
theorem md__lead {K : PySem.W.Frag} (c : He.SaysD fa fn K) : Md K (He.ga K "Book") "_lead" "Book._lead" m__lead := by
  obtain ⟨fd, F⟩ := c.def_ 46 (d := e__lead) rfl
  exact ⟨_, fd, F, He.meth_ok (c.fact 74 (f := .meth "Book" "_lead") rfl)⟩
theorem md_put {K : PySem.W.Frag} (c : He.SaysD fa fn K) : Md K (He.ga K "Book") "put" "Book.put" m_put := by
  obtain ⟨fd, F⟩ := c.def_ 47 (d := e_put) rfl
  exact ⟨_, fd, F, He.meth_ok (c.fact 75 (f := .meth "Book" "put") rfl)⟩
theorem md_more {K : PySem.W.Frag} (c : He.SaysD fa fn K) : Md K (He.ga K "Book") "more" "Book.more" m_more := by
  obtain ⟨fd, F⟩ := c.def_ 48 (d := e_more) rfl
  exact ⟨_, fd, F, He.meth_ok (c.fact 76 (f := .meth "Book" "more") rfl)⟩
theorem md_strike {K : PySem.W.Frag} (c : He.SaysD fa fn K) : Md K (He.ga K "Book") "strike" "Book.strike" m_strike := by
  obtain ⟨fd, F⟩ := c.def_ 49 (d := e_strike) rfl
  exact ⟨_, fd, F, He.meth_ok (c.fact 77 (f := .meth "Book" "strike") rfl)⟩
theorem md_join {K : PySem.W.Frag} (c : He.SaysD fa fn K) : Md K (He.ga K "Book") "join" "Book.join" m_join := by
  obtain ⟨fd, F⟩ := c.def_ 50 (d := e_join) rfl
  exact ⟨_, fd, F, He.meth_ok (c.fact 78 (f := .meth "Book" "join") rfl)⟩
theorem md_cross {K : PySem.W.Frag} (c : He.SaysD fa fn K) : Md K (He.ga K "Book") "cross" "Book.cross" m_cross := by
  obtain ⟨fd, F⟩ := c.def_ 51 (d := e_cross) rfl
  exact ⟨_, fd, F, He.meth_ok (c.fact 79 (f := .meth "Book" "cross") rfl)⟩
theorem md_undo {K : PySem.W.Frag} (c : He.SaysD fa fn K) : Md K (He.ga K "Book") "undo" "Book.undo" m_undo := by
  obtain ⟨fd, F⟩ := c.def_ 52 (d := e_undo) rfl
  exact ⟨_, fd, F, He.meth_ok (c.fact 80 (f := .meth "Book" "undo") rfl)⟩
theorem md_row {K : PySem.W.Frag} (c : He.SaysD fa fn K) : Md K (He.ga K "Book") "row" "Book.row" m_row := by
  obtain ⟨fd, F⟩ := c.def_ 53 (d := e_row) rfl
  exact ⟨_, fd, F, He.meth_ok (c.fact 81 (f := .meth "Book" "row") rfl)⟩
theorem md_kept {K : PySem.W.Frag} (c : He.SaysD fa fn K) : Md K (He.ga K "Book") "kept" "Book.kept" m_kept := by
  obtain ⟨fd, F⟩ := c.def_ 54 (d := e_kept) rfl
  exact ⟨_, fd, F, He.meth_ok (c.fact 82 (f := .meth "Book" "kept") rfl)⟩
theorem md_twin {K : PySem.W.Frag} (c : He.SaysD fa fn K) : Md K (He.ga K "Book") "twin" "Book.twin" m_twin := by
  obtain ⟨fd, F⟩ := c.def_ 55 (d := e_twin) rfl
  exact ⟨_, fd, F, He.meth_ok (c.fact 83 (f := .meth "Book" "twin") rfl)⟩
theorem facts {P : Program} {w : World} {K : PySem.W.Frag} {h : Heap} {mg : Str → Option Value} {f : Addr} (X : K.In h) (G : h.Ns mainGlobals mg) (hfa : mg ("law" : Str) = some (.ref f)) (c : He.SaysD fa fn K) :
    ∃ fd : FuncData, (∀ (s : Shared) (v : Value), BindsTo s fd ⟨[v], []⟩ [("_law_script", v)]) ∧ ∀ base : Heap, K.In base → base.Ns mainGlobals mg → FnG P w K mg base 8 f fd ["_law_script"] (spLaw K) := by
  obtain ⟨fd, F⟩ := c.def_ 42 (d := d_law) rfl
  have e := hfa.symm.trans (He.glo_ok X G (c.fact 42 (f := .glo "law") rfl))
  cases e
  have b := FunD.bindsA (ps := ["_law_script"]) F fun _ _ _ _ _ _ us hl => match us, hl with | [_], _ => rfl
  have T := free_of X G c
  have B := book_of X G c
  refine ⟨fd, fun s v => b s [v] rfl, fun base _ _ => ?_⟩
  have is_whole := ok_is_whole (P := P) (w := w) (base := base) (df_is_whole X G c) T
  have is_pair := ok_is_pair (P := P) (w := w) (base := base) (df_is_pair X G c) T
  have power_of := ok_power_of (P := P) (w := w) (base := base) (df_power_of X G c) T
  have few := ok_few (P := P) (w := w) (base := base) (df_few_pairs X G c) T
  have sums := ok_sums (P := P) (w := w) (base := base) (df_row_of_sums X G c) T
  have lpacked := ok_lpacked (P := P) (w := w) (base := base) (df__law_packed X G c) T
  have mirror := ok_mirror (P := P) (w := w) (base := base) (df_row_mirror X G c) T
  have lmirror := ok_lmirror (P := P) (w := w) (base := base) (df__law_mirror X G c) T
  have product := ok_product (P := P) (w := w) (base := base) (df_row_product X G c) T sums
  have ltimes := ok_ltimes (P := P) (w := w) (base := base) (df__law_times X G c) T lpacked
  have diff := ok_diff (P := P) (w := w) (base := base) (df_differences_by X G c) product mirror
  have lgaps := ok_lgaps (P := P) (w := w) (base := base) (df__law_gaps X G c) ltimes lmirror
  have plus := ok_plus (P := P) (w := w) (base := base) (df_row_plus X G c) T sums
  have withw := ok_with (P := P) (w := w) (base := base) (df_with_weight X G c) plus
  have lplus := ok_lplus (P := P) (w := w) (base := base) (df__law_plus X G c) T lpacked
  have wrong := ok_wrong (P := P) (w := w) (base := base) (df_wrong_in_row X G c) T is_pair is_whole
  have check := ok_check (P := P) (w := w) (base := base) (df_check_row X G c) wrong
  have check2 := ok_check2 (P := P) (w := w) (base := base) (df_check_both X G c) check
  have ckw := ok_ckw (P := P) (w := w) (base := base) (df_check_whole X G c) is_whole
  have isname := ok_isname (P := P) (w := w) (base := base) (df_is_name_by X G c) T
  have ckn := ok_ckn (P := P) (w := w) (base := base) (df_check_name X G c) isname
  have ckns := ok_ckns (P := P) (w := w) (base := base) (df_check_names X G c) ckn
  have brow := ok_brow (P := P) (w := w) (base := base) (df_book_row X G c)
  have bput := ok_bput (P := P) (w := w) (base := base) (df_book_put X G c)
  have bmore := ok_bmore (P := P) (w := w) (base := base) (df_book_more X G c) T plus
  have bstrike := ok_bstrike (P := P) (w := w) (base := base) (df_book_strike X G c) T
  have bjoin := ok_bjoin (P := P) (w := w) (base := base) (df_book_join X G c) bput product brow
  have bcross := ok_bcross (P := P) (w := w) (base := base) (df_book_cross X G c) bput product brow mirror
  have great := ok_great (P := P) (w := w) (base := base) (df_is_great X G c) T power_of
  have full := ok_full (P := P) (w := w) (base := base) (df_is_full X G c) T great
  have init := ok_init (P := P) (w := w) (base := base) (md___init__ c) B
  have bnew := ok_new (P := P) (w := w) (base := base) (md__be_new c) B brow
  have there := ok_there (P := P) (w := w) (base := base) (md__be_there c) B T brow
  have lead := ok_lead (P := P) (w := w) (base := base) (md__lead c) B full
  have mput := ok_put (P := P) (w := w) (base := base) (md_put c) B ckn check bnew lead bput
  have mmore := ok_more (P := P) (w := w) (base := base) (md_more c) B ckn ckw there lead bmore
  have mstrike := ok_strike (P := P) (w := w) (base := base) (md_strike c) B ckn there lead bstrike
  have mjoin := ok_join (P := P) (w := w) (base := base) (md_join c) B ckns bnew there lead bjoin
  have mcross := ok_cross (P := P) (w := w) (base := base) (md_cross c) B ckns bnew there lead bcross
  have mundo := ok_undo (P := P) (w := w) (base := base) (md_undo c) B
  have mrow := ok_row (P := P) (w := w) (base := base) (md_row c) B ckn there brow
  have mkept := ok_kept (P := P) (w := w) (base := base) (md_kept c) B diff mrow
  have mtwin := ok_twin (P := P) (w := w) (base := base) (md_twin c) B T init
  have diffs := ok_diffs (P := P) (w := w) (base := base) (df_differences X G c) check few diff
  have grown := ok_grown (P := P) (w := w) (base := base) (df_grown X G c) check2 ckw diff few withw
  have draw := ok_draw (P := P) (w := w) (base := base) (df__law_draw X G c) T
  have pick := ok_pick (P := P) (w := w) (base := base) (df__law_pick X G c) T draw
  have lrow := ok_lrow (P := P) (w := w) (base := base) (df__law_row X G c) T pick draw lpacked
  have lwt := ok_lwt (P := P) (w := w) (base := base) (df__law_weight X G c) T pick draw
  have names := ok_names (P := P) (w := w) (base := base) (df__law_names X G c) T pick draw
  have isk := ok_isk (P := P) (w := w) (base := base) (df__law_is_kept X G c) T B mkept lgaps
  have isg := ok_isg (P := P) (w := w) (base := base) (df__law_is_grown X G c) T B mkept lgaps mmore lplus grown
  have fresh := ok_fresh (P := P) (w := w) (base := base) (df__law_fresh X G c) T B pick draw ltimes lmirror mjoin mcross lrow mput
  have right := ok_right (P := P) (w := w) (base := base) (df__law_right X G c) T B names init draw mtwin pick mundo fresh mstrike lwt isg lplus isk diffs lgaps
  have lpot := ok_lpot (P := P) (w := w) (base := base) (df__law_pot X G c) T
  exact ok_law F T lpot right
end Sg
open PySem PySem.W PySem.Calls PyProof.Rows in
set_option maxHeartbeats 0 in
theorem PySem.Challenge.cw_samegaps_k84_whole_kept_differences_holds : PySem.Challenge.rw_samegaps_k84_whole_kept_differences.Holds := by
  w_on; o_law
  refine HandSHeadRun.head_any (r := OpenLaw.row PySem.Challenge.rw_samegaps_k84_whole_kept_differences) (q := view (OpenLaw.row PySem.Challenge.rw_samegaps_k84_whole_kept_differences).prog [66]) (H := Sg.hk) (ob := Sg.ob) (M := 20000) (loose := Sg.loose) (d := HandSHeadRun.topDef (OpenLaw.row PySem.Challenge.rw_samegaps_k84_whole_kept_differences).prog 66) (kwd := []) Sg.ob_eq
    (by kernel_rfl) (fun s => by kernel_rfl) Sg.run (by kernel_rfl) (by kernel_rfl) (by kernel_rfl) (by rfl) (by first | assumption | decide +kernel) (by decide +kernel) ⟨rfl, rfl, rfl, rfl, rfl, by decide +kernel⟩ ?hw ?hc
  case hw => w_witness2
  case hc =>
    refine Sg.walk_G (l := PySem.Challenge.rw_samegaps_k84_whole_kept_differences) (n := 63) (k := 8) (x := "_law_script") rfl (by decide) (by kernel_rfl) ⟨rfl, by decide, by decide⟩ ?F
    intro w mg fa h Y G hmg0
    obtain ⟨K, KX, c⟩ := Y
    have hmg : mg ("law" : PySem.Str) = some (.ref fa) := by
      have e : (HandSHeadRun.topDef (OpenLaw.row PySem.Challenge.rw_samegaps_k84_whole_kept_differences).prog 66).name = ("law" : PySem.Str) := by kernel_rfl
      rw [← e]
      exact hmg0
    obtain ⟨fd, hb, hF⟩ := Sg.facts (P := (PySem.Challenge.rw_samegaps_k84_whole_kept_differences).prog) (w := w) KX G hmg c
    exact ⟨K, fd, Sg.spLaw K, KX, hb, fun H a ns hl hS => ⟨a, ns, rfl, hS, hl, fun _ => rfl⟩, hF⟩
