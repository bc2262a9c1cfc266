import PyProof.Rows.All
import Wide.All
import OpenK.AllK
import Wide.FinOn
import HandS.Dict
import PyProof.Rows.SetFrom
import HandS.Base
import HandS.Call
import HandS.Exc
import HandS.Comp
import HandS.Wide
import HandS.ForMost
import HandS.TupAny
import HandS.IsInst
import HandS.Conv
import KE.SortData
import HandS.ForExc
import HandS.CallSlots
import HandS.Zip
import HandS.Words
import HandS.Defaults
import HandS.Iter
import HandS.Style
import HandS.Flow
import HandS.List
import HandS.Ends
import HandS.EndBits
import HandS.RaiseMore
import HandS.More
import HandS.Strs
import HandS.Head0
import HandS.Head1
import HandS.Head2
import HandS.HeadEnd
import HandS.HeadHook1
import HandS.HeadHook2
import HandS.ExcInit
import HandS.ExcField
import HandS.ExcIs
import OpenK.KCls
import HandS.DictComp
import HandS.SetKeys
import KE.GoesMore
import PyProof.EnumMake
import HandS.SetFor
import HandS.HotCalls
import HandS.MakeKw
import KE.KEqDict
import HandS.Set
import HandS.SetBool
import PyProof.SumWalk
import PyProof.ListOps
import HandS.TupLe
import HandS.HeadHook3
import HandS.HeadHook4
import HandS.MakeKwOnly
import KE.KDictZip
import KE.KItemsList
import HandS.ListItems
import KE.SortKeyHeap
import HandS.Lambda
import HandS.TupLen
import KE.KDictPairs
import KE.KDictKeyed
import KE.KEqNest
import PyProof.Rows.CountFlat
import HandS.TupSets
import HandS.Deep
import HandS.EndTab
import HandS.TupMul
import PySem.Challenge.RW_claimfield_k01_whole_trees_and_paths
set_option Elab.async false
set_option linter.all false
section
set_option maxRecDepth 100000
set_option maxHeartbeats 3200000
namespace CF
open PySem PySem.Spec PyProof.Rows L2
section
variable {prog : Program} {w : World} {A : Around} {E : Value → Shared → Prop}
theorem tup_nokeys : typeLookup (.type "tuple") "keys" = pure none := am_miss_of_fast (by first | decide +kernel | rfl)
theorem miss_tup {s : Shared} {a : Addr} {o : Obj} {xs : Array Value} {k : Nat} {Q : Option Value → Shared → Prop} (hx : s.heap.get? a = some o) (hc : o.cls = .type "tuple") (hdat : o.data = .seq xs k) (hd : o.dict = none) (hA : A.handled = none)
    (h : ∀ h' tk, (∀ b ob, s.heap.get? b = some ob → h'.get? b = some ob) → Q none { s with heap := h', toks := tk }) : wpAny (model prog w) A (getAttr? (.ref a) "keys") Q E s := by
  obtain ⟨c, dct, dat, sl⟩ := o
  simp only at hc hdat hd
  subst hc hdat hd
  obtain ⟨hp, g, d, tk, os⟩ := s
  have hT : ∀ tk', (⟨hp, g, d, tk', os⟩ : Shared).TypeIs (.ref a) "tuple" := fun _ => ⟨_, hx, rfl⟩
  have m0 := tup_nokeys
  have nm : (["__module__", "__name__", "__qualname__", "__doc__", "__annotations__"] : List Str).contains "keys" = false := by decide +kernel
  have sz : ("keys" : Str).length + 100 ≤ sizeLine := by first | size_fits | decide +kernel
  have f1 := sub_AttributeError
  have f3 := PySem.F.slot_tuple_getattribute.lookup
  have f4 := PySem.F.slot_tuple_getattribute.bind (.ref a)
  have f5 : typeLookup (.type "tuple") "__getattr__" = pure none := am_miss_of_fast (by first | decide +kernel | rfl)
  unfold getAttr? getAttrBy? getAttrBy
  repeat (any_goals (first | assumption | exact hT _ | ((with_reducible show wpAny _ _ (call (Value.builtin "tuple.__getattribute__") _ _) _ _ _); refine call_meets PySem.F.slot_tuple_getattribute (hT _) am_entry_tuple_getattribute (PySem.F.args_tuple_getattribute_2 _ _) (meets_getattribute_miss_tuple a xs k sl "keys" _ m0 nm sz) ⟨hx, hA, fun h' tk' e hx' => ?_⟩) | wp_step))
  obtain ⟨t', u', he⟩ := hx'.there
  show wpAny _ _ (getattributeRaised _ _ _ _ _ _ _) _ _ _
  unfold getattributeRaised
  repeat (any_goals (first | assumption | wp_step))
  all_goals first | exact h _ _ hx'.keeps | (dsimp only; repeat (any_goals (first | assumption | exact h _ _ hx'.keeps | wp_step)))
theorem pairs_loop {R : Result → Shared → Prop} {S I l : Addr} {items : Array Value} {res : Value} (hh : A.handled = none) (lI : l ≠ I) (sI : S ≠ I) (sl : S ≠ l) :
    ∀ (todo : List (Key × Value)) (i : Nat) (got : List (Key × Value)) (ix : Int) (t : Tok) (s : Shared), items.size = i + todo.length → got.length + todo.length ≤ sizeLine →
      (∀ (j : Nat) (q : Key × Value), todo[j]? = some q → ∃ (b : Addr) (u : Value), items[i + j]? = some (.ref b) ∧ b ≠ S ∧ b ≠ I ∧ IsTup s.heap b #[u, q.2] ∧ keyIs q.1 u = true) →
      s.heap.IsTupleIter I l i → s.heap.IsTuple l items → s.heap.DictOf (mixKind prog w) S got →
      (∀ h' tk, h'.DictOf (mixKind prog w) S (merged got todo) → (∀ b o, b ≠ S → b ≠ I → s.heap.get? b = some o → h'.get? b = some o) → R (.ok (.ret res)) { s with heap := h', toks := tk }) →
      codeAny (model prog w) A (.builtin "dict.update.loop" ⟨[.ref S, .ref I, .int ix t, res], []⟩) R s
  | [], i, got, ix, t, s, sz, ln, ht, hit, hl, hm, hR => by
    refine codeAny_builtin ud_entry ?_
    rw [Around.under_plainId ud_plain _]
    show wpAny _ A.in1 (pyNext (.ref I) >>= _) _ _ s
    refine wpAny_bind (wpAny_pyNext_tuple_end (A := A.in1) hh hit hl (by first | exact Array.getElem?_eq_none (Nat.le_of_eq sz) | (simp at sz; simp; omega)) fun h' he => ?_)
    show wpAny _ A.in1 (Builtin.Dict.addKeywords S [] >>= _) _ _ _
    exact wpAny_bind (wpAny_pure (wpAny_pure (hR h' s.toks (hm.extBut he sI) fun b o _ hb e => he b o hb e)))
  | q :: todo, i, got, ix, t, s, sz, ln, ht, hit, hl, hm, hR => by
    obtain ⟨b, u, hb, bS, bI, tup, hk⟩ := ht 0 q rfl
    rw [List.length_cons] at sz ln
    refine codeAny_builtin ud_entry ?_
    rw [Around.under_plainId ud_plain _]
    show wpAny _ A.in1 (pyNext (.ref I) >>= _) _ _ s
    refine wpAny_bind (wpAny_pyNext_tuple_item (x := .ref b) hit hl (by simpa using hb) fun h1 it1 same1 => ?_)
    have tup1 : IsTup h1 b #[u, q.2] := tup.extBut same1.extBut bI
    have l1 : h1.IsTuple l items := hl.extBut same1.extBut lI
    have m1 : h1.DictOf (mixKind prog w) S got := hm.extBut same1.extBut sI
    obtain ⟨o, ho, hc, n, hd⟩ := id tup1
    show wpAny _ A.in1 (holding [Value.ref b] _ >>= _) _ _ _
    refine wpAny_bind (wpAny_holding (wpAny_bind (wpAny_tryCatch ?_)))
    unfold Builtin.Dict.pairItems
    refine wpAny_bind (wpAny_typeOf (T := "tuple") ⟨o, ho, hc⟩ ?_)
    rw [if_pos (by first | decide | rfl | simp)]
    refine wpAny_bind (wpAny_seqItems ho hd (wpAny_pure ?_))
    show wpAny _ A.in1 (holding [u, q.2] (dictSet S u q.2)) _ _ _
    refine wpAny_holding (wpAny_dictSet_pairs (knd := mixKind prog w) (k := q.1) hk m1 (fun h2 m2 same2 => ?_) (by omega))
    refine wpAny_pure ⟨plainId_quiet ud_plain _, pairs_loop (items := items) hh lI sI sl todo (i + 1) (stored got q.1 q.2) (ix + 1) 0 _ (show items.size = i + 1 + todo.length by omega) ?_ (fun j q' e => ?_) ?_ ?_ m2 fun h' tk hd' k => ?_⟩
    · have z := stored_length_le got q.1 q.2
      omega
    · obtain ⟨b', u', x1, x2, x3, x4, x5⟩ := ht (j + 1) q' (by simpa using e)
      exact ⟨b', u', by rw [show i + 1 + j = i + (j + 1) by omega]; exact x1, x2, x3, (x4.extBut same1.extBut x3).extBut same2.extBut x2, x5⟩
    · exact it1.extBut same2.extBut (Ne.symm sI)
    · exact l1.extBut same2.extBut (Ne.symm sl)
    · exact hR h' tk hd' fun c oc h3 h4 e => k c oc h3 h4 (same2.extBut c oc h3 (same1.extBut c oc h4 e))
theorem dict_of_tup {s : Shared} {l : Addr} {ol : Obj} {items : Array Value} {n : Nat} {prs : List (Key × Value)} {Q : Value → Shared → Prop} (hh : A.handled = none) (hl : s.heap.get? l = some ol) (hc : ol.cls = .type "tuple") (hd : ol.dict = none)
    (hdat : ol.data = .seq items n) (hsz : items.size = prs.length) (hln : prs.length ≤ sizeLine)
    (ht : ∀ (j : Nat) (q : Key × Value), prs[j]? = some q → ∃ (b : Addr) (u : Value), items[j]? = some (.ref b) ∧ IsTup s.heap b #[u, q.2] ∧ keyIs q.1 u = true)
    (h : ∀ h' tk, h'.DictOf (mixKind prog w) s.heap.objs.size (merged [] prs) → (∀ b o, s.heap.get? b = some o → h'.get? b = some o) → Q (.ref s.heap.objs.size) { s with heap := h', toks := tk }) :
    wpAny (model prog w) A (call (.type "dict") [.ref l]) Q E s := by
  refine callType_codes (Q₁ := fun obj s₁ => obj = .ref s.heap.objs.size ∧ s₁ = { s with heap := s.heap.push { cls := .type "dict", data := .dict #[] } }) PySem.F.kt_called_dict (PySem.F.kt_typeCall_dict_1 _) PySem.F.entry_dict_init (kt_code_dict_new _ ⟨rfl, rfl⟩) ?_
  rintro obj s₁ ⟨rfl, rfl⟩
  have new0 : (s.heap.push { cls := .type "dict", data := .dict #[] }).DictOf (mixKind prog w) s.heap.objs.size [] := Heap.DictOf.new s.heap
  have k0 : ∀ b o, s.heap.get? b = some o → (s.heap.push { cls := .type "dict", data := .dict #[] }).get? b = some o := fun b o e => Heap.get?_push_of_some _ e
  refine ⟨new0.typeIs, PySem.F.args_dict_init_2 _ _, ?_⟩
  unfold Builtin.«dict.__init__»
  refine wpAny_bind ?_
  unfold Builtin.Dict.selfAndRest
  refine wpAny_bind (wpAny_notOrdered_dict new0.typeIs ?_)
  show wpAny _ _ (pure (s.heap.objs.size, [Value.ref l])) _ _ _
  refine wpAny_pure ?_
  show wpAny _ _ (Builtin.Dict.updateFrom "dict.__init__" s.heap.objs.size (.ref l) [] .none) _ _ _
  unfold Builtin.Dict.updateFrom
  refine wpAny_bind (wpAny_typeOf (T := "tuple") ⟨ol, k0 _ _ hl, hc⟩ ?_)
  rw [if_pos (by first | decide | rfl | simp)]
  refine wpAny_bind (miss_tup (k0 _ _ hl) hc hdat hd hh fun h1 tk1 hk1 => ?_)
  rw [if_pos (show (none : Option Value).isNone = true from rfl)]
  refine wpAny_bind (wpAny_rule ?_)
  have l1 : h1.IsTuple l items := ⟨ol, hk1 _ _ (k0 _ _ hl), hc, n, hdat⟩
  have S1 : s.heap.objs.size < h1.objs.size := Heap.lt_size (hk1 _ _ (Heap.get?_push_size s.heap (o := { cls := .type "dict", data := .dict #[] }) rfl))
  refine wpAny_bind (wpAny_pyIter_tuple l1 ?_)
  have k2 : ∀ b o, h1.get? b = some o → (h1.push { cls := .type "tuple_iterator", data := .fields #[.ref l, .int 0 0] }).get? b = some o := fun b o e => Heap.get?_push_of_some _ e
  have lt : l < s.heap.objs.size := Heap.lt_size hl
  have key := pairs_loop (prog := prog) (w := w) (A := A.in1) (R := wants (fun r s₂ => r = .none ∧ Q (.ref s.heap.objs.size) s₂) E) (S := s.heap.objs.size) (I := h1.objs.size) (l := l) (items := items) (res := Value.none) hh
    (Nat.ne_of_lt (Nat.lt_trans lt S1)) (Nat.ne_of_lt S1) (Nat.ne_of_gt lt) prs 0 [] 0 0
    { s with heap := h1.push { cls := .type "tuple_iterator", data := .fields #[.ref l, .int 0 0] }, toks := tk1 } (by rw [hsz, Nat.zero_add]) (by rw [List.length_nil, Nat.zero_add]; exact hln)
    (fun j q e => by
      obtain ⟨b, u, e1, e2, e3⟩ := ht j q e
      have hb : b < s.heap.objs.size := e2.lt
      exact ⟨b, u, by rw [Nat.zero_add]; exact e1, Nat.ne_of_lt hb, Nat.ne_of_lt (Nat.lt_trans hb S1), e2.keeps fun c o z => k2 _ _ (hk1 _ _ (k0 _ _ z)), e3⟩)
    ⟨_, Heap.get?_push_size _ rfl, rfl, rfl⟩ ⟨ol, k2 _ _ (hk1 _ _ (k0 _ _ hl)), hc, n, hdat⟩ ((new0.at fun o e => hk1 _ _ e).at fun o e => k2 _ _ e)
    (fun h' tk hd' k => ⟨rfl, h h' tk hd' fun b o e => k b o (Nat.ne_of_lt (Heap.lt_size e)) (Nat.ne_of_lt (Nat.lt_trans (Heap.lt_size e) S1)) (k2 _ _ (hk1 _ _ (k0 _ _ e)))⟩)
  first
    | exact wpAny_pure ⟨plainId_quiet ud_plain _, key⟩
    | exact wpAny_bind (wpAny_pure (wpAny_pure ⟨plainId_quiet ud_plain _, key⟩))
end
end CF
namespace CF
open PySem PySem.Spec PyProof.Rows
def met (xs : List Str) : List Str := xs.foldl step_dedup []
theorem met_snoc (xs : List Str) (x : Str) : met (xs ++ [x]) = step_dedup (met xs) x := by unfold met; rw [List.foldl_append]; rfl
theorem dedup_len (σ : List Str) (v : Str) : (step_dedup σ v).length = if σ.any (· == v) then σ.length else σ.length + 1 := by
  unfold step_dedup; split <;> simp
theorem dedup_any (σ : List Str) (v k : Str) : (step_dedup σ v).any (· == k) = (σ.any (· == k) || decide (k = v)) := by
  unfold step_dedup
  by_cases h : σ.any (· == v) = true
  · rw [if_pos h]
    by_cases e : k = v
    · subst e; rw [h]; simp
    · simp [e]
  · rw [if_neg h, List.any_append]
    by_cases e : k = v
    · subst e; simp
    · have hb : (v == k) = false := by
        cases z : v == k with
        | false => rfl
        | true => exact absurd (eq_of_beq z).symm e
      simp [hb, e]
theorem met_le (xs : List Str) (i : Nat) : (met (xs.take i)).length ≤ i := by
  induction i with
  | zero => simp [met]
  | succ i ih =>
    by_cases h : i < xs.length
    · rw [List.take_add_one, List.getElem?_eq_getElem h]
      show (met (xs.take i ++ [xs[i]])).length ≤ _
      rw [met_snoc, dedup_len]
      split <;> omega
    · rw [List.take_of_length_le (by omega)]
      rw [List.take_of_length_le (by omega)] at ih
      omega
section
variable {prog : Program} {w : World} {A : Around} {R : Result → Shared → Prop} {I : Addr} {fp wr : List Addr} {G : Array GenState → Array GenState → Prop} {n : Nat} {P : Nat → Value → Prop} {St : Nat → Shared → Prop}
theorem set_loop_strs (W : WalksS prog w A.in1 I fp wr G n P St) (S : Addr) (hSf : S ∉ fp) (xs : List Str) (hx : xs.length = n) (hval : ∀ i v, P i v → ∃ x t, xs[i]? = some x ∧ v = .str x t) (hb : n + 1 < scanBound) :
    ∀ (k i : Nat) (s : Shared), n - i = k → i ≤ n → St i s → s.heap.SetOf (strKind prog w) S (fun k' => (met (xs.take i)).any (· == k')) (met (xs.take i)).length →
      (∀ s', Moved (S :: wr) G s s' → s'.heap.SetOf (strKind prog w) S (fun k' => (met xs).any (· == k')) (met xs).length → R (.ok (.ret .none)) s') →
      codeAny (model prog w) A (.builtin "set.update.loop" ⟨[.ref S, .ref I], []⟩) R s := by
  have hSw : S ∉ wr := fun h => hSf (W.sub _ h)
  have more : ∀ b ∈ wr, b ∈ S :: wr := fun b hb => List.mem_cons_of_mem _ hb
  intro k
  induction k with
  | zero =>
    intro i s hk hi hst hS hR
    obtain rfl : i = n := by omega
    refine codeAny_builtin F.entry_set_update_loop ?_
    rw [Around.under_plainId F.plain_set_update_loop _]
    show wpAny _ A.in1 (pyNext (.ref I) >>= _) _ _ s
    refine wpAny_bind (W.done s _ _ hst fun s' hm => ?_)
    show wpAny _ A.in1 (ret Value.none) _ _ s'
    refine wpAny_pure (hR s' (hm.mono more) ?_)
    rw [List.take_of_length_le (by omega)] at hS
    obtain ⟨o, es, ep, t, ho, rest⟩ := hS
    exact ⟨o, es, ep, t, hm.heap S _ hSw ho, rest⟩
  | succ k ih =>
    intro i s hk hi hst hS hR
    have lt : i < n := by omega
    refine codeAny_builtin F.entry_set_update_loop ?_
    rw [Around.under_plainId F.plain_set_update_loop _]
    show wpAny _ A.in1 (pyNext (.ref I) >>= _) _ _ s
    refine wpAny_bind (W.item i s _ _ lt hst fun v s' hP hst' hm => ?_)
    obtain ⟨x, t, ex, rfl⟩ := hval i v hP
    have hS' : s'.heap.SetOf (strKind prog w) S (fun k' => (met (xs.take i)).any (· == k')) (met (xs.take i)).length := by
      obtain ⟨o, es, ep, tb, ho, rest⟩ := hS
      exact ⟨o, es, ep, tb, hm.heap S _ hSw ho, rest⟩
    show wpAny _ A.in1 (holding [Value.str x t] (setAdd S (.str x t)) >>= _) _ _ s'
    refine wpAny_bind (wpAny_holding ?_)
    unfold setAdd
    refine wpAny_holding (wpAny_bind ((strKind prog w).pyHash (k := x) (strKind_is _ _ _ _) ?_))
    have room : (met (xs.take i)).length + 1 < scanBound := by have := met_le xs i; omega
    refine wpAny_setAddHashed_of (knd := strKind prog w) (s := { s' with toks := s'.toks + 1 }) (strKind_is _ _ _ _) rfl hS' room fun h' same hS2 => ?_
    have tk : met (xs.take (i + 1)) = step_dedup (met (xs.take i)) x := by
      rw [List.take_add_one, ex]
      exact met_snoc _ _
    have hSi : h'.SetOf (strKind prog w) S (fun k' => (met (xs.take (i + 1))).any (· == k')) (met (xs.take (i + 1))).length :=
      SetOf_congr hS2 (fun k' => by rw [tk, dedup_any]) (by rw [tk, dedup_len])
    refine wpAny_pure ⟨plainId_quiet F.plain_set_update_loop _, ih (i + 1) _ (by omega) lt (W.frame _ s' _ _ hst' (Nat.le_succ _) fun b hb o e => ?_) hSi fun s'' hm'' hS'' => ?_⟩
    · rw [same.2 b (fun h : b = S => hSf (by rw [← h]; exact hb))]; exact e
    · refine hR s'' (Moved.trans W.gtrans ((hm.mono more).then_heap (Nat.le_succ _) fun b o hb e => ?_) hm'') hS''
      rw [same.2 b (fun h : b = S => hb (by rw [h]; exact List.mem_cons_self))]; exact e
end
section
variable {prog : Program} {w : World} {A : Around} {E : Value → Shared → Prop} {s : Shared}
theorem strs_get : ∀ {vs : List Value} {xs : List Str}, StrsAre vs xs → ∀ (i : Nat) (v : Value), vs[i]? = some v → ∃ x t, xs[i]? = some x ∧ v = .str x t
  | _, _, .nil, i, v, h => by simp at h
  | _, _, .cons x t r, 0, v, h => by simp at h; exact ⟨x, t, rfl, h.symm⟩
  | _, _, .cons x t r, i + 1, v, h => by simpa using strs_get r i v (by simpa using h)
theorem strs_len : ∀ {vs : List Value} {xs : List Str}, StrsAre vs xs → vs.length = xs.length
  | _, _, .nil => rfl
  | _, _, .cons _ _ r => congrArg (· + 1) (strs_len r)
theorem set_of_strs {l : Addr} {items : Array Value} {xs : List Str} {Q : Value → Shared → Prop} (hh : A.handled = none) (hl : s.heap.IsList l items) (hi : StrsAre items.toList xs) (hb : items.size + 1 < scanBound)
    (h : ∀ (h' : Heap) (tk : Nat), h'.SetOf (strKind prog w) s.heap.objs.size (fun k' => (met xs).any (· == k')) (met xs).length → (∀ b o, b < s.heap.objs.size → s.heap.get? b = some o → h'.get? b = some o) → Q (.ref s.heap.objs.size) { s with heap := h', toks := tk }) :
    wpAny (model prog w) A (call (.type "set") [.ref l]) Q E s := by
  obtain ⟨c, tl, hmro⟩ := F.called_set.mro
  have hmade := F.called_set.made
  have hsub := F.called_set.sub
  refine wpAny_call (codeAny_of_tree ?_)
  show wpAny _ _ (callAny (.type "set") _) _ _ _
  refine wpAny_pure ⟨Code.quiet_builtin _ (by decide +kernel), codeAny_builtin F.entry_type_call ?_⟩
  rw [Around.under_plain (weight_type_call_type "set" [.ref l] []) rfl]
  have h1 := F.called_set.notType
  have h2 := F.called_set.canCreate
  have hct := F.typeCall_set_1 (.ref l)
  repeat (any_goals (first | assumption | wp_step))
  refine codeAny_mono (code_set_new_1 (.ref l) (E := E) (Q₁ := fun obj s₁ => ∃ led : Bool, obj = .ref s.heap.objs.size ∧ s₁ = { s with heap := s.heap.push { cls := .type "set", dict := none, data := .set #[] 0 (.fresh 0 0 led) } }) fun led => ⟨led, rfl, rfl⟩) fun r s₁ hr => ?_
  match r, hr with
  | .error e, hr => exact hr
  | .ok .next, hr => exact hr.elim
  | .ok .brk, hr => exact hr.elim
  | .ok .cont, hr => exact hr.elim
  | .ok (.ret obj), hr =>
    obtain ⟨led, rfl, rfl⟩ := hr
    have hS : (s.heap.push { cls := .type "set", dict := none, data := .set #[] 0 (.fresh 0 0 led) }).get? s.heap.objs.size = some { cls := .type "set", dict := none, data := .set #[] 0 (.fresh 0 0 led) } := Heap.get?_push_size _ rfl
    have hT : Shared.TypeIs { s with heap := s.heap.push { cls := .type "set", dict := none, data := .set #[] 0 (.fresh 0 0 led) } } (.ref s.heap.objs.size) "set" := ⟨_, hS, rfl⟩
    have hli := F.called_set.init.lookup
    have hbi := F.called_set.init.bind (.ref s.heap.objs.size)
    repeat (any_goals (first | assumption | wp_step))
    refine codeAny_mono (codeAny_call_builtin (R := wants (fun r s₂ => r = .none ∧ ∃ h' tk, s₂ = { s with heap := h', toks := tk } ∧
        h'.SetOf (strKind prog w) s.heap.objs.size (fun k' => (met xs).any (· == k')) (met xs).length ∧ (∀ b o, b < s.heap.objs.size → s.heap.get? b = some o → h'.get? b = some o)) E) F.called_set.init.plain F.entry_set_init (check_set_init_1 hT ?_)) fun r₂ s₂ hr₂ => ?_
    · obtain ⟨ol, hol, hcl, nl, hdl⟩ := hl
      obtain ⟨ocls, odict, odata, oslots⟩ := ol
      simp only at hcl hdl
      subst hcl; subst hdl
      have hol' : (s.heap.push { cls := .type "set", dict := none, data := .set #[] 0 (.fresh 0 0 led) }).get? l = some { cls := .type "list", dict := odict, data := .seq items nl, slots := oslots } := Heap.get?_push_of_some _ hol
      have hsls := F.sub_list_set
      have hslf := F.sub_list_frozenset
      have hne : (Value.type "list" == Value.type "dict") = false := by decide
      have hl1 : (s.heap.push { cls := .type "set", dict := none, data := .set #[] 0 (.fresh 0 0 led) }).IsList l items := ⟨_, hol', rfl, nl, rfl⟩
      unfold Builtin.«set.__init__» noKeywords Builtin.Frozenset.updateFrom
      generalize hPI : pyIter = PI
      wp_walk
      subst hPI
      refine wpAny_pyIter_list hl1 (wpAny_bind (wpAny_runValue ?_))
      have hlS : l < s.heap.objs.size := Heap.lt_size hol
      have hh3 : A.in1.in1.in1.handled = none := by simp [hh]
      have hneI : l ≠ (s.heap.push { cls := .type "set", dict := none, data := .set #[] 0 (.fresh 0 0 led) }).objs.size := by
        rw [Heap.size_push]; exact Nat.ne_of_lt (Nat.lt_succ_of_lt hlS)
      have hSf : s.heap.objs.size ∉ [(s.heap.push { cls := .type "set", dict := none, data := .set #[] 0 (.fresh 0 0 led) }).objs.size, l] := by
        rw [Heap.size_push]; simp only [List.mem_cons, List.mem_singleton, List.not_mem_nil, or_false, not_or]
        exact ⟨Nat.ne_of_lt (Nat.lt_succ_self _), Nat.ne_of_gt hlS⟩
      refine set_loop_strs ((Walks.list hh3 _ l hneI items).toS) s.heap.objs.size hSf xs (by rw [← strs_len hi, Array.length_toList]) (fun i v hv => strs_get hi i v (by rw [Array.getElem?_toList]; exact hv)) hb (items.size - 0) 0 _ (by omega) (Nat.zero_le _)
        ⟨⟨_, Heap.get?_push_size _ rfl, rfl, rfl⟩, (hl1.push _)⟩ ?hS0 ?hR
      case hS0 =>
        have hget : ((s.heap.push { cls := .type "set", dict := none, data := .set #[] 0 (.fresh 0 0 led) }).push { cls := .type "list_iterator", data := .fields #[.ref l, .int 0 0] }).get? s.heap.objs.size
            = some { cls := .type "set", dict := none, data := .set #[] 0 (.fresh 0 0 led) } := Heap.get?_push_of_some _ hS
        exact SetOf_congr ((setObjOf_fresh (knd := strKind prog w) led).setOf hget (by unfold scanBound; omega)) (fun _ => rfl) rfl
      case hR =>
        intro s' hm hS'
        obtain ⟨h', g', d', tk', os'⟩ := s'
        obtain rfl : g' = s.gens := hm.gens
        obtain rfl : d' = s.drawn := hm.drawn
        obtain rfl : os' = s.os := hm.os
        show wpAny _ _ _ _ _ _
        refine wpAny_pure ?_
        show wpAny _ _ (ret Value.none) _ _ _
        refine wpAny_pure ⟨rfl, h', tk', rfl, hS', fun b o hb e => hm.heap b o ?_ (Heap.get?_push_of_some _ (Heap.get?_push_of_some _ e))⟩
        simp only [List.mem_cons, List.mem_singleton, List.not_mem_nil, or_false, not_or]
        exact ⟨Nat.ne_of_lt hb, by rw [Heap.size_push]; exact Nat.ne_of_lt (Nat.lt_succ_of_lt hb)⟩
    · match r₂, hr₂ with
      | .error e, z => exact z
      | .ok .next, z => exact z.elim
      | .ok .brk, z => exact z.elim
      | .ok .cont, z => exact z.elim
      | .ok (.ret r), z =>
        obtain ⟨rfl, h', tk, rfl, hS', hk'⟩ := z
        repeat (any_goals (first | assumption | wp_step))
        exact h _ _ hS' hk'
end
end CF
end
section
set_option maxRecDepth 100000
set_option maxHeartbeats 1000000
namespace CF
open PySem PySem.Spec PyProof.Rows L2
abbrev St := L2.St
inductive D where
  | non | bl (b : Bool) | int (i : Int) | str (x : Str)
  | tup (xs : List D) | pt (xs : List D) | lst (xs : List D) | dK (kvs : List (Key × D)) | dT (pw : Program × World) (kvs : List (List Key × D))
  | ins (C : Addr) (fs : List (Str × D)) | scr (xs : List D) | ref (n : Nat)
  | exc (a d C : Addr) (fs : List (Str × D))
inductive Cell where
  | lst (xs : List D) | dK (kvs : List (Key × D)) | dT (pw : Program × World) (oo : Option Obj) (kvs : List (List Key × D)) | ins (C : Addr) (fs : List (Str × D))
  | lk (kvs : List (Key × D)) (o : Obj) (us : List (Key × V))
  | tab (P : Addr) (q : Str)
abbrev GH := List Cell
abbrev DEnv := List (Option D)
structure Ex where
  cls : Addr
  fs : List (Str × D)
inductive R (α : Type) where
  | ok (a : α) (G : GH) | ex (x : Ex) (G : GH) | no
def R.bind {α β : Type} (r : R α) (k : α → GH → R β) : R β := match r with
  | .ok a G => k a G
  | .ex x G => .ex x G
  | .no => .no
@[simp] theorem R.bind_ok {α β : Type} (a : α) (G : GH) (k : α → GH → R β) : (R.ok a G).bind k = k a G := rfl
@[simp] theorem R.bind_ex {α β : Type} (x : Ex) (G : GH) (k : α → GH → R β) : (R.ex x G : R α).bind k = .ex x G := rfl
@[simp] theorem R.bind_no {α β : Type} (k : α → GH → R β) : (R.no : R α).bind k = .no := rfl
def TupAt (K : PySem.W.Frag) (Z : Hp) (p : Addr) (vs : List V) : Prop :=
  Z p = some (.tup vs) ∨ ∃ (o : Obj) (its : Array Value) (n : Nat), K.lookup p = some o ∧ o.cls = .type "tuple" ∧ o.data = .seq its n ∧ its.size ≤ sizeLine ∧ Vals vs its.toList
def ScrAt (K : PySem.W.Frag) (Z : Hp) (p : Addr) (vs : List V) : Prop :=
  (∃ o, Z p = some (.frz o (.lst vs))) ∨ ∃ (o : Obj) (its : Array Value) (n : Nat), K.lookup p = some o ∧ o.cls = .type "list" ∧ o.dict = none ∧ o.data = .seq its n ∧ its.size ≤ sizeLine ∧ Vals vs its.toList
theorem TupAt.mono {K : PySem.W.Frag} {a b : Hp} (h : ∀ p o, a p = some o → b p = some o) {p : Addr} {vs : List V} (t : TupAt K a p vs) : TupAt K b p vs := t.elim (fun e => .inl (h _ _ e)) .inr
def DXo (a : Addr) (o : Obj) : HO := .ext fun h => h.get? a = some o
structure DXat (K : PySem.W.Frag) (Z : Hp) (pw : Program × World) (p : Addr) (o : Obj) (kvs : List (List Key × V)) : Prop where
  len : kvs.length ≤ sizeLine
  sys : (p == sysModules) = false
  ex : o.ExactDict
  ent : ∃ es ep xs, o.data = .dict es ep ∧ es.toList = xs.map (entryOfKey (tupleKind (mixKind pw.1 pw.2))) ∧ (xs.map (·.1)).Nodup ∧
    Paired (fun (p : List Key × V) (q : List Key × Addr × Value) => p.1 = q.1 ∧ TupAt K Z q.2.1 (p.1.map kV) ∧ RelV p.2 q.2.2) kvs xs
theorem DXat.mono {K : PySem.W.Frag} {a b : Hp} (h : ∀ p o, a p = some o → b p = some o) {pw : Program × World} {p : Addr} {o : Obj} {kvs : List (List Key × V)} (t : DXat K a pw p o kvs) : DXat K b pw p o kvs :=
  ⟨t.len, t.sys, t.ex, let ⟨es, ep, xs, h1, h2, h3, h4⟩ := t.ent; ⟨es, ep, xs, h1, h2, h3, Paired.mapP h4 fun _ _ z => ⟨z.1, z.2.1.mono h, z.2.2⟩⟩⟩
mutual
inductive Rep (K : PySem.W.Frag) (Z : Hp) (r : List Addr) : D → V → Prop
  | non : Rep K Z r .non .non
  | bl (b) : Rep K Z r (.bl b) (.bl b)
  | int (i) : Rep K Z r (.int i) (.int i)
  | str (x) : Rep K Z r (.str x) (.str x)
  | tup {p vs ds} : TupAt K Z p vs → Reps K Z r ds vs → Rep K Z r (.tup ds) (.ref p)
  | pt {p o vs ds} : Z p = some (.frz o (.tup vs)) → o.dict = none → Reps K Z r ds vs → Rep K Z r (.pt ds) (.ref p)
  | lst {p vs ds} : Z p = some (.lst vs) → Reps K Z r ds vs → Rep K Z r (.lst ds) (.ref p)
  | dK {p kvs kds} : Z p = some (.dK kvs) → kds.map (·.1) = kvs.map (·.1) → Reps K Z r (kds.map (·.2)) (kvs.map (·.2)) → Rep K Z r (.dK kds) (.ref p)
  | dT {pw p o kvs kds} : Z p = some (DXo p o) → DXat K Z pw p o kvs → kds.map (·.1) = kvs.map (·.1) → Reps K Z r (kds.map (·.2)) (kvs.map (·.2)) → Rep K Z r (.dT pw kds) (.ref p)
  | ins {p C dx fs fds} : Z p = some (.ins C dx fs) → fds.map (·.1) = fs.map (·.1) → Reps K Z r (fds.map (·.2)) (fs.map (·.2)) → Rep K Z r (.ins C fds) (.ref p)
  | exc {a d C fs fds} : Z d = some (.xd fs) → fds.map (·.1) = fs.map (·.1) → Reps K Z r (fds.map (·.2)) (fs.map (·.2)) → Rep K Z r (.exc a d C fds) (.ref a)
  | scr {p vs ds} : ScrAt K Z p vs → Reps K Z r ds vs → Rep K Z r (.scr ds) (.ref p)
  | ref {n a} : r[n]? = some a → Rep K Z r (.ref n) (.ref a)
inductive Reps (K : PySem.W.Frag) (Z : Hp) (r : List Addr) : List D → List V → Prop
  | nil : Reps K Z r [] []
  | cons {d v ds vs} : Rep K Z r d v → Reps K Z r ds vs → Reps K Z r (d :: ds) (v :: vs)
end
structure Lk where
  Z : Hp
  r : List Addr
  F : Hp
structure Lk.le (a b : Lk) : Prop where
  z : ∀ p o, a.Z p = some o → b.Z p = some o
  r : ∀ (n : Nat) (x : Addr), a.r[n]? = some x → b.r[n]? = some x
  f : b.F = a.F
theorem Lk.le.refl (a : Lk) : a.le a := ⟨fun _ _ h => h, fun _ _ h => h, rfl⟩
theorem Lk.le.trans {a b c : Lk} (h : a.le b) (k : b.le c) : a.le c := ⟨fun p o e => k.z p o (h.z p o e), fun n x e => k.r n x (h.r n x e), k.f.trans h.f⟩
theorem ScrAt.mono {K : PySem.W.Frag} {a b : Hp} (h : ∀ p o, a p = some o → b p = some o) {p : Addr} {vs : List V} (t : ScrAt K a p vs) : ScrAt K b p vs := t.elim (fun ⟨o, e⟩ => .inl ⟨o, h _ _ e⟩) .inr
mutual
theorem Rep.mono {K : PySem.W.Frag} {a b : Lk} (h : a.le b) : ∀ {d : D} {v : V}, Rep K a.Z a.r d v → Rep K b.Z b.r d v
  | _, _, .non => .non
  | _, _, .bl _ => .bl _
  | _, _, .int _ => .int _
  | _, _, .str _ => .str _
  | _, _, .tup e t => .tup (e.mono h.z) (Reps.mono h t)
  | _, _, .pt e k t => .pt (h.z _ _ e) k (Reps.mono h t)
  | _, _, .lst e t => .lst (h.z _ _ e) (Reps.mono h t)
  | _, _, .dK e k t => .dK (h.z _ _ e) k (Reps.mono h t)
  | _, _, .dT e x k t => .dT (h.z _ _ e) (x.mono h.z) k (Reps.mono h t)
  | _, _, .ins e k t => .ins (h.z _ _ e) k (Reps.mono h t)
  | _, _, .exc e k t => .exc (h.z _ _ e) k (Reps.mono h t)
  | _, _, .scr e t => .scr (e.mono h.z) (Reps.mono h t)
  | _, _, .ref e => .ref (h.r _ _ e)
theorem Reps.mono {K : PySem.W.Frag} {a b : Lk} (h : a.le b) : ∀ {ds : List D} {vs : List V}, Reps K a.Z a.r ds vs → Reps K b.Z b.r ds vs
  | _, _, .nil => .nil
  | _, _, .cons x t => .cons (Rep.mono h x) (Reps.mono h t)
end
theorem Reps.length {K : PySem.W.Frag} {Z : Hp} {r : List Addr} : ∀ {ds : List D} {vs : List V}, Reps K Z r ds vs → ds.length = vs.length
  | _, _, .nil => rfl
  | _, _, .cons _ t => congrArg (· + 1) (Reps.length t)
theorem Reps.get {K : PySem.W.Frag} {Z : Hp} {r : List Addr} : ∀ {ds : List D} {vs : List V} {i : Nat} {d : D}, Reps K Z r ds vs → ds[i]? = some d → ∃ v, vs[i]? = some v ∧ Rep K Z r d v
  | _, _, _, _, .nil, e => by simp at e
  | _, _, 0, _, .cons x t, e => by simp at e; subst e; exact ⟨_, rfl, x⟩
  | _, _, i + 1, d, .cons x t, e => by
    obtain ⟨v, e1, e2⟩ := Reps.get (i := i) (d := d) t (by simpa using e)
    exact ⟨v, by simpa using e1, e2⟩
theorem Reps.append {K : PySem.W.Frag} {Z : Hp} {r : List Addr} : ∀ {ds es : List D} {vs us : List V}, Reps K Z r ds vs → Reps K Z r es us → Reps K Z r (ds ++ es) (vs ++ us)
  | _, _, _, _, .nil, s => s
  | _, _, _, _, .cons x t, s => .cons x (Reps.append t s)
theorem Reps.take {K : PySem.W.Frag} {Z : Hp} {r : List Addr} : ∀ (n : Nat) {ds : List D} {vs : List V}, Reps K Z r ds vs → Reps K Z r (ds.take n) (vs.take n)
  | 0, _, _, _ => by simp only [List.take_zero]; exact .nil
  | _ + 1, _, _, .nil => .nil
  | n + 1, _, _, .cons x t => .cons x (Reps.take n t)
theorem Reps.drop {K : PySem.W.Frag} {Z : Hp} {r : List Addr} : ∀ (n : Nat) {ds : List D} {vs : List V}, Reps K Z r ds vs → Reps K Z r (ds.drop n) (vs.drop n)
  | 0, _, _, h => h
  | _ + 1, _, _, .nil => .nil
  | n + 1, _, _, .cons _ t => Reps.drop n t
theorem Reps.set {K : PySem.W.Frag} {Z : Hp} {r : List Addr} {d : D} {v : V} (x : Rep K Z r d v) : ∀ (i : Nat) {ds : List D} {vs : List V}, Reps K Z r ds vs → Reps K Z r (ds.set i d) (vs.set i v)
  | _, _, _, .nil => .nil
  | 0, _, _, .cons _ t => .cons x t
  | i + 1, _, _, .cons y t => .cons y (Reps.set x i t)
theorem Reps.eraseIdx {K : PySem.W.Frag} {Z : Hp} {r : List Addr} : ∀ (i : Nat) {ds : List D} {vs : List V}, Reps K Z r ds vs → Reps K Z r (ds.eraseIdx i) (vs.eraseIdx i)
  | _, _, _, .nil => .nil
  | 0, _, _, .cons _ t => t
  | i + 1, _, _, .cons y t => .cons y (Reps.eraseIdx i t)
theorem Reps.reverse {K : PySem.W.Frag} {Z : Hp} {r : List Addr} : ∀ {ds : List D} {vs : List V}, Reps K Z r ds vs → Reps K Z r ds.reverse vs.reverse
  | _, _, .nil => .nil
  | _, _, .cons x t => by rw [List.reverse_cons, List.reverse_cons]; exact (Reps.reverse t).append (.cons x .nil)
def ZH (H : Hp) (p : Addr) (o : HO) : Prop := H p = some o ∨ (((∃ k, o = .dK k) ∨ ∃ k, o = .dT k) ∧ ∃ ob, H p = some (.frz ob o))
theorem ZH.rd {H : Hp} {p : Addr} {o : HO} (h : ZH H p o) : Rd H p o := h.elim .inl fun ⟨_, ob, e⟩ => .inr ⟨ob, e⟩
theorem ZH.some {H : Hp} {p : Addr} {o : HO} (h : ZH H p o) : ∃ u, H p = .some u := h.elim (fun e => ⟨_, e⟩) fun ⟨_, _, e⟩ => ⟨_, e⟩
theorem ZH.lst {H : Hp} {p : Addr} {xs : List V} (h : ZH H p (.lst xs)) : H p = .some (.lst xs) := h.elim id fun ⟨k, _⟩ => by
  rcases k with ⟨_, e⟩ | ⟨_, e⟩ <;> cases e
theorem ZH.tup {H : Hp} {p : Addr} {xs : List V} (h : ZH H p (.tup xs)) : H p = .some (.tup xs) := h.elim id fun ⟨k, _⟩ => by
  rcases k with ⟨_, e⟩ | ⟨_, e⟩ <;> cases e
theorem ZH.frz {H : Hp} {p : Addr} {o : Obj} {u : HO} (h : ZH H p (.frz o u)) : H p = .some (.frz o u) := h.elim id fun ⟨k, _⟩ => by
  rcases k with ⟨_, e⟩ | ⟨_, e⟩ <;> cases e
theorem ZH.ins {H : Hp} {p : Addr} {C dx : Addr} {fs : List (Str × V)} (h : ZH H p (.ins C dx fs)) : H p = .some (.ins C dx fs) := h.elim id fun ⟨k, _⟩ => by
  rcases k with ⟨_, e⟩ | ⟨_, e⟩ <;> cases e
theorem ZH.xd {H : Hp} {p : Addr} {fs : List (Str × V)} (h : ZH H p (.xd fs)) : H p = .some (.xd fs) := h.elim id fun ⟨k, _⟩ => by
  rcases k with ⟨_, e⟩ | ⟨_, e⟩ <;> cases e
theorem ZH.upd {H : Hp} {p q : Addr} {o u : HO} (h : ZH H p o) (n : p ≠ q) : ZH (L2.upd H q u) p o := by
  rcases h with e | ⟨k, ob, e⟩
  · exact .inl (by rw [upd_ne n]; exact e)
  · exact .inr ⟨k, ob, by rw [upd_ne n]; exact e⟩
def codO (c : Addr) (q : Str) : HO := .ext fun h => ∃ (oc : Obj) (vs : Array Value) (t : Tok), h.get? c = some oc ∧ oc.data = .fields vs ∧ vs[1]? = some (.str q t)
inductive CellAt (K : PySem.W.Frag) (L : Lk) (H : Hp) : Cell → Addr → Prop
  | lst {a vs ds} : H a = some (.lst vs) → Reps K L.Z L.r ds vs → CellAt K L H (.lst ds) a
  | dK {a kvs kds} : H a = some (.dK kvs) → kds.map (·.1) = kvs.map (·.1) → Reps K L.Z L.r (kds.map (·.2)) (kvs.map (·.2)) → CellAt K L H (.dK kds) a
  | dT {pw oo a o kvs kds} : (∀ o', oo = some o' → o' = o) → H a = some (DXo a o) → DXat K L.Z pw a o kvs → kds.map (·.1) = kvs.map (·.1) → Reps K L.Z L.r (kds.map (·.2)) (kvs.map (·.2)) → CellAt K L H (.dT pw oo kds) a
  | ins {a C dx fs fds} : H a = some (.ins C dx fs) → fds.map (·.1) = fs.map (·.1) → Reps K L.Z L.r (fds.map (·.2)) (fs.map (·.2)) → CellAt K L H (.ins C fds) a
  | lk {a o kvs kds} : H a = some (.frz o (.dK kvs)) → kds.map (·.1) = kvs.map (·.1) → Reps K L.Z L.r (kds.map (·.2)) (kvs.map (·.2)) → CellAt K L H (.lk kds o kvs) a
  | tab {a q ps} : H a = some (.tbl ps) → TriplesOk ps.toList → (∀ (pos : Pos) (cv : Value), codeAmong pos ps.toList = some cv → ∃ c, cv = .ref c ∧ L.Z c = some (codO c q)) → CellAt K L H (.tab a q) a
theorem CellAt.some {K : PySem.W.Frag} {L : Lk} {H : Hp} {c : Cell} {a : Addr} (h : CellAt K L H c a) : ∃ u, H a = .some u := by
  cases h <;> exact ⟨_, by assumption⟩
theorem CellAt.move {K : PySem.W.Frag} {L L' : Lk} {H H' : Hp} {c : Cell} {a : Addr} (h : CellAt K L H c a) (le : L.le L') (e : H' a = H a) : CellAt K L' H' c a := by
  cases h with
  | lst h t => exact .lst (e.trans h) (t.mono le)
  | dK h k t => exact .dK (e.trans h) k (t.mono le)
  | dT h0 h x k t => exact .dT h0 (e.trans h) (x.mono le.z) k (t.mono le)
  | ins h k t => exact .ins (e.trans h) k (t.mono le)
  | lk h k t => exact .lk (e.trans h) k (t.mono le)
  | tab h k t => exact .tab (e.trans h) k fun pos cv hc => (t pos cv hc).elim fun c h2 => ⟨c, h2.1, le.z _ _ h2.2⟩
structure HR (K : PySem.W.Frag) (L : Lk) (G : GH) (H : Hp) : Prop where
  z : ∀ p o, L.Z p = some o → ZH H p o
  len : L.r.length = G.length
  cell : ∀ (n : Nat) (a : Addr) (c : Cell), L.r[n]? = some a → G[n]? = some c → CellAt K L H c a
  inj : ∀ (n m : Nat) (a : Addr), L.r[n]? = some a → L.r[m]? = some a → n = m
  dis : ∀ (n : Nat) (a : Addr), L.r[n]? = some a → L.Z a = none
  fr : ∀ p o, L.F p = some o → H p = some o
  fd : ∀ (n : Nat) (a : Addr), L.r[n]? = some a → L.F a = none
  fz : ∀ p o, L.F p = some o → (∃ od u, o = .frz od u) ∨ L.Z p = none
section
variable {K : PySem.W.Frag} {L : Lk} {G : GH} {H : Hp} {p : Addr} {o : HO}
theorem HR.zfree (h : HR K L G H) (e : H p = none) : L.Z p = none := by
  cases q : L.Z p with
  | none => rfl
  | some u =>
    obtain ⟨w, z⟩ := (h.z p u q).some
    rw [e] at z; cases z
theorem HR.rfree (h : HR K L G H) (e : H p = none) : ∀ n : Nat, L.r[n]? ≠ some p := fun n q => by
  have hn : n < G.length := by rw [← h.len]; exact (List.getElem?_eq_some_iff.mp q).1
  obtain ⟨u, z⟩ := (h.cell n p G[n] q (by simp [hn])).some
  rw [e] at z; cases z
def Lk.put (L : Lk) (p : Addr) (o : HO) : Lk := ⟨upd L.Z p o, L.r, L.F⟩
def Lk.add (L : Lk) (p : Addr) : Lk := ⟨L.Z, L.r ++ [p], L.F⟩
theorem HR.ffree (h : HR K L G H) (e : H p = none) : L.F p = none := by
  cases q : L.F p with
  | none => rfl
  | some u =>
    have z := h.fr p u q
    rw [e] at z; cases z
theorem Lk.le_put (e : L.Z p = none) : L.le (L.put p o) := ⟨fun q u k => by
  show upd L.Z p o q = some u
  rw [upd_ne (ne_of_none k e)]; exact k, fun _ _ k => k, rfl⟩
theorem Lk.le_add : L.le (L.add p) := ⟨fun _ _ k => k, fun n x k => by
  show (L.r ++ [p])[n]? = some x
  rw [List.getElem?_append_left (List.getElem?_eq_some_iff.mp k).1]; exact k, rfl⟩
theorem HR.put (h : HR K L G H) (e : H p = none) : HR K (L.put p o) G (upd H p o) where
  z := fun q u k => by
    by_cases hq : q = p
    · subst hq
      have k' : upd L.Z q o q = some u := k
      rw [upd_same] at k'
      cases k'
      exact .inl upd_same
    · have k' : upd L.Z p o q = some u := k
      rw [upd_ne hq] at k'
      exact (h.z q u k').upd hq
  len := h.len
  cell := fun n a c e1 e2 => (h.cell n a c e1 e2).move (Lk.le_put (h.zfree e)) (upd_ne fun q => h.rfree e n (q ▸ e1))
  inj := h.inj
  dis := fun n a e1 => by
    show upd L.Z p o a = none
    rw [upd_ne fun (q : a = p) => h.rfree e n (q ▸ e1)]
    exact h.dis n a e1
  fr := fun q u k => by rw [upd_ne (ne_of_none (h.fr q u k) e)]; exact h.fr q u k
  fd := h.fd
  fz := fun q u k => by
    show _ ∨ upd L.Z p o q = none
    rw [upd_ne (ne_of_none (h.fr q u k) e)]; exact h.fz q u k
theorem HR.add (h : HR K L G H) (e : H p = none) {c : Cell} (hc : CellAt K (L.add p) (upd H p o) c p) : HR K (L.add p) (G ++ [c]) (upd H p o) where
  z := fun q u k => (h.z q u k).upd fun z => by
    obtain ⟨w, y⟩ := (h.z q u k).some
    rw [z, e] at y; cases y
  len := by show (L.r ++ [p]).length = _; rw [List.length_append, List.length_append, h.len]; rfl
  cell := fun n a c' e1 e2 => by
    have e1' : (L.r ++ [p])[n]? = some a := e1
    by_cases hn : n < L.r.length
    · rw [List.getElem?_append_left hn] at e1'
      rw [List.getElem?_append_left (by rw [← h.len]; exact hn)] at e2
      exact (h.cell n a c' e1' e2).move Lk.le_add (upd_ne fun q => h.rfree e n (q ▸ e1'))
    · have hl : n = L.r.length := by
        have := (List.getElem?_eq_some_iff.mp e1').1
        rw [List.length_append, List.length_singleton] at this
        omega
      subst hl
      rw [List.getElem?_append_right (Nat.le_refl _), Nat.sub_self] at e1'
      rw [List.getElem?_append_right (by rw [h.len]; exact Nat.le_refl _), h.len, Nat.sub_self] at e2
      simp at e1' e2
      subst e1' e2
      exact hc
  inj := fun n m a e1 e2 => by
    have key : ∀ {k : Nat}, (L.r ++ [p])[k]? = some a → (k < L.r.length ∧ L.r[k]? = some a) ∨ (k = L.r.length ∧ p = a) := fun {k} q => by
      by_cases hk : k < L.r.length
      · rw [List.getElem?_append_left hk] at q
        exact .inl ⟨hk, q⟩
      · have hl : k = L.r.length := by
          have := (List.getElem?_eq_some_iff.mp q).1
          rw [List.length_append, List.length_singleton] at this
          omega
        subst hl
        rw [List.getElem?_append_right (Nat.le_refl _), Nat.sub_self] at q
        simp at q
        exact .inr ⟨rfl, q⟩
    rcases key e1 with ⟨_, a1⟩ | ⟨h1, a1⟩ <;> rcases key e2 with ⟨_, a2⟩ | ⟨h2, a2⟩
    · exact h.inj n m a a1 a2
    · exact absurd a1 (a2 ▸ h.rfree e n)
    · exact absurd a2 (a1 ▸ h.rfree e m)
    · rw [h1, h2]
  dis := fun n a e1 => by
    have e1' : (L.r ++ [p])[n]? = some a := e1
    by_cases hn : n < L.r.length
    · rw [List.getElem?_append_left hn] at e1'
      exact h.dis n a e1'
    · have hl : n = L.r.length := by
        have := (List.getElem?_eq_some_iff.mp e1').1
        rw [List.length_append, List.length_singleton] at this
        omega
      subst hl
      rw [List.getElem?_append_right (Nat.le_refl _), Nat.sub_self] at e1'
      simp at e1'
      subst e1'
      exact h.zfree e
  fr := fun q u k => by rw [upd_ne (ne_of_none (h.fr q u k) e)]; exact h.fr q u k
  fd := fun n a e1 => by
    have e1' : (L.r ++ [p])[n]? = some a := e1
    by_cases hn : n < L.r.length
    · rw [List.getElem?_append_left hn] at e1'
      exact h.fd n a e1'
    · have hl : n = L.r.length := by
        have := (List.getElem?_eq_some_iff.mp e1').1
        rw [List.length_append, List.length_singleton] at this
        omega
      subst hl
      rw [List.getElem?_append_right (Nat.le_refl _), Nat.sub_self] at e1'
      simp at e1'
      subst e1'
      exact h.ffree e
  fz := h.fz
theorem HR.set (h : HR K L G H) {n : Nat} (e : L.r[n]? = some p) {c : Cell} (hc : CellAt K L (upd H p o) c p) : HR K L (G.set n c) (upd H p o) where
  z := fun q u k => (h.z q u k).upd fun z => by rw [z, h.dis n p e] at k; cases k
  len := by rw [List.length_set]; exact h.len
  cell := fun m a c' e1 e2 => by
    by_cases hm : n = m
    · subst hm
      rw [e] at e1; cases e1
      rw [List.getElem?_set_self (by rw [← h.len]; exact (List.getElem?_eq_some_iff.mp e).1)] at e2
      cases e2
      exact hc
    · rw [List.getElem?_set_ne hm] at e2
      exact (h.cell m a c' e1 e2).move (.refl _) (upd_ne fun q => hm (h.inj n m p e (q ▸ e1)))
  inj := h.inj
  dis := h.dis
  fr := fun q u k => by
    have hq : q ≠ p := fun z => by rw [z, h.fd n p e] at k; cases k
    rw [upd_ne hq]; exact h.fr q u k
  fd := h.fd
  fz := h.fz
def Lk.frm (L : Lk) (F : Hp) : Lk := ⟨L.Z, L.r, F⟩
theorem HR.frm (h : HR K L G H) {F : Hp} (h1 : ∀ p o, F p = some o → H p = some o) (h2 : ∀ (n : Nat) (a : Addr), L.r[n]? = some a → F a = none) (h3 : ∀ p o, F p = some o → (∃ od u, o = .frz od u) ∨ L.Z p = none) : HR K (L.frm F) G H where
  z := h.z
  len := h.len
  cell := fun n a c e1 e2 => by
    have q := h.cell n a c e1 e2
    cases q with
    | lst h t => exact .lst h t
    | dK h k t => exact .dK h k t
    | dT h0 h x k t => exact .dT h0 h x k t
    | ins h k t => exact .ins h k t
    | lk h k t => exact .lk h k t
    | tab h k t => exact .tab h k t
  inj := h.inj
  dis := h.dis
  fr := h1
  fd := h2
  fz := h3
structure Lk.cle (a b : Lk) : Prop where
  z : ∀ p o, a.Z p = some o → b.Z p = some o
  r : ∀ (n : Nat) (x : Addr), a.r[n]? = some x → b.r[n]? = some x
theorem Lk.le.c {a b : Lk} (h : a.le b) : a.cle b := ⟨h.z, h.r⟩
theorem Lk.cle.refl (a : Lk) : a.cle a := ⟨fun _ _ h => h, fun _ _ h => h⟩
theorem Lk.cle.trans {a b c : Lk} (h : a.cle b) (k : b.cle c) : a.cle c := ⟨fun p o e => k.z p o (h.z p o e), fun n x e => k.r n x (h.r n x e)⟩
theorem Lk.cle.le {a b : Lk} (h : a.cle b) (f : b.F = a.F) : a.le b := ⟨h.z, h.r, f⟩
structure Lk.fle (a b : Lk) : Prop where
  z : ∀ p o, a.Z p = some o → b.Z p = some o
  r : ∀ (n : Nat) (x : Addr), a.r[n]? = some x → b.r[n]? = some x
  f : ∀ p o, a.F p = some o → b.F p = some o
structure Lk.sle (a b : Lk) : Prop where
  z : ∀ p o, a.Z p = some o → b.Z p = some o
  r : ∀ (n : Nat) (x : Addr), a.r[n]? = some x → b.r[n]? = some x
  f : ∀ p od u, a.F p = some (.frz od u) → b.F p = some (.frz od u)
theorem Lk.fle.s {a b : Lk} (h : a.fle b) : a.sle b := ⟨h.z, h.r, fun p od u e => h.f p _ e⟩
theorem Lk.le.s {a b : Lk} (h : a.le b) : a.sle b := ⟨h.z, h.r, fun p od u e => by rw [h.f]; exact e⟩
theorem Lk.sle.c {a b : Lk} (h : a.sle b) : a.cle b := ⟨h.z, h.r⟩
theorem Lk.le.fl {a b : Lk} (h : a.le b) : a.fle b := ⟨h.z, h.r, fun p o e => by rw [h.f]; exact e⟩
theorem Lk.fle.c {a b : Lk} (h : a.fle b) : a.cle b := ⟨h.z, h.r⟩
theorem Lk.fle.refl (a : Lk) : a.fle a := ⟨fun _ _ h => h, fun _ _ h => h, fun _ _ h => h⟩
theorem Lk.fle.trans {a b c : Lk} (h : a.fle b) (k : b.fle c) : a.fle c := ⟨fun p o e => k.z p o (h.z p o e), fun n x e => k.r n x (h.r n x e), fun p o e => k.f p o (h.f p o e)⟩
theorem HR.shrink (h : HR K L G H) {F : Hp} (s : ∀ p o, F p = some o → L.F p = some o) : HR K (L.frm F) G H := h.frm (fun p o e => h.fr p o (s p o e)) (fun n a e => by
  cases q : F a with
  | none => rfl
  | some o =>
    have z := s a o q
    rw [h.fd n a e] at z; cases z) fun p o e => h.fz p o (s p o e)
def Lk.prv (L : Lk) (p : Addr) (o : HO) : Lk := L.frm (upd L.F p o)
theorem CellAt.frm {L : Lk} {F : Hp} {H H' : Hp} {c : Cell} {a : Addr} (q : CellAt K L H c a) (e' : H' a = H a) : CellAt K (L.frm F) H' c a := by
  cases q with
  | lst h t => exact .lst (e'.trans h) t
  | dK h k t => exact .dK (e'.trans h) k t
  | dT h0 h x k t => exact .dT h0 (e'.trans h) x k t
  | ins h k t => exact .ins (e'.trans h) k t
  | lk h k t => exact .lk (e'.trans h) k t
  | tab h k t => exact .tab (e'.trans h) k t
theorem HR.elsewhere (h : HR K L G H) {H2 F2 : Hp} (hz : L.Z p = none) (hrn : ∀ n : Nat, L.r[n]? ≠ some p) (same : ∀ q, q ≠ p → H2 q = H q) (f1 : ∀ q o, F2 q = some o → H2 q = some o)
    (f2 : ∀ (n : Nat) (a : Addr), L.r[n]? = some a → F2 a = none) (f3 : ∀ q o, F2 q = some o → (∃ od u, o = .frz od u) ∨ L.Z q = none) : HR K (L.frm F2) G H2 where
  z := fun q u k => by
    have k : L.Z q = some u := k
    have hq : q ≠ p := fun z => by rw [z, hz] at k; cases k
    rcases h.z q u k with e | ⟨e, ob, e'⟩
    · exact .inl ((same q hq).trans e)
    · exact .inr ⟨e, ob, (same q hq).trans e'⟩
  len := h.len
  cell := fun n a c e1 e2 => (h.cell n a c e1 e2).frm (same a fun (q : a = p) => hrn n (q ▸ e1))
  inj := h.inj
  dis := h.dis
  fr := f1
  fd := f2
  fz := f3
theorem HR.prv (h : HR K L G H) (e : H p = none) : HR K (L.prv p o) G (upd H p o) :=
  h.elsewhere (p := p) (h.zfree e) (h.rfree e) (fun q hq => upd_ne hq)
    (fun q u k => by
      by_cases hq : q = p
      · subst hq; rw [upd_same] at k ⊢; exact k
      · rw [upd_ne hq] at k ⊢; exact h.fr q u k)
    (fun n a e1 => by rw [upd_ne fun (q : a = p) => h.rfree e n (q ▸ e1)]; exact h.fd n a e1)
    (fun q u k => by
      by_cases hq : q = p
      · subst hq; exact .inr (h.zfree e)
      · rw [upd_ne hq] at k; exact h.fz q u k)
theorem HR.prvZ (h : HR K (L.prv p o) G H) (ho : ∀ od w, o ≠ .frz od w) : L.Z p = none := (h.fz p o upd_same).resolve_left fun ⟨od, w, e⟩ => ho od w e
theorem HR.prvR (h : HR K (L.prv p o) G H) : ∀ n : Nat, L.r[n]? ≠ some p := fun n q => by
  have z : upd L.F p o p = none := h.fd n p q
  rw [upd_same] at z; cases z
theorem HR.prvH (h : HR K (L.prv p o) G H) : H p = some o := h.fr p o upd_same
theorem HR.prvSet {u : HO} (h : HR K (L.prv p o) G H) (ho : ∀ od w, o ≠ .frz od w) : HR K (L.prv p u) G (upd H p u) :=
  HR.elsewhere (L := L.prv p o) (p := p) h (h.prvZ ho) h.prvR (fun q hq => upd_ne hq)
    (fun q w k => by
      by_cases hq : q = p
      · subst hq; rw [upd_same] at k ⊢; exact k
      · rw [upd_ne hq] at k ⊢
        exact h.fr q w (by show upd L.F p o q = some w; rw [upd_ne hq]; exact k))
    (fun n a e1 => by
      have hq : a ≠ p := fun (q : a = p) => h.prvR n (q ▸ e1)
      have z : upd L.F p o a = none := h.fd n a e1
      rw [upd_ne hq] at z ⊢; exact z)
    (fun q w k => by
      by_cases hq : q = p
      · subst hq; exact .inr (h.prvZ ho)
      · rw [upd_ne hq] at k
        exact h.fz q w (by show upd L.F p o q = some w; rw [upd_ne hq]; exact k))
theorem HR.prvOut (h : HR K (L.prv p o) G H) (ho : ∀ od w, o ≠ .frz od w) (hF : L.F p = none) : HR K L G (fun b => if b = p then none else H b) :=
  HR.elsewhere (L := L.prv p o) (p := p) (F2 := L.F) h (h.prvZ ho) h.prvR (fun q hq => if_neg hq)
    (fun q w k => by
      have hq : q ≠ p := fun z => by rw [z, hF] at k; cases k
      rw [if_neg hq]
      exact h.fr q w (by show upd L.F p o q = some w; rw [upd_ne hq]; exact k))
    (fun n a e1 => by
      have hq : a ≠ p := fun (q : a = p) => h.prvR n (q ▸ e1)
      have z : upd L.F p o a = none := h.fd n a e1
      rw [upd_ne hq] at z; exact z)
    (fun q w k => by
      have hq : q ≠ p := fun z => by rw [z, hF] at k; cases k
      exact h.fz q w (by show upd L.F p o q = some w; rw [upd_ne hq]; exact k))
theorem upd_out {H : Hp} {p : Addr} {o : HO} (e : H p = some o) : upd (fun b => if b = p then none else H b) p o = H := by
  funext b
  by_cases hb : b = p
  · subst hb; rw [upd_same, e]
  · rw [upd_ne hb, if_neg hb]
end
def ER (K : PySem.W.Frag) (L : Lk) (δ : DEnv) (σ : St) : Prop := δ.length = σ.length ∧ ∀ (i : Nat) (d : D), δ[i]? = some (some d) → ∃ v, σ[i]? = some (some v) ∧ Rep K L.Z L.r d v
theorem ER.mono {K : PySem.W.Frag} {L L' : Lk} {δ : DEnv} {σ : St} (h : ER K L δ σ) (le : L.le L') : ER K L' δ σ := ⟨h.1, fun i d e => let ⟨v, a, b⟩ := h.2 i d e; ⟨v, a, b.mono le⟩⟩
theorem ER.fmono {K : PySem.W.Frag} {L L' : Lk} {δ : DEnv} {σ : St} (h : ER K L δ σ) (le : L.fle L') : ER K L' δ σ := ⟨h.1, fun i d e => let ⟨v, a, b⟩ := h.2 i d e; ⟨v, a, Rep.mono (a := L) (b := L'.frm L.F) ⟨le.z, le.r, rfl⟩ b⟩⟩
theorem ER.set {K : PySem.W.Frag} {L : Lk} {δ : DEnv} {σ : St} (h : ER K L δ σ) {d : D} {v : V} (i : Nat) (x : Rep K L.Z L.r d v) : ER K L (δ.set i (some d)) (σ.set i (some v)) := by
  refine ⟨by simpa using h.1, fun j d' e => ?_⟩
  by_cases hj : i = j
  · subst hj
    by_cases hl : i < δ.length
    · rw [List.getElem?_set_self hl] at e
      cases e
      exact ⟨v, by rw [List.getElem?_set_self (by rw [← h.1]; exact hl)], x⟩
    · rw [List.getElem?_eq_none (by simpa using hl)] at e; cases e
  · rw [List.getElem?_set_ne hj] at e ⊢
    exact h.2 j d' e
theorem ER.drop {K : PySem.W.Frag} {L : Lk} {δ : DEnv} {σ : St} (h : ER K L δ σ) (i : Nat) : ER K L (δ.set i none) (σ.set i none) := by
  refine ⟨by simpa using h.1, fun j d' e => ?_⟩
  by_cases hj : i = j
  · subst hj
    by_cases hl : i < δ.length
    · rw [List.getElem?_set_self hl] at e; cases e
    · rw [List.getElem?_eq_none (by simpa using hl)] at e; cases e
  · rw [List.getElem?_set_ne hj] at e ⊢
    exact h.2 j d' e
def wipeD (δ : DEnv) : List Nat → DEnv
  | [] => δ
  | v :: vs => (wipeD δ vs).set v none
theorem ER.wipe {K : PySem.W.Frag} {L : Lk} {δ : DEnv} {σ : St} (h : ER K L δ σ) : ∀ vs : List Nat, ER K L (wipeD δ vs) (wipe σ vs)
  | [] => h
  | v :: vs => (ER.wipe h vs).drop v
def XRep (K : PySem.W.Frag) (L : Lk) (x : Ex) (c : Value) (dx : Option Addr) : Prop :=
  c = .ref x.cls ∧ ∃ d fs, dx = some d ∧ L.Z d = some (.xd fs) ∧ x.fs.map (·.1) = fs.map (·.1) ∧ Reps K L.Z L.r (x.fs.map (·.2)) (fs.map (·.2))
theorem XRep.mono {K : PySem.W.Frag} {L L' : Lk} {x : Ex} {c : Value} {dx : Option Addr} (h : XRep K L x c dx) (le : L.le L') : XRep K L' x c dx := by
  obtain ⟨e, d, fs, e1, e2, e3, e4⟩ := h
  exact ⟨e, d, fs, e1, le.z _ _ e2, e3, e4.mono le⟩
def Sat {α β : Type} (K : PySem.W.Frag) (W : WX) (L : Lk) (σ : St) (rep : Lk → α → β → Prop) (r : R α) (Q : β → Hp → Prop) : Prop := match r with
  | .ok d G => ∀ L' H' v, L.le L' → HR K L' G H' → rep L' d v → Q v H'
  | .ex x G => ∀ L' H' c dx, L.le L' → HR K L' G H' → XRep K L' x c dx → W c dx σ H'
  | .no => False
theorem Sat.mono {α β : Type} {K : PySem.W.Frag} {W : WX} {L L' : Lk} {σ : St} {rep : Lk → α → β → Prop} {r : R α} {Q : β → Hp → Prop} (h : Sat K W L σ rep r Q) (le : L.le L') : Sat K W L' σ rep r Q := by
  cases r with
  | ok d G => exact fun L2 H2 v l2 => h L2 H2 v (le.trans l2)
  | ex x G => exact fun L2 H2 c dx l2 => h L2 H2 c dx (le.trans l2)
  | no => exact h
theorem XRep.shrink {K : PySem.W.Frag} {L : Lk} {F : Hp} {x : Ex} {c : Value} {dx : Option Addr} (h : XRep K L x c dx) : XRep K (L.frm F) x c dx := h
theorem Sat.fmono {α β : Type} {K : PySem.W.Frag} {W : WX} {L L' : Lk} {σ : St} {rep : Lk → α → β → Prop} {r : R α} {Q : β → Hp → Prop} (h : Sat K W L σ rep r Q) (le : L.fle L') (hrep : ∀ L F a b, rep L a b → rep (L.frm F) a b) : Sat K W L' σ rep r Q := by
  have sm : ∀ {L2 G H}, L'.le L2 → HR K L2 G H → L.le (L2.frm L.F) ∧ HR K (L2.frm L.F) G H := fun {L2 G H} l2 hr => ⟨⟨fun p o e => l2.z p o (le.z p o e), fun n x e => l2.r n x (le.r n x e), rfl⟩, hr.shrink fun p o e => by rw [l2.f]; exact le.f p o e⟩
  cases r with
  | ok d G => exact fun L2 H2 v l2 hr rv => h _ H2 v (sm l2 hr).1 (sm l2 hr).2 (hrep _ _ _ _ rv)
  | ex x G => exact fun L2 H2 c dx l2 hr xr => h _ H2 c dx (sm l2 hr).1 (sm l2 hr).2 xr.shrink
  | no => exact h
def repD (K : PySem.W.Frag) : Lk → D → V → Prop := fun L d v => Rep K L.Z L.r d v
def repA (K : PySem.W.Frag) : Lk → List D → List V → Prop := fun L d v => Reps K L.Z L.r d v
def repB : Lk → Bool → Bool → Prop := fun _ a b => a = b
def tG {α β : Type} (K : PySem.W.Frag) (W : WX) (rep : Lk → α → β → Prop) (f : DEnv → GH → R α) : St → Hp → (β → Hp → Prop) → Prop := fun σ H Q =>
  ∃ L δ G, HR K L G H ∧ ER K L δ σ ∧ Sat K W L σ rep (f δ G) Q
abbrev FE := DEnv → GH → R D
abbrev FA := DEnv → GH → R (List D)
abbrev FT := DEnv → GH → R Bool
def xE (X : Cx) (W : WX) (e : Expr) (f : FE) : Prop := PE X e (tG X.K W (repD X.K) f)
def xA (X : Cx) (W : WX) (es : List Expr) (f : FA) : Prop := PA X es (tG X.K W (repA X.K) f)
def xT (X : Cx) (W : WX) (e : Expr) (f : FT) : Prop := PT X e (tG X.K W repB f)
def xW (X : Cx) (W : WX) (e : Expr) (f : FT) : Prop := PW X e (tG X.K W repB f)
inductive RS where
  | nx (δ : DEnv) (G : GH) | rt (d : D) (G : GH) | bk (δ : DEnv) (G : GH) | ct (δ : DEnv) (G : GH) | ex (x : Ex) (δ : DEnv) (G : GH) | no
def SatS (K : PySem.W.Frag) (W : WX) (L : Lk) (r : RS) (E : Ends) : Prop := match r with
  | .nx δ G => ∀ L' σ' H', L.le L' → HR K L' G H' → ER K L' δ σ' → E.nx σ' H'
  | .bk δ G => ∀ L' σ' H', L.le L' → HR K L' G H' → ER K L' δ σ' → E.bk σ' H'
  | .ct δ G => ∀ L' σ' H', L.le L' → HR K L' G H' → ER K L' δ σ' → E.ct σ' H'
  | .rt d G => ∀ L' H' v, L.le L' → HR K L' G H' → Rep K L'.Z L'.r d v → E.rt v H'
  | .ex x δ G => ∀ L' σ' H' c dx, L.le L' → HR K L' G H' → ER K L' δ σ' → XRep K L' x c dx → W c dx σ' H'
  | .no => False
theorem SatS.mono {K : PySem.W.Frag} {W : WX} {L L' : Lk} {r : RS} {E : Ends} (h : SatS K W L r E) (le : L.le L') : SatS K W L' r E := by
  cases r with
  | nx δ G => exact fun L2 σ H l2 => h L2 σ H (le.trans l2)
  | bk δ G => exact fun L2 σ H l2 => h L2 σ H (le.trans l2)
  | ct δ G => exact fun L2 σ H l2 => h L2 σ H (le.trans l2)
  | rt d G => exact fun L2 H v l2 => h L2 H v (le.trans l2)
  | ex x δ G => exact fun L2 σ H c dx l2 => h L2 σ H c dx (le.trans l2)
  | no => exact h
theorem ER.frm {K : PySem.W.Frag} {L : Lk} {F : Hp} {δ : DEnv} {σ : St} (h : ER K L δ σ) : ER K (L.frm F) δ σ := h
theorem SatS.fmono {K : PySem.W.Frag} {W : WX} {L L' : Lk} {r : RS} {E : Ends} (h : SatS K W L r E) (le : L.fle L') : SatS K W L' r E := by
  have sm : ∀ {L2 G H}, L'.le L2 → HR K L2 G H → L.le (L2.frm L.F) ∧ HR K (L2.frm L.F) G H := fun {L2 G H} l2 hr => ⟨⟨fun p o e => l2.z p o (le.z p o e), fun n x e => l2.r n x (le.r n x e), rfl⟩, hr.shrink fun p o e => by rw [l2.f]; exact le.f p o e⟩
  cases r with
  | nx δ G => exact fun L2 σ H l2 hr er => h _ σ H (sm l2 hr).1 (sm l2 hr).2 er
  | bk δ G => exact fun L2 σ H l2 hr er => h _ σ H (sm l2 hr).1 (sm l2 hr).2 er
  | ct δ G => exact fun L2 σ H l2 hr er => h _ σ H (sm l2 hr).1 (sm l2 hr).2 er
  | rt d G => exact fun L2 H v l2 hr rv => h _ H v (sm l2 hr).1 (sm l2 hr).2 rv
  | ex x δ G => exact fun L2 σ H c dx l2 hr er xr => h _ σ H c dx (sm l2 hr).1 (sm l2 hr).2 er xr
  | no => exact h
abbrev FS := DEnv → GH → RS
def tS (K : PySem.W.Frag) (W : WX) (f : FS) : TS := fun E σ H => ∃ L δ G, HR K L G H ∧ ER K L δ σ ∧ SatS K W L (f δ G) E
def xS (X : Cx) (W : WX) (st : Stmt) (f : FS) : Prop := PS X st (tS X.K W f)
def xSs (X : Cx) (W : WX) (st : List Stmt) (f : FS) : Prop := PSs X st (tS X.K W f)
def R.thn {α : Type} (r : R α) (δ : DEnv) (k : α → GH → RS) : RS := match r with
  | .ok a G => k a G
  | .ex x G => .ex x δ G
  | .no => .no
@[simp] theorem R.thn_ok {α : Type} (a : α) (G : GH) (δ : DEnv) (k : α → GH → RS) : (R.ok a G).thn δ k = k a G := rfl
@[simp] theorem R.thn_ex {α : Type} (x : Ex) (G : GH) (δ : DEnv) (k : α → GH → RS) : (R.ex x G : R α).thn δ k = .ex x δ G := rfl
@[simp] theorem R.thn_no {α : Type} (δ : DEnv) (k : α → GH → RS) : (R.no : R α).thn δ k = .no := rfl
def RS.seq (r : RS) (k : DEnv → GH → RS) : RS := match r with
  | .nx δ G => k δ G
  | r => r
@[simp] theorem RS.seq_nx (δ : DEnv) (G : GH) (k : DEnv → GH → RS) : (RS.nx δ G).seq k = k δ G := rfl
@[simp] theorem RS.seq_rt (d : D) (G : GH) (k : DEnv → GH → RS) : (RS.rt d G).seq k = .rt d G := rfl
@[simp] theorem RS.seq_bk (δ : DEnv) (G : GH) (k : DEnv → GH → RS) : (RS.bk δ G).seq k = .bk δ G := rfl
@[simp] theorem RS.seq_ct (δ : DEnv) (G : GH) (k : DEnv → GH → RS) : (RS.ct δ G).seq k = .ct δ G := rfl
@[simp] theorem RS.seq_ex (x : Ex) (δ : DEnv) (G : GH) (k : DEnv → GH → RS) : (RS.ex x δ G).seq k = .ex x δ G := rfl
@[simp] theorem RS.seq_no (k : DEnv → GH → RS) : RS.no.seq k = .no := rfl
theorem PEimp {X : Cx} {e : Expr} {t t' : TE} (h : PE X e t) (i : ∀ σ H Q, t' σ H Q → t σ H Q) : PE X e t' := ⟨fun pins s σ H Q I q => h.run pins s σ H Q I (i _ _ _ q)⟩
theorem PTimp {X : Cx} {e : Expr} {t t' : TT} (h : PT X e t) (i : ∀ σ H Q, t' σ H Q → t σ H Q) : PT X e t' := ⟨fun pins s σ H Q I q => h.run pins s σ H Q I (i _ _ _ q)⟩
theorem PWimp {X : Cx} {e : Expr} {t t' : TT} (h : PW X e t) (i : ∀ σ H Q, t' σ H Q → t σ H Q) : PW X e t' := ⟨fun wh pins s σ H Q I q => h.run wh pins s σ H Q I (i _ _ _ q)⟩
theorem PAimp {X : Cx} {e : List Expr} {t t' : TA} (h : PA X e t) (i : ∀ σ H Q, t' σ H Q → t σ H Q) : PA X e t' := ⟨fun pos pins s σ H Q I q => h.run pos pins s σ H Q I (i _ _ _ q)⟩
theorem PSimp {X : Cx} {e : Stmt} {t t' : TS} (h : PS X e t) (i : ∀ E σ H, t' E σ H → t E σ H) : PS X e t' := ⟨fun pins s σ H Q I q => h.run pins s σ H Q I (i _ _ _ q)⟩
theorem PSsimp {X : Cx} {e : List Stmt} {t t' : TS} (h : PSs X e t) (i : ∀ E σ H, t' E σ H → t E σ H) : PSs X e t' := ⟨fun pins s σ H Q I q => h.run pins s σ H Q I (i _ _ _ q)⟩
theorem Sat.bind {α β γ δ' : Type} {K : PySem.W.Frag} {W : WX} {L : Lk} {σ : St} {δ : DEnv} {G : GH} {H : Hp} {rep : Lk → α → β → Prop} {rep' : Lk → γ → δ' → Prop} {f : DEnv → GH → R α} {k : α → GH → R γ} {Q : δ' → Hp → Prop} {Q1 : β → Hp → Prop}
    (hr : HR K L G H) (er : ER K L δ σ) (h : Sat K W L σ rep' ((f δ G).bind k) Q)
    (nx : ∀ L1 G1 H1 a v, L.le L1 → HR K L1 G1 H1 → ER K L1 δ σ → rep L1 a v → Sat K W L1 σ rep' (k a G1) Q → Q1 v H1) : tG K W rep f σ H Q1 := by
  refine ⟨L, δ, G, hr, er, ?_⟩
  cases e : f δ G with
  | ok a G1 =>
    rw [e] at h
    exact fun L1 H1 v le hr1 ra => nx L1 G1 H1 a v le hr1 (er.mono le) ra (Sat.mono (L := L) (r := k a G1) h le)
  | ex x G1 =>
    rw [e] at h
    exact h
  | no =>
    rw [e] at h
    exact h
theorem Sat.thn {α β : Type} {K : PySem.W.Frag} {W : WX} {L : Lk} {σ : St} {δ : DEnv} {G : GH} {H : Hp} {rep : Lk → α → β → Prop} {f : DEnv → GH → R α} {k : α → GH → RS} {E : Ends} {Q1 : β → Hp → Prop}
    (hr : HR K L G H) (er : ER K L δ σ) (h : SatS K W L ((f δ G).thn δ k) E)
    (nx : ∀ L1 G1 H1 a v, L.le L1 → HR K L1 G1 H1 → ER K L1 δ σ → rep L1 a v → SatS K W L1 (k a G1) E → Q1 v H1) : tG K W rep f σ H Q1 := by
  refine ⟨L, δ, G, hr, er, ?_⟩
  cases e : f δ G with
  | ok a G1 =>
    rw [e] at h
    exact fun L1 H1 v le hr1 ra => nx L1 G1 H1 a v le hr1 (er.mono le) ra (SatS.mono (L := L) (r := k a G1) h le)
  | ex x G1 =>
    rw [e] at h
    exact fun L1 H1 c dx le hr1 xr => h L1 σ H1 c dx le hr1 (er.mono le) xr
  | no =>
    rw [e] at h
    exact h
end CF
end
section
set_option maxRecDepth 100000
set_option maxHeartbeats 1000000
namespace CF
open PySem PySem.Spec PyProof.Rows L2
def lstOf (G : GH) : D → Option (List D)
  | .lst xs => some xs
  | .scr xs => some xs
  | .ref n => match G[n]? with
    | some (.lst xs) => some xs
    | _ => none
  | _ => none
@[simp] theorem lstOf_lst (G : GH) (xs : List D) : lstOf G (.lst xs) = some xs := rfl
@[simp] theorem lstOf_scr (G : GH) (xs : List D) : lstOf G (.scr xs) = some xs := rfl
@[simp] theorem lstOf_tup (G : GH) (xs : List D) : lstOf G (.tup xs) = none := rfl
@[simp] theorem lstOf_int (G : GH) (i : Int) : lstOf G (.int i) = none := rfl
@[simp] theorem lstOf_str (G : GH) (x : Str) : lstOf G (.str x) = none := rfl
@[simp] theorem lstOf_dK (G : GH) (x : List (Key × D)) : lstOf G (.dK x) = none := rfl
@[simp] theorem lstOf_dT (G : GH) (pw : Program × World) (x : List (List Key × D)) : lstOf G (.dT pw x) = none := rfl
@[simp] theorem lstOf_ref (G : GH) (n : Nat) : lstOf G (.ref n) = match G[n]? with | some (.lst xs) => some xs | _ => none := rfl
theorem scr_sq {K : PySem.W.Frag} {L : Lk} {G : GH} {H : Hp} (hr : HR K L G H) {p : Addr} {vs : List V} (z : ScrAt K L.Z p vs) : SqL K H p vs := z.elim (fun ⟨o, z⟩ => .inl (.inr ⟨o, (hr.z _ _ z).frz⟩)) .inr
section
variable {K : PySem.W.Frag} {L : Lk} {G : GH} {H : Hp} {d : D} {v : V} {ds : List D}
theorem lst_rep (hr : HR K L G H) (h : Rep K L.Z L.r d v) (e : lstOf G d = some ds) : ∃ p vs, v = .ref p ∧ SqL K H p vs ∧ Reps K L.Z L.r ds vs := by
  cases h with
  | lst z t => cases e; exact ⟨_, _, rfl, .of (hr.z _ _ z).lst, t⟩
  | scr z t => cases e; exact ⟨_, _, rfl, scr_sq hr z, t⟩
  | @ref n a q =>
    have hn : n < G.length := by rw [← hr.len]; exact (List.getElem?_eq_some_iff.mp q).1
    have c := hr.cell n a G[n] q (by simp [hn])
    rw [lstOf_ref, List.getElem?_eq_getElem hn] at e
    cases k : G[n] with
    | lst xs =>
      rw [k] at e c; cases e
      cases c with
      | lst h t => exact ⟨_, _, rfl, .of h, t⟩
    | _ => rw [k] at e; cases e
  | _ => cases e
def lstX (G : GH) : D → Option (List D)
  | .lst xs => some xs
  | .ref n => match G[n]? with
    | some (.lst xs) => some xs
    | _ => none
  | _ => none
@[simp] theorem lstX_lst (G : GH) (xs : List D) : lstX G (.lst xs) = some xs := rfl
@[simp] theorem lstX_ref (G : GH) (n : Nat) : lstX G (.ref n) = match G[n]? with | some (.lst xs) => some xs | _ => none := rfl
theorem lstX_rep (hr : HR K L G H) (h : Rep K L.Z L.r d v) (e : lstX G d = some ds) : ∃ p vs, v = .ref p ∧ H p = some (.lst vs) ∧ Reps K L.Z L.r ds vs := by
  cases h with
  | lst z t => cases e; exact ⟨_, _, rfl, (hr.z _ _ z).lst, t⟩
  | @ref n a q =>
    have hn : n < G.length := by rw [← hr.len]; exact (List.getElem?_eq_some_iff.mp q).1
    have c := hr.cell n a G[n] q (by simp [hn])
    rw [lstX_ref, List.getElem?_eq_getElem hn] at e
    cases k : G[n] with
    | lst xs =>
      rw [k] at e c; cases e
      cases c with
      | lst h t => exact ⟨_, _, rfl, h, t⟩
    | _ => rw [k] at e; cases e
  | _ => cases e
theorem tup_rep (hr : HR K L G H) (h : Rep K L.Z L.r (.tup ds) v) : ∃ p vs, v = .ref p ∧ SqT K H p vs ∧ Reps K L.Z L.r ds vs := by
  cases h with
  | tup z t =>
    rcases z with z | z
    · exact ⟨_, _, rfl, .of (hr.z _ _ z).tup, t⟩
    · exact ⟨_, _, rfl, .inr z, t⟩
def tupOf : D → Option (List D)
  | .tup xs => some xs
  | .pt xs => some xs
  | _ => none
theorem tupOf_rep (hr : HR K L G H) (h : Rep K L.Z L.r d v) (e : tupOf d = some ds) : ∃ p vs, v = .ref p ∧ SqT K H p vs ∧ Reps K L.Z L.r ds vs := by
  cases h with
  | tup z t => cases e; exact tup_rep hr (.tup z t)
  | pt z k t => cases e; exact ⟨_, _, rfl, .inl (.inr ⟨_, (hr.z _ _ z).frz⟩), t⟩
  | _ => cases e
end
section
variable {X : Cx} {W : WX} {pos : Pos}
def eVar (i : Nat) : FE := fun δ G => match δ[i]? with
  | some (some d) => .ok d G
  | _ => .no
def eC (d : D) : FE := fun _ G => .ok d G
theorem xe_var {i : Nat} {x : Str} (hN : X.N[i]? = some x) (hv : Vis X.env.scope x) (hd : (x == ("__debug__" : Str)) = false := by decide) (hcd : (x == ("__classdict__" : Str)) = false := by decide) : xE X W (.Name x pos) (eVar i) :=
  PEimp (pe_var hN hv hd hcd) fun σ H Q ⟨L, δ, G, hr, er, h⟩ => by
    unfold eVar at h
    split at h
    · rename_i d e
      obtain ⟨v, e1, r⟩ := er.2 i d e
      exact ⟨v, e1, h L H v (.refl L) hr r⟩
    · exact h.elim
theorem xv (i : Nat) {x : Str} (hN : X.N[i]? = some x := by rfl) (hv : Vis X.env.scope x := by first | exact Or.inl rfl | exact Or.inr (Or.inl rfl) | exact Or.inr (Or.inr rfl)) (hd : (x == ("__debug__" : Str)) = false := by decide)
    (hcd : (x == ("__classdict__" : Str)) = false := by decide) : xE X W (.Name x pos) (eVar i) := xe_var hN hv hd hcd
theorem xe_c {e : Expr} {d : D} {v : V} (h : PE X e (tC v)) (r : ∀ K Z r, Rep K Z r d v) : xE X W e (eC d) :=
  PEimp h fun σ H Q ⟨L, δ, G, hr, er, h⟩ => h L H v (.refl L) hr (r _ _ _)
theorem xe_int {i j} : xE X W (.Constant (.int i) j pos) (eC (.int i)) := xe_c pe_int fun _ _ _ => .int i
theorem xe_bl {b j} : xE X W (.Constant (.bool b) j pos) (eC (.bl b)) := xe_c pe_bl fun _ _ _ => .bl b
theorem xe_non {j} : xE X W (.Constant .none j pos) (eC .non) := xe_c pe_non fun _ _ _ => .non
theorem xe_str {x j} : xE X W (.Constant (.str x) j pos) (eC (.str x)) := xe_c pe_str fun _ _ _ => .str x
theorem xe_gint {x : Str} {i : Int} (h : ∃ t, X.mg x = some (.int i t)) (hg : Gl X x := by rfl) (hd : (x == ("__debug__" : Str)) = false := by decide) : xE X W (.Name x pos) (eC (.int i)) :=
  let ⟨t, e⟩ := h; xe_c (pe_glob hg e (v := .int i) ⟨t, rfl⟩ hd) fun _ _ _ => .int i
theorem xe_gstr {x : Str} {z : Str} (h : ∃ t, X.mg x = some (.str z t)) (hg : Gl X x := by rfl) (hd : (x == ("__debug__" : Str)) = false := by decide) : xE X W (.Name x pos) (eC (.str z)) :=
  let ⟨t, e⟩ := h; xe_c (pe_glob hg e (v := .str z) ⟨t, rfl⟩ hd) fun _ _ _ => .str z
def aNil : FA := fun _ G => .ok [] G
def aCons (f : FE) (g : FA) : FA := fun δ G => (f δ G).bind fun d G1 => (g δ G1).bind fun ds G2 => .ok (d :: ds) G2
theorem xa_nil : xA X W [] aNil := PAimp pa_nil fun σ H Q ⟨L, δ, G, hr, er, h⟩ => h L H [] (.refl L) hr .nil
theorem xa_cons {e : Expr} {es : List Expr} {f : FE} {g : FA} (h : xE X W e f) (t : xA X W es g) (hs : starEach (e :: es) X.env = (false, eval e X.env) :: starEach es X.env := by rfl) : xA X W (e :: es) (aCons f g) :=
  PAimp (pa_cons h t hs) fun σ H Q ⟨L, δ, G, hr, er, q⟩ => Sat.bind (rep' := repA X.K) hr er q fun L1 G1 H1 d v le hr1 er1 rd q1 => Sat.bind (rep' := repA X.K) hr1 er1 q1 fun L2 G2 H2 ds vs le2 hr2 er2 rds q2 =>
    q2 L2 H2 (v :: vs) (.refl _) hr2 (.cons (rd.mono le2) rds)
def eTup (g : FA) : FE := fun δ G => (g δ G).bind fun ds G1 => if ds.length ≤ sizeLine then .ok (.tup ds) G1 else .no
def eTupP (g : FA) : FE := fun δ G => (g δ G).bind fun ds G1 => if ds.length ≤ sizeLine then .ok (.pt ds) G1 else .no
def eLst (g : FA) : FE := fun δ G => (g δ G).bind fun ds G1 => if ds.length ≤ sizeLine then .ok (.lst ds) G1 else .no
def eLstM (g : FA) : FE := fun δ G => (g δ G).bind fun ds G1 => if ds.length ≤ sizeLine then .ok (.ref G1.length) (G1 ++ [.lst ds]) else .no
theorem put_tup {K : PySem.W.Frag} {L : Lk} {G : GH} {H : Hp} {ds : List D} {vs : List V} {p : Addr} (r : Reps K L.Z L.r ds vs) (hr : HR K L G H) (hp : H p = none) :
    HR K (L.put p (.tup vs)) G (upd H p (.tup vs)) ∧ L.le (L.put p (.tup vs)) ∧ Rep K (L.put p (.tup vs)).Z (L.put p (.tup vs)).r (.tup ds) (.ref p) :=
  have le := Lk.le_put (o := .tup vs) (hr.zfree hp)
  ⟨hr.put hp, le, .tup (.inl (by show upd L.Z p _ p = _; exact upd_same)) (r.mono le)⟩
theorem put_lst {K : PySem.W.Frag} {L : Lk} {G : GH} {H : Hp} {ds : List D} {vs : List V} {p : Addr} (r : Reps K L.Z L.r ds vs) (hr : HR K L G H) (hp : H p = none) :
    HR K (L.put p (.lst vs)) G (upd H p (.lst vs)) ∧ L.le (L.put p (.lst vs)) ∧ Rep K (L.put p (.lst vs)).Z (L.put p (.lst vs)).r (.lst ds) (.ref p) :=
  have le := Lk.le_put (o := .lst vs) (hr.zfree hp)
  ⟨hr.put hp, le, .lst (by show upd L.Z p _ p = _; exact upd_same) (r.mono le)⟩
theorem put_pt {K : PySem.W.Frag} {L : Lk} {G : GH} {H : Hp} {ds : List D} {vs : List V} {p : Addr} {o : Obj} (r : Reps K L.Z L.r ds vs) (hr : HR K L G H) (hp : H p = none) (ho : o.dict = none) :
    HR K (L.put p (.frz o (.tup vs))) G (upd H p (.frz o (.tup vs))) ∧ L.le (L.put p (.frz o (.tup vs))) ∧ Rep K (L.put p (.frz o (.tup vs))).Z (L.put p (.frz o (.tup vs))).r (.pt ds) (.ref p) :=
  have le := Lk.le_put (o := .frz o (.tup vs)) (hr.zfree hp)
  ⟨hr.put hp, le, .pt (by show upd L.Z p _ p = _; exact upd_same) ho (r.mono le)⟩
theorem add_lst {K : PySem.W.Frag} {L : Lk} {G : GH} {H : Hp} {ds : List D} {vs : List V} {p : Addr} (r : Reps K L.Z L.r ds vs) (hr : HR K L G H) (hp : H p = none) :
    HR K (L.add p) (G ++ [.lst ds]) (upd H p (.lst vs)) ∧ L.le (L.add p) ∧ Rep K (L.add p).Z (L.add p).r (.ref G.length) (.ref p) :=
  have le : L.le (L.add p) := Lk.le_add
  ⟨hr.add hp (.lst upd_same (r.mono le)), le, .ref (by
    show (L.r ++ [p])[G.length]? = some p
    rw [← hr.len, List.getElem?_append_right (Nat.le_refl _), Nat.sub_self]; rfl)⟩
variable {es : List Expr} {g : FA}
theorem xe_tup {k} (h : xA X W es g) : xE X W (.Tuple es k pos) (eTup g) :=
  PEimp (pe_tup h) fun σ H Q ⟨L, δ, G, hr, er, q⟩ => Sat.bind (rep' := repD X.K) hr er q fun L1 G1 H1 ds vs le hr1 er1 rd q1 => by
    by_cases hl : ds.length ≤ sizeLine
    · rw [if_pos hl] at q1
      refine ⟨by rw [← Reps.length rd]; exact hl, fun p hp => ?_⟩
      obtain ⟨a, b, c⟩ := put_tup rd hr1 hp
      exact q1 _ _ _ b a c
    · rw [if_neg hl] at q1; exact q1.elim
def tTupP (t : TA) : TE := fun σ H Q => t σ H fun xs H1 => xs.length ≤ sizeLine ∧ ∀ p o, H1 p = none → o.dict = none → Q (.ref p) (upd H1 p (.frz o (.tup xs)))
theorem pe_tupP {k} {t : TA} (h : PA X es t) : PE X (.Tuple es k pos) (tTupP t) := ⟨fun pins s σ H Q I hq =>
  wpAny_Tuple_spliced (thn (h.run pos pins s σ H _ I hq) fun us s1 ⟨xs, H1, I1, r, z, q⟩ => ⟨by rw [← r.length]; exact z,
    ⟨.ref s1.heap.objs.size, _, I1.laid (o := .frz { cls := .type "tuple", data := .seq us.toArray } (.tup xs)) (t' := s1.toks) (fun b u e => Heap.get?_push_of_some _ e) (Nat.le_refl _)
      ⟨Heap.get?_push_size _ rfl, z, us, r, ⟨_, Heap.get?_push_size _ rfl, rfl, _, rfl⟩⟩, rfl, q _ _ (I1.hok.fresh (Nat.le_refl _)) rfl⟩⟩)⟩
theorem xe_tupP {k} (h : xA X W es g) : xE X W (.Tuple es k pos) (eTupP g) :=
  PEimp (pe_tupP h) fun σ H Q ⟨L, δ, G, hr, er, q⟩ => Sat.bind (rep' := repD X.K) hr er q fun L1 G1 H1 ds vs le hr1 er1 rd q1 => by
    by_cases hl : ds.length ≤ sizeLine
    · rw [if_pos hl] at q1
      refine ⟨by rw [← Reps.length rd]; exact hl, fun p o hp ho => ?_⟩
      obtain ⟨a, b, c⟩ := put_pt rd hr1 hp ho
      exact q1 _ _ _ b a c
    · rw [if_neg hl] at q1; exact q1.elim
theorem xe_lst (h : xA X W es g) : xE X W (.List es pos) (eLst g) :=
  PEimp (pe_lst h) fun σ H Q ⟨L, δ, G, hr, er, q⟩ => Sat.bind (rep' := repD X.K) hr er q fun L1 G1 H1 ds vs le hr1 er1 rd q1 => by
    by_cases hl : ds.length ≤ sizeLine
    · rw [if_pos hl] at q1
      refine ⟨by rw [← Reps.length rd]; exact hl, fun p hp => ?_⟩
      obtain ⟨a, b, c⟩ := put_lst rd hr1 hp
      exact q1 _ _ _ b a c
    · rw [if_neg hl] at q1; exact q1.elim
theorem xe_lstM (h : xA X W es g) : xE X W (.List es pos) (eLstM g) :=
  PEimp (pe_lst h) fun σ H Q ⟨L, δ, G, hr, er, q⟩ => Sat.bind (rep' := repD X.K) hr er q fun L1 G1 H1 ds vs le hr1 er1 rd q1 => by
    by_cases hl : ds.length ≤ sizeLine
    · rw [if_pos hl] at q1
      refine ⟨by rw [← Reps.length rd]; exact hl, fun p hp => ?_⟩
      obtain ⟨a, b, c⟩ := add_lst rd hr1 hp
      exact q1 _ _ _ b a c
    · rw [if_neg hl] at q1; exact q1.elim
abbrev F2 := D → D → GH → R D
def Op2 (K : PySem.W.Frag) (f : F2) (r : R2) : Prop := ∀ (L : Lk) (G : GH) (H : Hp) (x y : D) (v u : V) (W : WX) (σ : St) (Q : VK), HR K L G H → Rep K L.Z L.r x v → Rep K L.Z L.r y u → Sat K W L σ (repD K) (f x y G) Q → r v u H Q
def eOp (f : F2) (a b : FE) : FE := fun δ G => (a δ G).bind fun x G1 => (b δ G1).bind fun y G2 => f x y G2
theorem eOp_imp {K : PySem.W.Frag} {f : F2} {r : R2} {fa fb : FE} (o : Op2 K f r) (σ : St) (H : Hp) (Q : VK) (h : tG K W (repD K) (eOp f fa fb) σ H Q) : tOp r (tG K W (repD K) fa) (tG K W (repD K) fb) σ H Q := by
  obtain ⟨L, δ, G, hr, er, q⟩ := h
  exact Sat.bind (rep' := repD K) hr er q fun L1 G1 H1 x v le hr1 er1 rx q1 => Sat.bind (rep' := repD K) hr1 er1 q1 fun L2 G2 H2 y u le2 hr2 er2 ry q2 =>
    o L2 G2 H2 x y v u _ _ Q hr2 (rx.mono le2) ry q2
variable {a b c : Expr} {fa fb fc : FE} {f f' : F2} {r r' : R2}
theorem xe_op {op : Operator} (ho : OpR X (binaryOp op) r) (o : Op2 X.K f r) (ha : xE X W a fa) (hb : xE X W b fb) : xE X W (.BinOp a op b pos) (eOp f fa fb) := PEimp (pe_op ho ha hb) (eOp_imp o)
theorem xe_cmp {op : CmpOp} (ho : OpR X (compareOp op) r) (o : Op2 X.K f r) (ha : xE X W a fa) (hb : xE X W b fb) (hm : behindInMarks op b = false) : xE X W (.Compare a [op] [b] pos) (eOp f fa fb) := PEimp (pe_cmpR ho ha hb hm) (eOp_imp o)
theorem Op2.or {K : PySem.W.Frag} {f g : F2} {r r' : R2} (p : D → D → GH → Bool) (h : Op2 K f r) (h' : Op2 K g r') : Op2 K (fun x y G => if p x y G then f x y G else g x y G) (fun x y H Q => r x y H Q ∨ r' x y H Q) := fun L G H x y v u W σ Q hr rx ry q => by
  have q : Sat K W L σ (repD K) (if p x y G = true then f x y G else g x y G) Q := q
  by_cases e : p x y G = true
  · rw [if_pos e] at q; exact .inl (h L G H x y v u W σ Q hr rx ry q)
  · rw [if_neg e] at q; exact .inr (h' L G H x y v u W σ Q hr rx ry q)
def asB (f : FE) : FT := fun δ G => (f δ G).bind fun d G1 => match d with
  | .bl b => .ok b G1
  | _ => .no
theorem asB_imp {K : PySem.W.Frag} {f : FE} (σ : St) (H : Hp) (Q : Bool → Hp → Prop) (h : tG K W repB (asB f) σ H Q) : tTest (tG K W (repD K) f) σ H Q := by
  obtain ⟨L, δ, G, hr, er, q⟩ := h
  refine Sat.bind (rep' := repB) hr er q fun L1 G1 H1 x v le hr1 er1 rx q1 => ?_
  cases rx with
  | bl b => exact ⟨b, rfl, q1 L1 H1 b (.refl _) hr1 rfl⟩
  | _ => exact q1.elim
theorem xt_cmp {op : CmpOp} (ho : OpR X (compareOp op) r) (o : Op2 X.K f r) (ha : xE X W a fa) (hb : xE X W b fb) (hm : behindInMarks op b = false) : xT X W (.Compare a [op] [b] pos) (asB (eOp f fa fb)) :=
  PTimp (pt_cmpR ho ha hb hm) fun σ H Q h => by
    have q := asB_imp σ H Q h
    obtain ⟨L, δ, G, hr, er, s⟩ := q
    exact eOp_imp o σ H _ ⟨L, δ, G, hr, er, s⟩
def eChain (f f' : F2) (a b c : FE) : FE := fun δ G => (a δ G).bind fun x G1 => (b δ G1).bind fun y G2 => (f x y G2).bind fun k G3 => match k with
  | .bl true => (c δ G3).bind fun z G4 => f' y z G4
  | .bl false => .ok (.bl false) G3
  | _ => .no
theorem eChain_imp {K : PySem.W.Frag} (o : Op2 K f r) (o' : Op2 K f' r') (σ : St) (H : Hp) (Q : VK) (h : tG K W (repD K) (eChain f f' fa fb fc) σ H Q) :
    tChain r r' (tG K W (repD K) fa) (tG K W (repD K) fb) (tG K W (repD K) fc) σ H Q := by
  obtain ⟨L, δ, G, hr, er, q⟩ := h
  refine Sat.bind (rep' := repD K) hr er q fun L1 G1 H1 x v le hr1 er1 rx q1 => Sat.bind (rep' := repD K) hr1 er1 q1 fun L2 G2 H2 y u le2 hr2 er2 ry q2 => ?_
  refine o L2 G2 H2 x y v u W σ _ hr2 (rx.mono le2) ry ?_
  cases e : f x y G2 with
  | ok k G3 =>
    rw [e] at q2
    intro L3 H3 w le3 hr3 rk
    have q3 : Sat K W L3 σ (repD K) _ Q := Sat.mono q2 le3
    have rk' : Rep K L3.Z L3.r k w := rk
    cases rk' with
    | bl b =>
      refine ⟨b, rfl, ?_⟩
      cases b with
      | true =>
        rw [if_pos rfl]
        exact Sat.bind (rep' := repD K) hr3 (er2.mono le3) q3 fun L4 G4 H4 z t le4 hr4 er4 rz q4 => o' L4 G4 H4 y z u t W σ Q hr4 ((ry.mono le3).mono le4) rz q4
      | false =>
        rw [if_neg Bool.false_ne_true]
        exact q3 L3 H3 _ (.refl _) hr3 (.bl false)
    | _ => exact q3.elim
  | ex x' G3 => rw [e] at q2; exact q2
  | no => rw [e] at q2; exact q2
theorem xe_chain {op op' : CmpOp} (ho : OpR X (compareOp op) r) (o : Op2 X.K f r) (ho' : OpR X (compareOp op') r') (o' : Op2 X.K f' r') (ha : xE X W a fa) (hb : xE X W b fb) (hc : xE X W c fc)
    (hm : lastMarks [op, op'] [b, c] = false := by with_unfolding_all rfl) : xE X W (.Compare a [op, op'] [b, c] pos) (eChain f f' fa fb fc) := PEimp (pe_chain ho ho' ha hb hc hm) (eChain_imp o o')
theorem xt_chain {op op' : CmpOp} (ho : OpR X (compareOp op) r) (o : Op2 X.K f r) (ho' : OpR X (compareOp op') r') (o' : Op2 X.K f' r') (ha : xE X W a fa) (hb : xE X W b fb) (hc : xE X W c fc)
    (hm : lastMarks [op, op'] [b, c] = false := by with_unfolding_all rfl) : xT X W (.Compare a [op, op'] [b, c] pos) (asB (eChain f f' fa fb fc)) := PTimp (pt_chain ho ho' ha hb hc hm) fun σ H Q h => by
  obtain ⟨L, δ, G, hr, er, s⟩ := asB_imp σ H Q h
  exact eChain_imp o o' σ H _ ⟨L, δ, G, hr, er, s⟩
def tAndD (f g : FT) : FT := fun δ G => (f δ G).bind fun k G1 => if k then g δ G1 else .ok false G1
def tOrD (f g : FT) : FT := fun δ G => (f δ G).bind fun k G1 => if k then .ok true G1 else g δ G1
def tNotD (f : FT) : FT := fun δ G => (f δ G).bind fun k G1 => .ok (!k) G1
variable {A B : FT} {rest : List Expr}
theorem xw_and1 (h : xT X W a A) : xW X W (.BoolOp .And [a] pos) A := pw_and1 h
theorem xw_or1 (h : xT X W a A) : xW X W (.BoolOp .Or [a] pos) A := pw_or1 h
theorem xw_and (h : xT X W a A) (k : xW X W (.BoolOp .And (b :: rest) pos) B) : xW X W (.BoolOp .And (a :: b :: rest) pos) (tAndD A B) :=
  PWimp (pw_and h k) fun σ H Q ⟨L, δ, G, hr, er, q⟩ => Sat.bind (rep' := repB) hr er q fun L1 G1 H1 x v le hr1 er1 rx q1 => by
    have rx' : x = v := rx
    subst rx'
    cases x with
    | true => rw [if_pos rfl]; exact ⟨L1, δ, G1, hr1, er1, q1⟩
    | false => rw [if_neg Bool.false_ne_true]; exact q1 L1 H1 false (.refl _) hr1 rfl
theorem xw_or (h : xT X W a A) (k : xW X W (.BoolOp .Or (b :: rest) pos) B) : xW X W (.BoolOp .Or (a :: b :: rest) pos) (tOrD A B) :=
  PWimp (pw_or h k) fun σ H Q ⟨L, δ, G, hr, er, q⟩ => Sat.bind (rep' := repB) hr er q fun L1 G1 H1 x v le hr1 er1 rx q1 => by
    have rx' : x = v := rx
    subst rx'
    cases x with
    | true => rw [if_pos rfl]; exact q1 L1 H1 true (.refl _) hr1 rfl
    | false => rw [if_neg Bool.false_ne_true]; exact ⟨L1, δ, G1, hr1, er1, q1⟩
theorem xt_w {e : Expr} (h : xW X W e A) : xT X W e A := PW.pt h
theorem xt_not (h : xT X W a A) : xT X W (.UnaryOp .Not a pos) (tNotD A) :=
  PTimp (pt_not h) fun σ H Q ⟨L, δ, G, hr, er, q⟩ => Sat.bind (rep' := repB) hr er q fun L1 G1 H1 x v le hr1 er1 rx q1 => by
    have rx' : x = v := rx
    subst rx'
    exact q1 L1 H1 (!x) (.refl _) hr1 rfl
def truD (G : GH) : D → Option Bool
  | .non => some false
  | .bl b => some b
  | .int i => some (i != 0)
  | .str x => if x.length ≤ sizeLine then some (x.length != 0) else none
  | .tup xs => some (!xs.isEmpty)
  | .pt xs => some (!xs.isEmpty)
  | .lst xs => some (!xs.isEmpty)
  | .scr xs => some (!xs.isEmpty)
  | .ref n => match G[n]? with
    | some (.lst xs) => some (!xs.isEmpty)
    | some (.dK xs) => some (!xs.isEmpty)
    | _ => none
  | _ => none
theorem isEmpty_reps {K : PySem.W.Frag} {Z : Hp} {r : List Addr} {ds : List D} {vs : List V} (h : Reps K Z r ds vs) : (!ds.isEmpty) = !vs.isEmpty := by cases h <;> rfl
theorem truD_rep {K : PySem.W.Frag} {L : Lk} {G : GH} {H : Hp} {d : D} {v : V} {k : Bool} (hr : HR K L G H) (h : Rep K L.Z L.r d v) (e : truD G d = some k) : TruV K v H k := by
  have seq : ∀ {ds}, lstOf G d = some ds → k = !ds.isEmpty → TruV K v H k := fun {ds} e1 e2 => by
    obtain ⟨p, vs, rfl, s, t⟩ := lst_rep hr h e1
    exact .inl ⟨vs, s, by rw [e2, isEmpty_reps t]⟩
  cases h with
  | non => cases e; rfl
  | bl b => cases e; rfl
  | int i => cases e; rfl
  | str x =>
    have e' : (if x.length ≤ sizeLine then some (x.length != 0) else none) = some k := e
    by_cases hl : x.length ≤ sizeLine
    · rw [if_pos hl] at e'
      cases e'
      refine ⟨hl, ?_⟩
      by_cases z : x.length = 0
      · rw [z]; rfl
      · have : ((x.length : Int) != 0) = true := by simp; omega
        rw [this]; simpa using z
    · rw [if_neg hl] at e'; cases e'
  | tup z t =>
    cases e
    obtain ⟨p, vs, e1, s, t'⟩ := tup_rep hr (.tup z t)
    cases e1
    exact .inr (.inl ⟨vs, s, isEmpty_reps t'⟩)
  | pt z k t =>
    cases e
    obtain ⟨p, vs, e1, s, t'⟩ := tupOf_rep hr (.pt z k t) rfl
    cases e1
    exact .inr (.inl ⟨vs, s, isEmpty_reps t'⟩)
  | lst z t => exact seq rfl (by cases e; rfl)
  | scr z t => exact seq rfl (by cases e; rfl)
  | @ref n a q =>
    have hn : n < G.length := by rw [← hr.len]; exact (List.getElem?_eq_some_iff.mp q).1
    have c := hr.cell n a G[n] q (by simp [hn])
    have e' : (match G[n]? with | some (.lst xs) => some (!xs.isEmpty) | some (.dK xs) => some (!xs.isEmpty) | _ => none) = some k := e
    rw [List.getElem?_eq_getElem hn] at e'
    cases k' : G[n] with
    | lst xs =>
      rw [k'] at e'; cases e'
      exact seq (by rw [lstOf_ref, List.getElem?_eq_getElem hn, k']) rfl
    | dK xs =>
      rw [k'] at e' c; cases e'
      cases c with
      | dK h1 h2 h3 =>
        refine .inr (.inr ⟨_, h1, ?_⟩)
        have hl := congrArg List.length h2
        simp only [List.length_map] at hl
        rename_i kvs
        cases xs <;> cases kvs <;> simp at hl ⊢
    | _ => rw [k'] at e'; cases e'
  | _ => cases e
def eTru (f : FE) : FT := fun δ G => (f δ G).bind fun d G1 => match truD G1 d with
  | some b => .ok b G1
  | none => .no
theorem xt_tru {e : Expr} {f : FE} (h : xE X W e f) (he : ∀ whole, isTrue e X.env whole = (do let v ← whole; standAt e.pos; holding [v] (truthy v)) := by intro _; rfl) : xT X W e (eTru f) :=
  PTimp (pt_truth h he) fun σ H Q ⟨L, δ, G, hr, er, q⟩ => Sat.bind (rep' := repB) hr er q fun L1 G1 H1 x v le hr1 er1 rx q1 => by
    cases e' : truD G1 x with
    | none => rw [e'] at q1; exact q1.elim
    | some b =>
      rw [e'] at q1
      exact ⟨b, truD_rep hr1 rx e', q1 L1 H1 b (.refl _) hr1 rfl⟩
def eIf (t : FT) (f g : FE) : FE := fun δ G => (t δ G).bind fun k G1 => if k then f δ G1 else g δ G1
def sNext : FS := fun δ G => .nx δ G
def sSeq (f g : FS) : FS := fun δ G => (f δ G).seq g
def sRet (f : FE) : FS := fun δ G => (f δ G).thn δ fun d G1 => .rt d G1
def sRetN : FS := fun _ G => .rt .non G
def sIf (t : FT) (f g : FS) : FS := fun δ G => (t δ G).thn δ fun k G1 => if k then f δ G1 else g δ G1
def sSet (i : Nat) (f : FE) : FS := fun δ G => (f δ G).thn δ fun d G1 => .nx (δ.set i (some d)) G1
def sDrop (f : FE) : FS := fun δ G => (f δ G).thn δ fun _ G1 => .nx δ G1
def sBreak : FS := fun δ G => .bk δ G
def sCont : FS := fun δ G => .ct δ G
variable {st : Stmt} {sts : List Stmt} {s1 s2 : FS}
theorem xs_nil : xSs X W [] sNext := PSsimp pss_nil fun E σ H ⟨L, δ, G, hr, er, q⟩ => q L σ H (.refl _) hr er
theorem xs_cons (h : xS X W st s1) (t : xSs X W sts s2) : xSs X W (st :: sts) (sSeq s1 s2) :=
  PSsimp (pss_cons h t) fun E σ H ⟨L, δ, G, hr, er, q⟩ => by
    refine ⟨L, δ, G, hr, er, ?_⟩
    have q' : SatS X.K W L ((s1 δ G).seq s2) E := q
    cases e : s1 δ G with
    | nx δ1 G1 =>
      rw [e] at q'
      exact fun L1 σ1 H1 le hr1 er1 => ⟨L1, δ1, G1, hr1, er1, SatS.mono (L := L) (r := s2 δ1 G1) q' le⟩
    | _ => rw [e] at q'; exact q'
theorem xs_one (h : xS X W st s1) : xSs X W [st] s1 := pss_one h
theorem xs_expr {e : Expr} {f : FE} (h : xE X W e f) (hs : swapsWith e none pos.line X.env = pure false := by rfl) : xS X W (.Expr e pos) (sDrop f) :=
  PSimp (ps_expr h hs) fun E σ H ⟨L, δ, G, hr, er, q⟩ => Sat.thn hr er q fun L1 G1 H1 d v le hr1 er1 rd q1 => q1 L1 σ H1 (.refl _) hr1 er1
theorem xs_ret {e : Expr} {f : FE} (h : xE X W e f) : xS X W (.Return (some e) pos) (sRet f) :=
  PSimp (ps_ret h) fun E σ H ⟨L, δ, G, hr, er, q⟩ => Sat.thn hr er q fun L1 G1 H1 d v le hr1 er1 rd q1 => q1 L1 H1 v (.refl _) hr1 rd
theorem xs_if {t : FT} {ts es : List Stmt} (h : xT X W c t) (h1 : xSs X W ts s1) (h2 : xSs X W es s2) : xS X W (.If c ts es pos) (sIf t s1 s2) :=
  PSimp (ps_if h h1 h2) fun E σ H ⟨L, δ, G, hr, er, q⟩ => Sat.thn hr er q fun L1 G1 H1 x v le hr1 er1 rx q1 => by
    have rx' : x = v := rx
    subst rx'
    cases x with
    | true => rw [if_pos rfl]; exact ⟨L1, δ, G1, hr1, er1, q1⟩
    | false => rw [if_neg Bool.false_ne_true]; exact ⟨L1, δ, G1, hr1, er1, q1⟩
abbrev FG := D → DEnv → GH → RS
def tGt (K : PySem.W.Frag) (vs : List Nat) (g : FG) : TG := fun v σ H Q => ∃ L d δ G, HR K L G H ∧ ER K L δ σ ∧ Rep K L.Z L.r d v ∧ (match g d δ G with
  | .nx δ' G' => ∀ L' σ' H', L.le L' → HR K L' G' H' → ER K L' δ' σ' → wipe σ' vs = wipe σ vs → Q σ' H'
  | _ => False)
def xG (X : Cx) (vs : List Nat) (t : Expr) (g : FG) : Prop := PG X t (tGt X.K vs g)
theorem PGimp {X : Cx} {e : Expr} {t t' : TG} (h : PG X e t) (i : ∀ v σ H Q, t' v σ H Q → t v σ H Q) : PG X e t' := ⟨fun pins s σ H v u Q I r q => h.run pins s σ H v u Q I r (i _ _ _ _ q)⟩
theorem wipe_set {σ : St} {i : Nat} {x : Option V} : ∀ {vs : List Nat}, i ∈ vs → wipe (σ.set i x) vs = wipe σ vs
  | [], h => by cases h
  | v :: vs, h => by
    unfold wipe
    by_cases e : i ∈ vs
    · rw [wipe_set e]
    · have hv : i = v := (List.mem_cons.mp h).resolve_right e
      subst hv
      have key : ∀ {us : List Nat} {τ : St}, i ∉ us → wipe (τ.set i x) us = (wipe τ us).set i x := by
        intro us
        induction us with
        | nil => intro τ _; rfl
        | cons u us ih =>
          intro τ hu
          unfold wipe
          rw [ih fun z => hu (List.mem_cons_of_mem _ z)]
          exact List.set_comm _ _ fun z => hu (by rw [z]; exact List.mem_cons_self ..)
      rw [key e, List.set_set]
def gNm (i : Nat) : FG := fun d δ G => .nx (δ.set i (some d)) G
theorem xg_name {i : Nat} {x : Str} {vs : List Nat} (hN : X.N.Nodup) (hi : X.N[i]? = some x) (hx : Loc X.env.scope x) (hv : i ∈ vs := by decide) (hf : X.fn x = true ∨ X.env.scope.names.lookup x = some .local := by first | exact .inl rfl | exact .inr rfl | assumption) : xG X vs (.Name x pos) (gNm i) :=
  PGimp (pg_name hN hi hx hf) fun v σ H Q ⟨L, d, δ, G, hr, er, rd, q⟩ => q L _ H (.refl _) hr (er.set i rd) (wipe_set hv)
abbrev FGs := List D → DEnv → GH → RS
def tGts (K : PySem.W.Frag) (us : List Nat) (g : FGs) : TGs := fun vs σ H Q => ∃ L ds δ G, HR K L G H ∧ ER K L δ σ ∧ Reps K L.Z L.r ds vs ∧ (match g ds δ G with
  | .nx δ' G' => ∀ L' σ' H', L.le L' → HR K L' G' H' → ER K L' δ' σ' → wipe σ' us = wipe σ us → Q σ' H'
  | _ => False)
def xGs (X : Cx) (us : List Nat) (t : List Expr) (g : FGs) : Prop := PGs X t (tGts X.K us g)
theorem PGsimp {X : Cx} {e : List Expr} {t t' : TGs} (h : PGs X e t) (i : ∀ v σ H Q, t' v σ H Q → t v σ H Q) : PGs X e t' := ⟨fun pins s σ H v u Q I r q => h.run pins s σ H v u Q I r (i _ _ _ _ q)⟩
def gsNil : FGs := fun ds δ G => match ds with
  | [] => .nx δ G
  | _ => .no
def gsCons (g : FG) (k : FGs) : FGs := fun ds δ G => match ds with
  | d :: r => (g d δ G).seq (k r)
  | [] => .no
variable {us : List Nat}
theorem xgs_nil : xGs X us [] gsNil := PGsimp pgs_nil fun vs σ H Q ⟨L, ds, δ, G, hr, er, rd, q⟩ => by
  cases rd with
  | nil => exact ⟨rfl, q L σ H (.refl _) hr er rfl⟩
  | cons _ _ => exact q.elim
theorem xgs_cons {e : Expr} {es : List Expr} {g : FG} {k : FGs} (h : xG X us e g) (t : xGs X us es k) (hs : (assignEach (e :: es) X.env).map (·.2) = assign e X.env :: (assignEach es X.env).map (·.2) := by rfl) : xGs X us (e :: es) (gsCons g k) :=
  PGsimp (pgs_cons h t hs) fun vs σ H Q ⟨L, ds, δ, G, hr, er, rd, q⟩ => by
    cases rd with
    | nil => exact q.elim
    | @cons d v ds vs r rs =>
      refine ⟨v, vs, rfl, L, d, δ, G, hr, er, r, ?_⟩
      have q' : (match (g d δ G).seq (k ds) with | .nx δ' G' => ∀ L' σ' H', L.le L' → HR X.K L' G' H' → ER X.K L' δ' σ' → wipe σ' us = wipe σ us → Q σ' H' | _ => False) := q
      cases e : g d δ G with
      | nx δ1 G1 =>
        rw [e] at q'
        have q2 : (match k ds δ1 G1 with | .nx δ' G' => ∀ L' σ' H', L.le L' → HR X.K L' G' H' → ER X.K L' δ' σ' → wipe σ' us = wipe σ us → Q σ' H' | _ => False) := q'
        intro L1 σ1 H1 le hr1 er1 w1
        refine ⟨L1, ds, δ1, G1, hr1, er1, rs.mono le, ?_⟩
        cases e2 : k ds δ1 G1 with
        | nx δ2 G2 => rw [e2] at q2; exact fun L2 σ2 H2 le2 hr2 er2 w2 => q2 L2 σ2 H2 (le.trans le2) hr2 er2 (w2.trans w1)
        | _ => rw [e2] at q2; exact q2.elim
      | _ => rw [e] at q'; exact q'.elim
def gTp (n : Nat) (k : FGs) : FG := fun d δ G => match d with
  | .tup ds => if ds.length = n then k ds δ G else .no
  | _ => .no
theorem xg_tup {es : List Expr} {kk : Nat} {k : FGs} {n : Nat} (hc : X.calm = true) (h : xGs X us es k) (hn : (assignEach es X.env).length = n := by rfl) (hst : (assignEach es X.env).findIdx? (·.1) = none := by rfl) : xG X us (.Tuple es kk pos) (gTp n k) :=
  PGimp (pg_tup hc h hn hst) fun v σ H Q ⟨L, d, δ, G, hr, er, rd, q⟩ => by
    cases rd with
    | @tup p vs ds z t =>
      obtain ⟨p', vs', e1, s, t'⟩ := tup_rep hr (.tup z t)
      cases e1
      have q' : (match (if ds.length = n then k ds δ G else .no) with | .nx δ' G' => ∀ L' σ' H', L.le L' → HR X.K L' G' H' → ER X.K L' δ' σ' → wipe σ' us = wipe σ us → Q σ' H' | _ => False) := q
      by_cases hl : ds.length = n
      · rw [if_pos hl] at q'
        exact ⟨p, vs', rfl, s, by rw [← Reps.length t']; exact hl, L, ds, δ, G, hr, er, t', q'⟩
      · rw [if_neg hl] at q'; exact q'.elim
    | _ => exact q.elim
def sAsg (f : FE) (g : FG) : FS := fun δ G => (f δ G).thn δ fun d G1 => match g d δ G1 with
  | .nx δ' G' => .nx δ' G'
  | _ => .no
theorem xs_asg {tg e : Expr} {f : FE} {g : FG} (he : xE X W e f) (hg : xG X us tg g) (hs : swapsWithSole [tg] e pos.line X.env = pure false := by rfl) (hw : swappedStores [tg] e X.env = pure none := by rfl)
    (h1 : (assignEach [tg] X.env).map (·.2) = [assign tg X.env] := by rfl) : xS X W (.Assign [tg] e pos) (sAsg f g) :=
  PSimp (ps_asg he hg hs hw h1) fun E σ H ⟨L, δ, G, hr, er, q⟩ => Sat.thn hr er q fun L1 G1 H1 d v le hr1 er1 rd q1 => by
    refine ⟨L1, d, δ, G1, hr1, er1, rd, ?_⟩
    cases e : g d δ G1 with
    | nx δ' G' => rw [e] at q1; exact fun L' σ' H' le hr er _ => q1 L' σ' H' le hr er
    | _ => rw [e] at q1; exact q1.elim
theorem xs_set {i : Nat} {x : Str} {e : Expr} {p : Pos} {f : FE} (hN : X.N.Nodup) (hi : X.N[i]? = some x) (hx : Loc X.env.scope x) (he : xE X W e f)
    (hf : X.fn x = true ∨ X.env.scope.names.lookup x = some .local := by first | exact .inl rfl | exact .inr rfl | assumption) (hs : swapsWithSole [.Name x p] e pos.line X.env = pure false := by rfl)
    (hw : swappedStores [.Name x p] e X.env = pure none := by rfl) : xS X W (.Assign [.Name x p] e pos) (sSet i f) := xs_asg he (xg_name (vs := [i]) hN hi hx (List.mem_singleton.mpr rfl) hf) hs hw rfl
end
end CF
end
section
set_option maxRecDepth 100000
set_option maxHeartbeats 1000000
namespace CF
open PySem PySem.Spec PyProof.Rows L2
mutual
def D.py : D → Option PyData
  | .non => some .none
  | .bl b => some (.bool b)
  | .int i => some (.int i)
  | .str x => if PyData.strOk x then some (.str x) else none
  | .tup xs => match D.pyAll xs with
    | some ys => some (.tuple ys)
    | none => none
  | .pt xs => match D.pyAll xs with
    | some ys => some (.tuple ys)
    | none => none
  | .lst xs => match D.pyAll xs with
    | some ys => some (.list ys)
    | none => none
  | .scr xs => match D.pyAll xs with
    | some ys => some (.list ys)
    | none => none
  | .dK _ => none
  | .dT _ _ => none
  | .ins _ _ => none
  | .exc _ _ _ _ => none
  | .ref _ => none
def D.pyAll : List D → Option (List PyData)
  | [] => some []
  | x :: r => match D.py x, D.pyAll r with
    | some y, some ys => some (y :: ys)
    | _, _ => none
end
def res (G : GH) : D → D
  | .ref n => match G[n]? with
    | some (.lst xs) => .lst xs
    | _ => .ref n
  | d => d
@[simp] theorem res_pt (G : GH) (xs : List D) : res G (.pt xs) = .pt xs := rfl
@[simp] theorem res_tup (G : GH) (xs : List D) : res G (.tup xs) = .tup xs := rfl
@[simp] theorem res_lst (G : GH) (xs : List D) : res G (.lst xs) = .lst xs := rfl
@[simp] theorem res_int (G : GH) (x : Int) : res G (.int x) = .int x := rfl
@[simp] theorem res_str (G : GH) (x : Str) : res G (.str x) = .str x := rfl
@[simp] theorem res_bl (G : GH) (x : Bool) : res G (.bl x) = .bl x := rfl
@[simp] theorem res_non (G : GH) : res G .non = .non := rfl
theorem lay_shaped {d : PyData} (h : d.canLay0 = true) (k : d.depth ≤ 64) : SeqAt.shaped d = true := by
  unfold SeqAt.shaped
  rw [h, decide_eq_true k]; rfl
section
variable {K : PySem.W.Frag} {L : Lk} {G : GH} {H : Hp}
mutual
theorem py_rep (hr : HR K L G H) : ∀ (x : D) (v : V) (d : PyData), Rep K L.Z L.r x v → x.py = some d → Dp K H v d ∧ d.canLay0 = true
  | .non, _, _, h, e => by cases h; cases e; exact ⟨.non, rfl⟩
  | .bl b, _, _, h, e => by cases h; cases e; exact ⟨.bl b, rfl⟩
  | .int i, _, _, h, e => by cases h; cases e; exact ⟨.int i, rfl⟩
  | .str x, _, _, h, e => by
    cases h
    rw [D.py] at e
    by_cases k : PyData.strOk x = true
    · rw [if_pos k] at e; cases e; exact ⟨.str x, by rw [PyData.canLay0]; exact k⟩
    · rw [if_neg k] at e; cases e
  | .tup xs, _, _, h, e => by
    rw [D.py] at e
    cases q : D.pyAll xs with
    | none => rw [q] at e; cases e
    | some ys =>
      rw [q] at e; cases e
      obtain ⟨p, vs, rfl, s, t⟩ := tup_rep hr h
      obtain ⟨a, b⟩ := pyAll_rep hr xs vs ys t q
      exact ⟨.tup s a, by rw [PyData.canLay0]; exact b⟩
  | .pt xs, _, _, h, e => by
    rw [D.py] at e
    cases q : D.pyAll xs with
    | none => rw [q] at e; cases e
    | some ys =>
      rw [q] at e; cases e
      obtain ⟨p, vs, rfl, s, t⟩ := tupOf_rep (ds := xs) hr h rfl
      obtain ⟨a, b⟩ := pyAll_rep hr xs vs ys t q
      exact ⟨.tup s a, by rw [PyData.canLay0]; exact b⟩
  | .lst xs, _, _, h, e => by
    rw [D.py] at e
    cases q : D.pyAll xs with
    | none => rw [q] at e; cases e
    | some ys =>
      rw [q] at e; cases e
      obtain ⟨p, vs, rfl, s, t⟩ := lst_rep (ds := xs) hr h rfl
      obtain ⟨a, b⟩ := pyAll_rep hr xs vs ys t q
      exact ⟨.lst s a, by rw [PyData.canLay0]; exact b⟩
  | .scr xs, _, _, h, e => by
    rw [D.py] at e
    cases q : D.pyAll xs with
    | none => rw [q] at e; cases e
    | some ys =>
      rw [q] at e; cases e
      obtain ⟨p, vs, rfl, s, t⟩ := lst_rep (ds := xs) hr h rfl
      obtain ⟨a, b⟩ := pyAll_rep hr xs vs ys t q
      exact ⟨.lst s a, by rw [PyData.canLay0]; exact b⟩
  | .dK _, _, _, _, e => by rw [D.py] at e; cases e
  | .dT _ _, _, _, _, e => by rw [D.py] at e; cases e
  | .ins _ _, _, _, _, e => by rw [D.py] at e; cases e
  | .exc _ _ _ _, _, _, _, e => by rw [D.py] at e; cases e
  | .ref _, _, _, _, e => by rw [D.py] at e; cases e
theorem pyAll_rep (hr : HR K L G H) : ∀ (xs : List D) (vs : List V) (ds : List PyData), Reps K L.Z L.r xs vs → D.pyAll xs = some ds → DpAll K H vs ds ∧ PyData.canLayAll0 ds = true
  | [], _, _, h, e => by cases h; rw [D.pyAll] at e; cases e; exact ⟨.nil, rfl⟩
  | x :: r, _, _, h, e => by
    cases h with
    | cons h1 h2 =>
      rw [D.pyAll] at e
      cases q1 : D.py x with
      | none => rw [q1] at e; cases e
      | some y =>
        cases q2 : D.pyAll r with
        | none => rw [q1, q2] at e; cases e
        | some ys =>
          rw [q1, q2] at e; cases e
          obtain ⟨a, b⟩ := py_rep hr x _ y h1 q1
          obtain ⟨c, d⟩ := pyAll_rep hr r _ ys h2 q2
          exact ⟨.cons a c, by rw [PyData.canLayAll0, b, d]; rfl⟩
end
theorem res_rep (hr : HR K L G H) {x : D} {v : V} {d : PyData} (h : Rep K L.Z L.r x v) (e : (res G x).py = some d) : Dp K H v d ∧ d.canLay0 = true := by
  cases h with
  | @ref n a q =>
    have hn : n < G.length := by rw [← hr.len]; exact (List.getElem?_eq_some_iff.mp q).1
    have e' : (match G[n]? with | some (.lst xs) => D.lst xs | _ => .ref n).py = some d := e
    rw [List.getElem?_eq_getElem hn] at e'
    cases k : G[n] with
    | lst xs =>
      rw [k] at e'
      have e2 : (D.lst xs).py = some d := e'
      rw [D.py] at e2
      cases z : D.pyAll xs with
      | none => rw [z] at e2; cases e2
      | some ys =>
        rw [z] at e2; cases e2
        obtain ⟨p, vs, ev, s, t⟩ := lst_rep (ds := xs) hr (.ref q) (by rw [lstOf_ref, List.getElem?_eq_getElem hn, k])
        obtain ⟨a', b⟩ := pyAll_rep hr xs vs ys t z
        rw [ev]
        exact ⟨.lst s a', by rw [PyData.canLay0]; exact b⟩
    | _ =>
      rw [k] at e'
      have e2 : (D.ref n).py = some d := e'
      rw [D.py] at e2
      cases e2
  | non => exact py_rep hr _ _ _ .non e
  | bl b => exact py_rep hr _ _ _ (.bl b) e
  | int b => exact py_rep hr _ _ _ (.int b) e
  | str b => exact py_rep hr _ _ _ (.str b) e
  | tup z t => exact py_rep hr _ _ _ (.tup z t) e
  | pt z k t => exact py_rep hr _ _ _ (.pt z k t) e
  | lst z t => exact py_rep hr _ _ _ (.lst z t) e
  | scr z t => exact py_rep hr _ _ _ (.scr z t) e
  | dK z k t => exact py_rep hr _ _ _ (.dK z k t) e
  | dT z x k t => exact py_rep hr _ _ _ (.dT z x k t) e
  | ins z k t => exact py_rep hr _ _ _ (.ins z k t) e
  | exc z k t => exact py_rep hr _ _ _ (.exc z k t) e
end
def pyEq (G : GH) (x y : D) : Option Bool := match (res G x).py, (res G y).py with
  | some d, some e => if d.depth ≤ 64 ∧ e.depth ≤ 64 then some (PyData.eqv d e) else none
  | _, _ => none
def dEq : F2 := fun x y G => match pyEq G x y with
  | some b => .ok (.bl b) G
  | none => .no
def dNe : F2 := fun x y G => match pyEq G x y with
  | some b => .ok (.bl (!b)) G
  | none => .no
section
variable {X : Cx}
theorem pyEq_rep {K : PySem.W.Frag} {L : Lk} {G : GH} {H : Hp} (hr : HR K L G H) {x y : D} {v u : V} {b : Bool} (rx : Rep K L.Z L.r x v) (ry : Rep K L.Z L.r y u) (e : pyEq G x y = some b) :
    ∃ d d', Dp K H v d ∧ Dp K H u d' ∧ SeqAt.shaped d = true ∧ SeqAt.shaped d' = true ∧ PyData.eqv d d' = b := by
  unfold pyEq at e
  cases q1 : (res G x).py with
  | none => rw [q1] at e; cases e
  | some d =>
    cases q2 : (res G y).py with
    | none => rw [q1, q2] at e; cases e
    | some d' =>
      rw [q1, q2] at e
      have e' : (if d.depth ≤ 64 ∧ d'.depth ≤ 64 then some (PyData.eqv d d') else none) = some b := e
      by_cases k : d.depth ≤ 64 ∧ d'.depth ≤ 64
      · rw [if_pos k] at e'
        obtain ⟨a1, b1⟩ := res_rep hr rx q1
        obtain ⟨a2, b2⟩ := res_rep hr ry q2
        exact ⟨d, d', a1, a2, lay_shaped b1 k.1, lay_shaped b2 k.2, Option.some.inj e'⟩
      · rw [if_neg k] at e'; cases e'
theorem o2_eq {K : PySem.W.Frag} : Op2 K dEq (rEqD K) := fun L G H x y v u W σ Q hr rx ry q => by
  unfold dEq at q
  cases e : pyEq G x y with
  | none => rw [e] at q; exact q.elim
  | some b =>
    rw [e] at q
    obtain ⟨d, d', h1, h2, h3, h4, h5⟩ := pyEq_rep hr rx ry e
    refine ⟨d, d', h1, h2, h3, h4, ?_⟩
    rw [h5]
    exact q L H _ (.refl L) hr (.bl b)
theorem o2_ne {K : PySem.W.Frag} : Op2 K dNe (rNeD K) := fun L G H x y v u W σ Q hr rx ry q => by
  unfold dNe at q
  cases e : pyEq G x y with
  | none => rw [e] at q; exact q.elim
  | some b =>
    rw [e] at q
    obtain ⟨d, d', h1, h2, h3, h4, h5⟩ := pyEq_rep hr rx ry e
    refine ⟨d, d', h1, h2, h3, h4, ?_⟩
    rw [h5]
    exact q L H _ (.refl L) hr (.bl (!b))
def dI (c : Int → Int → Bool) (f : Int → Int → Int) : F2 := fun x y G => match x, y with
  | .int i, .int j => if c i j then .ok (.int (f i j)) G else .no
  | _, _ => .no
theorem o2_int {K : PySem.W.Frag} {C : Int → Int → Prop} {c : Int → Int → Bool} {f : Int → Int → Int} (h : ∀ i j, c i j = true → C i j) : Op2 K (dI c f) (rI C fun i j => .int (f i j)) := fun L G H x y v u W σ Q hr rx ry q => by
  cases rx with
  | int i =>
    cases ry with
    | int j =>
      have q' : Sat K W L σ (repD K) (if c i j then .ok (.int (f i j)) G else .no) Q := q
      by_cases k : c i j = true
      · rw [if_pos k] at q'
        exact ⟨i, j, rfl, rfl, h i j k, q' L H _ (.refl L) hr (.int _)⟩
      · rw [if_neg k] at q'; exact q'.elim
    | _ => exact q.elim
  | _ => cases ry <;> exact q.elim
def dIB (f : Int → Int → Bool) : F2 := fun x y G => match x, y with
  | .int i, .int j => .ok (.bl (f i j)) G
  | _, _ => .no
theorem o2_intB {K : PySem.W.Frag} {f : Int → Int → Bool} : Op2 K (dIB f) (rI0 fun i j => .bl (f i j)) := fun L G H x y v u W σ Q hr rx ry q => by
  cases rx with
  | int i =>
    cases ry with
    | int j => exact ⟨i, j, rfl, rfl, q L H _ (.refl L) hr (.bl _)⟩
    | _ => exact q.elim
  | _ => cases ry <;> exact q.elim
abbrev dSub : F2 := dI (fun _ _ => true) (· - ·)
abbrev dMulI : F2 := dI (fun i j => decide (-(2 ^ 64) < i ∧ i < 2 ^ 64 ∨ -(2 ^ 64) < j ∧ j < 2 ^ 64)) (· * ·)
abbrev dMod : F2 := dI (fun _ j => decide (0 < j)) (· % ·)
abbrev dDiv : F2 := dI (fun _ j => decide (0 < j ∧ j < 2 ^ 64)) (· / ·)
abbrev dPow : F2 := dI (fun i j => decide (0 ≤ j ∧ j ≤ 1000000 ∧ i.natAbs < 2 ^ 64)) (fun i j => i ^ j.toNat)
abbrev dLt : F2 := dIB fun i j => decide (i < j)
abbrev dLe : F2 := dIB fun i j => decide (i ≤ j)
abbrev dGt : F2 := dIB fun i j => decide (j < i)
abbrev dGe : F2 := dIB fun i j => decide (j ≤ i)
theorem opr_sub : OpR X (binaryOp .Sub) (rI (fun _ _ => True) fun i j => .int (i - j)) := opI fun _ _ _ _ _ _ _ _ q => sub_int q
theorem o2_sub {K : PySem.W.Frag} : Op2 K dSub (rI (fun _ _ => True) fun i j => .int (i - j)) := o2_int fun _ _ _ => True.intro
theorem o2_mod {K : PySem.W.Frag} : Op2 K dMod (rI (fun _ j => 0 < j) fun i j => .int (i % j)) := o2_int fun _ _ h => of_decide_eq_true h
theorem o2_div {K : PySem.W.Frag} : Op2 K dDiv (rI CDivW fun i j => .int (i / j)) := o2_int fun i j h => by
  have h := of_decide_eq_true h
  exact wide_div (b := 64) h.1 (by omega) (by decide) (by decide)
theorem o2_pow {K : PySem.W.Frag} : Op2 K dPow (rI CPow fun i j => .int (i ^ j.toNat)) := o2_int fun i j h => (of_decide_eq_true h : 0 ≤ j ∧ j ≤ 1000000 ∧ i.natAbs < 2 ^ 64)
def dAdd (mk : List D → GH → R D) : F2 := fun x y G => match x, y with
  | .int i, .int j => .ok (.int (i + j)) G
  | .str a, .str b => if a.length + b.length ≤ sizeLine then .ok (.str (a ++ b)) G else .no
  | .tup a, .tup b => if a.length + b.length ≤ sizeLine then .ok (.tup (a ++ b)) G else .no
  | .pt a, .pt b => if a.length + b.length ≤ sizeLine then .ok (.pt (a ++ b)) G else .no
  | x, y => match lstX G x, lstX G y with
    | some a, some b => if a.length + b.length ≤ sizeLine then mk (a ++ b) G else .no
    | _, _ => .no
def Mk (mk : List D → GH → R D) : Prop := ∀ (K : PySem.W.Frag) (L : Lk) (G : GH) (H : Hp) (ds : List D) (vs : List V) (p : Addr) (W : WX) (σ : St) (Q : VK), HR K L G H → Reps K L.Z L.r ds vs → H p = none → Sat K W L σ (repD K) (mk ds G) Q → Q (.ref p) (upd H p (.lst vs))
def mkF : List D → GH → R D := fun ds G => .ok (.lst ds) G
def mkM : List D → GH → R D := fun ds G => .ok (.ref G.length) (G ++ [.lst ds])
theorem mkF_ok : Mk mkF := fun K L G H ds vs p W σ Q hr r hp q => let ⟨a, b, c⟩ := put_lst r hr hp; q _ _ _ b a c
theorem mkM_ok : Mk mkM := fun K L G H ds vs p W σ Q hr r hp q => let ⟨a, b, c⟩ := add_lst r hr hp; q _ _ _ b a c
def rCatP : R2 := fun x y H Q => ∃ a b xs ys o o', x = .ref a ∧ y = .ref b ∧ H a = some (.frz o (.tup xs)) ∧ H b = some (.frz o' (.tup ys)) ∧ xs ≠ [] ∧ ys ≠ [] ∧ xs.length + ys.length ≤ sizeLine ∧
  ∀ p o2, H p = none → o2.dict = none → Q (.ref p) (upd H p (.frz o2 (.tup (xs ++ ys))))
theorem op_catP : OpR X (binaryOp .Add) rCatP := by
  intro pins s σ H x y v u Q I rx ry ⟨a, b, xs, ys, o, o', ex, ey, ha, hb, nx, ny, hz, q⟩
  subst ex ey
  cases rx
  cases ry
  obtain ⟨its, r1, p1, _⟩ := I.tuple (xs := xs) (.inl (.inr ⟨o, ha⟩))
  obtain ⟨its2, r2, p2, _⟩ := I.tuple (xs := ys) (.inl (.inr ⟨o', hb⟩))
  refine HT.cat_tup p1 p2 (fun z => nx (r1.nil_iff.mp z)) (fun z => absurd (r2.nil_iff.mp z) ny) (fun z => ?_) (by rw [← r1.length, ← r2.length]; exact hz)
  exact ⟨.ref s.heap.objs.size, _, I.laid (t' := s.toks) (o := .frz { cls := .type "tuple", data := .seq (its ++ its2).toArray } (.tup (xs ++ ys))) (fun b ob q => Heap.get?_push_of_some _ q) (Nat.le_refl _)
    ⟨Heap.get?_push_size _ rfl, by rw [List.length_append]; exact hz, _, r1.append r2, IsTup.new _ _⟩, rfl, q _ _ (I.hok.fresh (Nat.le_refl _)) rfl⟩
def rAddA (K : PySem.W.Frag) : R2 := fun x y H Q => (((rI0 (fun i j => .int (i + j)) x y H Q ∨ (∃ i j, x = .str i ∧ y = .str j ∧ i.length + j.length ≤ sizeLine ∧ Q (.str (i ++ j)) H)) ∨ rCatA K x y H Q) ∨ rCat x y H Q) ∨ rCatP x y H Q
theorem opr_add : OpR X (binaryOp .Add) (rAddA X.K) := (((op_add.or op_add_str).or op_catA).or op_cat).or op_catP
theorem o2_add {K : PySem.W.Frag} {mk : List D → GH → R D} (m : Mk mk) : Op2 K (dAdd mk) (rAddA K) := fun L G H x y v u W σ Q hr rx ry q => by
  have lists : ∀ a b, lstX G x = some a → lstX G y = some b → Sat K W L σ (repD K) (if a.length + b.length ≤ sizeLine then mk (a ++ b) G else .no) Q → rAddA K v u H Q := fun a b e1 e2 q => by
    obtain ⟨p1, vs, rfl, h1, t1⟩ := lstX_rep hr rx e1
    obtain ⟨p2, us, rfl, h2, t2⟩ := lstX_rep hr ry e2
    by_cases k : a.length + b.length ≤ sizeLine
    · rw [if_pos k] at q
      exact .inl <| .inr ⟨p1, p2, vs, us, rfl, rfl, h1, h2, by rw [← Reps.length t1, ← Reps.length t2]; exact k, fun p hp => m K L G H _ _ p W σ Q hr (t1.append t2) hp q⟩
    · rw [if_neg k] at q; exact q.elim
  have gen : (∀ i j, ¬ (x = .int i ∧ y = .int j)) → (∀ i j, ¬ (x = .str i ∧ y = .str j)) → (∀ i j, ¬ (x = .tup i ∧ y = .tup j)) →
      Sat K W L σ (repD K) (match lstX G x, lstX G y with | some a, some b => if a.length + b.length ≤ sizeLine then mk (a ++ b) G else .no | _, _ => .no) Q → rAddA K v u H Q := fun _ _ _ q => by
    cases e1 : lstX G x with
    | none => rw [e1] at q; exact q.elim
    | some a =>
      cases e2 : lstX G y with
      | none => rw [e1, e2] at q; exact q.elim
      | some b => rw [e1, e2] at q; exact lists a b e1 e2 q
  cases x with
  | int i =>
    cases y with
    | int j => cases rx; cases ry; exact .inl <| .inl (.inl (.inl ⟨i, j, rfl, rfl, q L H _ (.refl L) hr (.int _)⟩))
    | _ => exact q.elim
  | str a =>
    cases y with
    | str b =>
      cases rx; cases ry
      have q' : Sat K W L σ (repD K) (if a.length + b.length ≤ sizeLine then .ok (.str (a ++ b)) G else .no) Q := q
      by_cases k : a.length + b.length ≤ sizeLine
      · rw [if_pos k] at q'
        exact .inl <| .inl (.inl (.inr ⟨a, b, rfl, rfl, k, q' L H _ (.refl L) hr (.str _)⟩))
      · rw [if_neg k] at q'; exact q'.elim
    | _ => exact q.elim
  | tup a =>
    cases y with
    | tup b =>
      have q' : Sat K W L σ (repD K) (if a.length + b.length ≤ sizeLine then .ok (.tup (a ++ b)) G else .no) Q := q
      by_cases k : a.length + b.length ≤ sizeLine
      · rw [if_pos k] at q'
        obtain ⟨p1, vs, rfl, s1, t1⟩ := tup_rep hr rx
        obtain ⟨p2, us, rfl, s2, t2⟩ := tup_rep hr ry
        refine .inl <| .inl (.inr ⟨p1, p2, vs, us, rfl, rfl, s1, s2, by rw [← Reps.length t1, ← Reps.length t2]; exact k, fun e => ?_, fun _ e => ?_, fun _ _ p hp => ?_⟩)
        · subst e
          cases t1
          exact q' L H _ (.refl L) hr ry
        · subst e
          cases t2
          rw [List.append_nil] at q'
          exact q' L H _ (.refl L) hr rx
        · obtain ⟨a', b', c'⟩ := put_tup (t1.append t2) hr hp
          exact q' _ _ _ b' a' c'
      · rw [if_neg k] at q'; exact q'.elim
    | _ => exact q.elim
  | pt a =>
    cases y with
    | pt b =>
      have q' : Sat K W L σ (repD K) (if a.length + b.length ≤ sizeLine then .ok (.pt (a ++ b)) G else .no) Q := q
      by_cases k : a.length + b.length ≤ sizeLine
      · rw [if_pos k] at q'
        have rx' : Rep K L.Z L.r (.pt a) v := rx
        have ry' : Rep K L.Z L.r (.pt b) u := ry
        cases rx' with
        | @pt p1 o1 vs _ z1 k1 t1 =>
          cases ry' with
          | @pt p2 o2 us _ z2 k2 t2 =>
            have h1 := (hr.z _ _ z1).frz
            have h2 := (hr.z _ _ z2).frz
            have hl : vs.length + us.length ≤ sizeLine := by rw [← Reps.length t1, ← Reps.length t2]; exact k
            cases t1 with
            | nil => exact .inl <| .inl (.inr ⟨p1, p2, [], us, rfl, rfl, .inl (.inr ⟨_, h1⟩), .inl (.inr ⟨_, h2⟩), hl, fun _ => q' L H _ (.refl L) hr ry, fun n => absurd rfl n, fun n => absurd rfl n⟩)
            | @cons a0 v0 _ _ ra ta =>
              cases t2 with
              | nil =>
                rw [List.append_nil] at q'
                exact .inl <| .inl (.inr ⟨p1, p2, _, [], rfl, rfl, .inl (.inr ⟨_, h1⟩), .inl (.inr ⟨_, h2⟩), hl, (fun e => nomatch e), fun _ _ => q' L H _ (.refl L) hr rx, fun _ n => absurd rfl n⟩)
              | @cons b0 u0 _ _ rb tb =>
                refine .inr ⟨p1, p2, _, _, o1, o2, rfl, rfl, h1, h2, (fun e => nomatch e), (fun e => nomatch e), hl, fun p o3 hp ho => ?_⟩
                obtain ⟨a', b', c'⟩ := put_pt (Reps.append (.cons ra ta) (.cons rb tb)) hr hp ho
                exact q' _ _ _ b' a' c'
      · rw [if_neg k] at q'; exact q'.elim
    | _ => exact q.elim
  | lst a => exact gen (by intro _ _ h; cases h.1) (by intro _ _ h; cases h.1) (by intro _ _ h; cases h.1) q
  | ref a => exact gen (by intro _ _ h; cases h.1) (by intro _ _ h; cases h.1) (by intro _ _ h; cases h.1) q
  | _ => exact q.elim
end
end CF
end
section
set_option maxRecDepth 100000
set_option maxHeartbeats 1000000
namespace CF
open PySem PySem.Spec PyProof.Rows L2
def lookK {κ : Type} [DecidableEq κ] (kvs : List (κ × D)) (k : κ) : Option D := (kvs.find? fun kv => decide (kv.1 = k)).map (·.2)
def keyD : D → Option Key
  | .int i => some (.inl i)
  | .str x => some (.inr x)
  | _ => none
@[simp] theorem keyD_int (i : Int) : keyD (.int i) = some (.inl i) := rfl
@[simp] theorem keyD_str (x : Str) : keyD (.str x) = some (.inr x) := rfl
def dKOf (G : GH) : D → Option (List (Key × D))
  | .dK kvs => some kvs
  | .ref n => match G[n]? with
    | some (.dK kvs) => some kvs
    | _ => none
  | _ => none
@[simp] theorem dKOf_dK (G : GH) (kvs : List (Key × D)) : dKOf G (.dK kvs) = some kvs := rfl
@[simp] theorem dKOf_lst (G : GH) (kvs : List D) : dKOf G (.lst kvs) = none := rfl
@[simp] theorem dKOf_tup (G : GH) (kvs : List D) : dKOf G (.tup kvs) = none := rfl
@[simp] theorem dKOf_str (G : GH) (kvs : Str) : dKOf G (.str kvs) = none := rfl
@[simp] theorem dKOf_scr (G : GH) (kvs : List D) : dKOf G (.scr kvs) = none := rfl
@[simp] theorem dKOf_ref (G : GH) (n : Nat) : dKOf G (.ref n) = match G[n]? with | some (.dK kvs) => some kvs | _ => none := rfl
section
variable {K : PySem.W.Frag} {L : Lk} {G : GH} {H : Hp} {d : D} {v : V}
theorem look_rep {κ : Type} [DecidableEq κ] {Z : Hp} {r : List Addr} (k : κ) : ∀ {kds : List (κ × D)} {kvs : List (κ × V)}, kds.map (·.1) = kvs.map (·.1) → Reps K Z r (kds.map (·.2)) (kvs.map (·.2)) →
    (∀ d, lookK kds k = some d → ∃ v, valV kvs k = some v ∧ Rep K Z r d v) ∧ (lookK kds k = none → valV kvs k = none)
  | [], [], _, _ => ⟨fun d e => (by simp [lookK] at e), fun _ => rfl⟩
  | [], _ :: _, e, _ => by simp at e
  | _ :: _, [], e, _ => by simp at e
  | (k1, d1) :: r1, (k2, v2) :: r2, e, t => by
    simp only [List.map_cons, List.cons.injEq] at e
    obtain ⟨e1, e2⟩ := e
    subst e1
    cases t with
    | cons h t =>
      obtain ⟨i1, i2⟩ := look_rep k e2 t
      by_cases hk : k1 = k
      · refine ⟨fun d q => ⟨v2, valV_pos hk, ?_⟩, fun q => ?_⟩
        · simp [lookK, List.find?_cons, hk] at q
          subst q; exact h
        · simp [lookK, List.find?_cons, hk] at q
      · have en : lookK ((k1, d1) :: r1) k = lookK r1 k := by simp [lookK, List.find?_cons, hk]
        rw [en, valV_neg hk]
        exact ⟨i1, i2⟩
theorem dK_rep (hr : HR K L G H) (h : Rep K L.Z L.r d v) {kds : List (Key × D)} (e : dKOf G d = some kds) :
    ∃ p kvs, v = .ref p ∧ Rd H p (.dK kvs) ∧ kds.map (·.1) = kvs.map (·.1) ∧ Reps K L.Z L.r (kds.map (·.2)) (kvs.map (·.2)) := by
  cases h with
  | dK z k t => cases e; exact ⟨_, _, rfl, (hr.z _ _ z).rd, k, t⟩
  | @ref n a q =>
    have hn : n < G.length := by rw [← hr.len]; exact (List.getElem?_eq_some_iff.mp q).1
    have c := hr.cell n a G[n] q (by simp [hn])
    rw [dKOf_ref, List.getElem?_eq_getElem hn] at e
    cases k : G[n] with
    | dK xs =>
      rw [k] at e c; cases e
      cases c with
      | dK h k t => exact ⟨_, _, rfl, .inl h, k, t⟩
    | _ => rw [k] at e; cases e
  | _ => cases e
theorem keyD_rep {Z : Hp} {r : List Addr} {k : Key} (h : Rep K Z r d v) (e : keyD d = some k) : v = kV k := by
  cases h with
  | int i => cases e; rfl
  | str x => cases e; rfl
  | _ => cases e
def dGetO (G : GH) (x y : D) : Option (Option D) := match dKOf G x, keyD y with
  | some kvs, some k => some (lookK kvs k)
  | _, _ => none
theorem dGetO_rep (hr : HR K L G H) {x y : D} {u w : V} {o : Option D} (rx : Rep K L.Z L.r x u) (ry : Rep K L.Z L.r y w) (e : dGetO G x y = some o) :
    ∃ p ov, u = .ref p ∧ DGet H p w ov ∧ ov.isSome = o.isSome ∧ ∀ d, o = some d → ∃ v, ov = some v ∧ Rep K L.Z L.r d v := by
  unfold dGetO at e
  cases e1 : dKOf G x with
  | none => rw [e1] at e; cases e
  | some kds =>
    cases e2 : keyD y with
    | none => rw [e1, e2] at e; cases e
    | some k =>
      rw [e1, e2] at e
      have e' := Option.some.inj e
      obtain ⟨p, kvs, rfl, hp, hk, t⟩ := dK_rep hr rx e1
      have ey := keyD_rep ry e2
      subst ey
      obtain ⟨i1, i2⟩ := look_rep k hk t
      refine ⟨p, valV kvs k, rfl, .inl ⟨kvs, k, hp, rfl, rfl⟩, ?_, fun d ed => ?_⟩
      · cases o with
        | none => rw [i2 e']; rfl
        | some d =>
          obtain ⟨v, q, _⟩ := i1 d e'
          rw [q]; rfl
      · subst ed
        exact i1 d e'
end
def dIx : F2 := fun x y G => match y with
  | .int i => (match x with
    | .tup xs => (match atI xs i with
      | some d => .ok d G
      | none => .no)
    | .pt xs => (match atI xs i with
      | some d => .ok d G
      | none => .no)
    | .str z => if z.length ≤ sizeLine then (match atI z.cps.toList i with
      | some c => .ok (.str ⟨#[c]⟩) G
      | none => .no) else .no
    | x => match lstOf G x with
      | some xs => (match atI xs i with
        | some d => .ok d G
        | none => .no)
      | none => match dGetO G x (.int i) with
        | some (some d) => .ok d G
        | _ => .no)
  | y => match dGetO G x y with
    | some (some d) => .ok d G
    | _ => .no
theorem reps_atI {K : PySem.W.Frag} {Z : Hp} {r : List Addr} {ds : List D} {vs : List V} {i : Int} {d : D} (t : Reps K Z r ds vs) (e : atI ds i = some d) : ∃ v, atI vs i = some v ∧ Rep K Z r d v := by
  unfold atI at e ⊢
  rw [← Reps.length t]
  cases q : ixN ds.length i with
  | none => rw [q] at e; cases e
  | some j =>
    rw [q] at e
    exact t.get e
def rDGetV : R2 := fun x y H Q => ∃ a v, x = .ref a ∧ DGet H a y (some v) ∧ Q v H
section
variable {X : Cx}
theorem ix_dict (hu : X.A.units + 1 < cLine) : IxR X rDGetV := by
  intro value slice pins s σ H x y v u Q I rx ry h hs
  obtain ⟨a, w, rfl, g, q⟩ := h
  cases rx
  have hT := dict_typeIs I g
  unfold subscriptTail
  refine wpAny_bind ?_
  rw [getitemInPython_of_ne hT.not_modules]
  refine wpAny_bind (wpAny_specialOf hT PySem.F.slot_dict_getitem.lookup ?_)
  have fin : wpAny (model X.prog X.w) X.A (subscripted slice false (.ref a) u) (fun r s₃ => wpAny (model X.prog X.w) X.A (letTemporaryGo value (.ref a) r >>= fun _ => pure r) (EP X pins σ Q) X.xe s₃) X.xe s := by
    rw [hs]
    exact wpAny_operating (wpAny_mono (d_getItem hu I g ry fun w' s3 I3 rw' => show EP X pins σ Q w' s3 from ⟨w, H, I3, rw', q⟩) (fun r s₃ h₃ => wpAny_bind (wpAny_letTemporaryGo (wpAny_pure h₃))) fun _ _ x => x)
  first
    | exact wpAny_pure (wpAny_bind fin)
    | exact wpAny_bind (wpAny_pure (wpAny_bind fin))
    | exact wpAny_bind fin
def rIxA (K : PySem.W.Frag) : R2 := fun x y H Q => rIx K x y H Q ∨ rDGetV x y H Q
theorem ix_all (hu : X.A.units + 1 < cLine) : IxR X (rIxA X.K) := ix_seq.or (ix_dict hu)
theorem o2_ix {K : PySem.W.Frag} : Op2 K dIx (rIxA K) := fun L G H x y v u W σ Q hr rx ry q => by
  have dd : ∀ {y'}, Rep K L.Z L.r y' u → Sat K W L σ (repD K) (match dGetO G x y' with | some (some d) => .ok d G | _ => .no) Q → rIxA K v u H Q := fun {y'} ry q => by
    cases e : dGetO G x y' with
    | none => rw [e] at q; exact q.elim
    | some o =>
      cases o with
      | none => rw [e] at q; exact q.elim
      | some d =>
        rw [e] at q
        obtain ⟨p, ov, rfl, g, _, k⟩ := dGetO_rep hr rx ry e
        obtain ⟨w, rfl, rw'⟩ := k d rfl
        exact .inr ⟨p, w, rfl, g, q L H w (.refl L) hr rw'⟩
  have sq : ∀ (xs : List D) (i : Int), y = .int i → lstOf G x = some xs → Sat K W L σ (repD K) (match atI xs i with | some d => .ok d G | none => .no) Q → rIxA K v u H Q := fun xs i ey e q1 => by
    subst ey
    cases ry
    obtain ⟨p, vs, rfl, s, t⟩ := lst_rep hr rx e
    cases e2 : atI xs i with
    | none => rw [e2] at q1; exact q1.elim
    | some d =>
      rw [e2] at q1
      obtain ⟨w, h1, h2⟩ := reps_atI t e2
      exact .inl (.inl ⟨p, vs, i, w, rfl, rfl, s, h1, q1 L H w (.refl L) hr h2⟩)
  cases y with
  | int i =>
    have gen : Sat K W L σ (repD K) (match lstOf G x with | some xs => (match atI xs i with | some d => .ok d G | none => .no) | none => match dGetO G x (.int i) with | some (some d) => .ok d G | _ => .no) Q → rIxA K v u H Q := fun q => by
      cases e : lstOf G x with
      | some xs => rw [e] at q; exact sq xs i rfl e q
      | none => rw [e] at q; exact dd ry q
    cases x with
    | pt xs =>
      cases ry
      obtain ⟨p, vs, rfl, s, t⟩ := tupOf_rep (ds := xs) hr rx rfl
      have q' : Sat K W L σ (repD K) (match atI xs i with | some d => .ok d G | none => .no) Q := q
      cases e2 : atI xs i with
      | none => rw [e2] at q'; exact q'.elim
      | some d =>
        rw [e2] at q'
        obtain ⟨w, h1, h2⟩ := reps_atI t e2
        exact .inl (.inr (.inl ⟨p, vs, i, w, rfl, rfl, s, h1, q' L H w (.refl L) hr h2⟩))
    | tup xs =>
      cases ry
      obtain ⟨p, vs, rfl, s, t⟩ := tup_rep hr rx
      have q' : Sat K W L σ (repD K) (match atI xs i with | some d => .ok d G | none => .no) Q := q
      cases e2 : atI xs i with
      | none => rw [e2] at q'; exact q'.elim
      | some d =>
        rw [e2] at q'
        obtain ⟨w, h1, h2⟩ := reps_atI t e2
        exact .inl (.inr (.inl ⟨p, vs, i, w, rfl, rfl, s, h1, q' L H w (.refl L) hr h2⟩))
    | str z =>
      cases rx
      cases ry
      have q' : Sat K W L σ (repD K) (if z.length ≤ sizeLine then (match atI z.cps.toList i with | some c => .ok (.str ⟨#[c]⟩) G | none => .no) else .no) Q := q
      by_cases k : z.length ≤ sizeLine
      · rw [if_pos k] at q'
        cases e2 : atI z.cps.toList i with
        | none => rw [e2] at q'; exact q'.elim
        | some c =>
          rw [e2] at q'
          exact .inl (.inr (.inr ⟨z, i, c, rfl, rfl, k, e2, q' L H _ (.refl L) hr (.str _)⟩))
      · rw [if_neg k] at q'; exact q'.elim
    | _ => exact gen q
  | _ => exact dd ry q
end
def eOpt : Option FE → DEnv → GH → R (Option Int)
  | none => fun _ G => .ok none G
  | some f => fun δ G => (f δ G).bind fun d G1 => match d with
    | .int i => .ok (some i) G1
    | _ => .no
def cutD {α : Type} (xs : List α) (lo hi : Option Int) : List α := (xs.drop (HT.sIx xs.length 0 lo)).take (HT.sIx xs.length xs.length hi - HT.sIx xs.length 0 lo)
def dSl (mk : List D → GH → R D) (x : D) (lo hi : Option Int) (G : GH) : R D := match x with
  | .tup xs => .ok (.tup (cutD xs lo hi)) G
  | .pt xs => .ok (.pt (cutD xs lo hi)) G
  | .str z => if z.length ≤ sizeLine then .ok (.str (cutS z lo hi)) G else .no
  | x => match lstOf G x with
    | some xs => mk (cutD xs lo hi) G
    | none => .no
def eSl (mk : List D → GH → R D) (f : FE) (lo hi : Option FE) : FE := fun δ G => (f δ G).bind fun x G1 => (eOpt lo δ G1).bind fun l G2 => (eOpt hi δ G2).bind fun h G3 => dSl mk x l h G3
theorem sIx_whole {α : Type} {xs : List α} {lo hi : Option Int} (h : HT.sIx xs.length 0 lo = 0 ∧ HT.sIx xs.length xs.length hi = xs.length) : cutD xs lo hi = xs := by
  unfold cutD
  rw [h.1, h.2]
  simp
section
variable {X : Cx} {W : WX} {pos p2 : Pos}
def repO : Lk → Option Int → Option Int → Prop := fun _ a b => a = b
inductive xO (X : Cx) (W : WX) : Option Expr → Option FE → Prop where
  | none : xO X W none none
  | some {e : Expr} {f : FE} (h : xE X W e f) : xO X W (some e) (some f)
theorem po_of {oe : Option Expr} {of : Option FE} (h : xO X W oe of) : PO X oe (tG X.K W repO (eOpt of)) := by
  cases h with
  | none => exact ⟨fun pins s σ H Q I ⟨L, δ, G, hr, er, q⟩ => po_none.run pins s σ H Q I (q L H none (.refl L) hr rfl)⟩
  | some h =>
    refine ⟨fun pins s σ H Q I ⟨L, δ, G, hr, er, q⟩ => (po_some h).run pins s σ H Q I ?_⟩
    refine Sat.bind (rep' := repO) hr er q fun L1 G1 H1 d v le hr1 er1 rd q1 => ?_
    cases rd with
    | int i => exact ⟨i, rfl, q1 L1 H1 _ (.refl _) hr1 rfl⟩
    | _ => exact q1.elim
def rSlP : V → Option Int → Option Int → Hp → VK → Prop := fun x lo hi H Q => ∃ a xs o, x = .ref a ∧ H a = some (.frz o (.tup xs)) ∧ ¬ (HT.sIx xs.length 0 lo = 0 ∧ HT.sIx xs.length xs.length hi = xs.length) ∧
  ∀ p o', H p = none → o'.dict = none → Q (.ref p) (upd H p (.frz o' (.tup (cutV xs lo hi))))
theorem sl_pt : SlR X rSlP := by
  intro pins s σ H x v vl vu lo hi sl Q I rx hs pl pu ⟨a, xs, o, ex, hx, hw, q⟩
  subst ex
  cases rx
  obtain ⟨its, r, ht, hz⟩ := I.tuple (xs := xs) (.inl (.inr ⟨o, hx⟩))
  have hlen : its.toArray.size = xs.length := by rw [List.size_toArray]; exact r.length.symm
  refine ⟨"tuple", _, PyProof.Rows.slot_tuple_getitem.lookup, ht.typeIs, HT.getItem_tuple_cut ht hs pl pu (by rw [hlen]; exact hw) ?_ (by rw [hlen]; exact hz)⟩
  rw [hlen]
  exact ⟨.ref s.heap.objs.size, _, I.laid (t' := s.toks) (o := .frz { cls := .type "tuple", data := .seq ((its.drop (HT.sIx xs.length 0 lo)).take (HT.sIx xs.length xs.length hi - HT.sIx xs.length 0 lo)).toArray } (.tup (cutV xs lo hi))) (fun b ob q => Heap.get?_push_of_some _ q) (Nat.le_refl _)
    ⟨Heap.get?_push_size _ rfl, Nat.le_trans (cutV_length xs lo hi) hz, _, (r.drop (HT.sIx xs.length 0 lo)).take (HT.sIx xs.length xs.length hi - HT.sIx xs.length 0 lo), IsTup.new _ _⟩, rfl, q _ _ (I.hok.fresh (Nat.le_refl _)) rfl⟩
def rSlAll (K : PySem.W.Frag) : V → Option Int → Option Int → Hp → VK → Prop := fun x lo hi H Q => ((rSlL K x lo hi H Q ∨ rSlA K x lo hi H Q) ∨ rSlS x lo hi H Q) ∨ rSlP x lo hi H Q
theorem xe_sl {e : Expr} {lo hi : Option Expr} {f : FE} {fl fh : Option FE} {mk : List D → GH → R D} (m : Mk mk) (h : xE X W e f) (hl : xO X W lo fl) (hh : xO X W hi fh) : xE X W (.Subscript e (.Slice lo hi none p2) pos) (eSl mk f fl fh) :=
  PEimp (pe_slice (r := rSlAll X.K) (((sl_list.or sl_tupA).or sl_str).or sl_pt) h (po_of hl) (po_of hh)) fun σ H Q ⟨L, δ, G, hr, er, q⟩ =>
    Sat.bind (rep' := repD X.K) hr er q fun L1 G1 H1 x v le hr1 er1 rx q1 => Sat.bind (rep' := repD X.K) hr1 er1 q1 fun L2 G2 H2 l l' le2 hr2 er2 rl q2 => Sat.bind (rep' := repD X.K) hr2 er2 q2 fun L3 G3 H3 u u' le3 hr3 er3 ru q3 => by
      have rl' : l = l' := rl
      have ru' : u = u' := ru
      subst rl' ru'
      have rx3 := (Rep.mono le2 rx).mono le3
      have gen : ∀ xs, lstOf G3 x = some xs → Sat X.K W L3 σ (repD X.K) (mk (cutD xs l u) G3) Q → rSlAll X.K v l u H3 Q := fun xs e q => by
        obtain ⟨p, vs, rfl, s, t⟩ := lst_rep hr3 rx3 e
        refine .inl (.inl (.inl ⟨p, vs, rfl, s, fun p' hp => ?_⟩))
        have t' : Reps X.K L3.Z L3.r (cutD xs l u) (cutV vs l u) := by
          unfold cutD cutV
          rw [Reps.length t]
          exact (t.drop _).take _
        exact m _ _ _ _ _ _ _ _ _ _ hr3 t' hp q
      cases x with
      | tup xs =>
        obtain ⟨p, vs, rfl, s, t⟩ := tup_rep hr3 rx3
        have q' : Sat X.K W L3 σ (repD X.K) (.ok (.tup (cutD xs l u)) G3) Q := q3
        refine .inl (.inl (.inr ⟨p, vs, rfl, s, fun w => ?_, fun w p' hp => ?_⟩))
        · have w' : HT.sIx xs.length 0 l = 0 ∧ HT.sIx xs.length xs.length u = xs.length := by rw [Reps.length t]; exact w
          rw [sIx_whole w'] at q'
          exact q' L3 H3 _ (.refl _) hr3 rx3
        · have t' : Reps X.K L3.Z L3.r (cutD xs l u) (cutV vs l u) := by
            unfold cutD cutV
            rw [Reps.length t]
            exact (t.drop _).take _
          obtain ⟨a, b, c⟩ := put_tup t' hr3 hp
          exact q' _ _ _ b a c
      | pt xs =>
        have q' : Sat X.K W L3 σ (repD X.K) (.ok (.pt (cutD xs l u)) G3) Q := q3
        have rx3' : Rep X.K L3.Z L3.r (.pt xs) v := rx3
        cases rx3' with
        | @pt p o vs _ z k t =>
          have hp := (hr3.z _ _ z).frz
          by_cases w : HT.sIx vs.length 0 l = 0 ∧ HT.sIx vs.length vs.length u = vs.length
          · have w' : HT.sIx xs.length 0 l = 0 ∧ HT.sIx xs.length xs.length u = xs.length := by rw [Reps.length t]; exact w
            rw [sIx_whole w'] at q'
            exact .inl (.inl (.inr ⟨p, vs, rfl, .inl (.inr ⟨o, hp⟩), fun _ => q' L3 H3 _ (.refl _) hr3 rx3, fun n => absurd w n⟩))
          · have t' : Reps X.K L3.Z L3.r (cutD xs l u) (cutV vs l u) := by
              unfold cutD cutV
              rw [Reps.length t]
              exact (t.drop _).take _
            refine .inr ⟨p, vs, o, rfl, hp, w, fun p' o' hp' ho => ?_⟩
            obtain ⟨a, b, c⟩ := put_pt t' hr3 hp' ho
            exact q' _ _ _ b a c
      | str z =>
        cases rx3
        have q' : Sat X.K W L3 σ (repD X.K) (if z.length ≤ sizeLine then .ok (.str (cutS z l u)) G3 else .no) Q := q3
        by_cases k : z.length ≤ sizeLine
        · rw [if_pos k] at q'
          exact .inl (.inr ⟨z, rfl, k, q' L3 H3 _ (.refl _) hr3 (.str _)⟩)
        · rw [if_neg k] at q'; exact q'.elim
      | lst xs => exact gen xs rfl q3
      | scr xs => exact gen xs rfl q3
      | ref n =>
        have q' : Sat X.K W L3 σ (repD X.K) (match lstOf G3 (.ref n) with | some xs => mk (cutD xs l u) G3 | none => .no) Q := q3
        cases e : lstOf G3 (.ref n) with
        | none => rw [e] at q'; exact q'.elim
        | some xs => rw [e] at q'; exact gen xs e q'
      | _ => exact q3.elim
theorem xe_ix {a b : Expr} {fa fb : FE} (hu : X.A.units + 1 < cLine) (ha : xE X W a fa) (hb : xE X W b fb) (hs : PlainIx b := by exact fun _ _ => rfl) : xE X W (.Subscript a b pos) (eOp dIx fa fb) := PEimp (pe_ix (ix_all hu) ha hb hs) (eOp_imp o2_ix)
def flatD : D → Bool
  | .non => true
  | .bl _ => true
  | .int _ => true
  | .str _ => true
  | _ => false
def eqF : D → D → Bool
  | .non, .non => true
  | .bl a, .bl b => a == b
  | .bl a, .int j => (if a then 1 else 0) == j
  | .int i, .bl b => i == (if b then 1 else 0)
  | .int i, .int j => i == j
  | .str x, .str y => x == y
  | _, _ => false
end
end CF
end
section
set_option maxRecDepth 100000
set_option maxHeartbeats 1000000
namespace CF
open PySem PySem.Spec PyProof.Rows L2
structure Srv (K : PySem.W.Frag) (J : It) (L : Lk) (items : List D) (chk : GH → Bool) : Prop where
  go : ∀ L' G H (i : Nat) d, L.sle L' → HR K L' G H → chk G = true → items[i]? = some d → J.go i H ∧ ∀ x H2, J.yld i H x H2 → ∃ L2, L'.le L2 ∧ HR K L2 G H2 ∧ Rep K L2.Z L2.r d x
  stop : ∀ L' G H (i : Nat), L.sle L' → HR K L' G H → chk G = true → items.length ≤ i → J.stop i H
structure Its where
  items : List D
  chk : GH → Bool
abbrev FI := DEnv → GH → R Its
def tI (K : PySem.W.Frag) (W : WX) (f : FI) : TI := fun σ H Q => ∃ L δ G, HR K L G H ∧ ER K L δ σ ∧ match f δ G with
  | .ok it G1 => ∀ L' H' J, L.fle L' → HR K L' G1 H' → Srv K J L' it.items it.chk → Q J H'
  | .ex x G1 => ∀ L' H' c dx, L.le L' → HR K L' G1 H' → XRep K L' x c dx → W c dx σ H'
  | .no => False
def xI (X : Cx) (W : WX) (tg iter : Expr) (f : FI) : Prop := PI X tg iter (tI X.K W f)
theorem PIimp {X : Cx} {tg e : Expr} {t t' : TI} (h : PI X tg e t) (i : ∀ σ H Q, t' σ H Q → t σ H Q) : PI X tg e t' := ⟨fun pins s σ H Q I q => h.run pins s σ H Q I (i _ _ _ q)⟩
def sForL (chk : GH → Bool) (g : FG) (body : FS) : List D → DEnv → GH → RS
  | [], δ, G => .nx δ G
  | d :: r, δ, G => match g d δ G with
    | .nx δ1 G1 => (match body δ1 G1 with
      | .nx δ2 G2 => if chk G2 then sForL chk g body r δ2 G2 else .no
      | .ct δ2 G2 => if chk G2 then sForL chk g body r δ2 G2 else .no
      | .bk δ2 G2 => .nx δ2 G2
      | .rt d G2 => .rt d G2
      | .ex x δ2 G2 => .ex x δ2 G2
      | .no => .no)
    | _ => .no
def sFor (fi : FI) (g : FG) (body : FS) : FS := fun δ G => (fi δ G).thn δ fun it G1 => if it.chk G1 then sForL it.chk g body it.items δ G1 else .no
theorem iThn {K : PySem.W.Frag} {W : WX} {L : Lk} {σ : St} {δ : DEnv} {G : GH} {H : Hp} {f : FI} {k : Its → GH → RS} {E : Ends} {Q1 : It → Hp → Prop}
    (hr : HR K L G H) (er : ER K L δ σ) (h : SatS K W L ((f δ G).thn δ k) E)
    (nx : ∀ L1 G1 H1 it J, L.fle L1 → HR K L1 G1 H1 → ER K L1 δ σ → Srv K J L1 it.items it.chk → SatS K W L1 (k it G1) E → Q1 J H1) : tI K W f σ H Q1 := by
  refine ⟨L, δ, G, hr, er, ?_⟩
  cases e : f δ G with
  | ok it G1 =>
    rw [e] at h
    exact fun L1 H1 J le hr1 sv => nx L1 G1 H1 it J le hr1 (er.fmono le) sv (SatS.fmono (L := L) (r := k it G1) h le)
  | ex x G1 =>
    rw [e] at h
    exact fun L1 H1 c dx le hr1 xr => h L1 σ H1 c dx le hr1 (er.mono le) xr
  | no =>
    rw [e] at h
    exact h
theorem iBind {γ δ' : Type} {K : PySem.W.Frag} {W : WX} {L : Lk} {σ : St} {δ : DEnv} {G : GH} {H : Hp} {rep' : Lk → γ → δ' → Prop} {f : FI} {k : Its → GH → R γ} {Q : δ' → Hp → Prop} {Q1 : It → Hp → Prop} (hrep : ∀ L F a b, rep' L a b → rep' (L.frm F) a b)
    (hr : HR K L G H) (er : ER K L δ σ) (h : Sat K W L σ rep' ((f δ G).bind k) Q)
    (nx : ∀ L1 G1 H1 it J, L.fle L1 → HR K L1 G1 H1 → ER K L1 δ σ → Srv K J L1 it.items it.chk → Sat K W L1 σ rep' (k it G1) Q → Q1 J H1) : tI K W f σ H Q1 := by
  refine ⟨L, δ, G, hr, er, ?_⟩
  cases e : f δ G with
  | ok it G1 =>
    rw [e] at h
    exact fun L1 H1 J le hr1 sv => nx L1 G1 H1 it J le hr1 (er.fmono le) sv (Sat.fmono (L := L) (r := k it G1) h le hrep)
  | ex x G1 =>
    rw [e] at h
    exact h
  | no =>
    rw [e] at h
    exact h
section
variable {X : Cx} {W : WX} {pos : Pos} {tg iter : Expr} {us : List Nat}
theorem xs_for {body : List Stmt} {fi : FI} {g : FG} {fb : FS} (hp : PassesOwn (model X.prog X.w) X.A X.env X.xe) (hc : X.calm = true) (hi : xI X W tg iter fi) (hg : xG X us tg g) (hb : xSs X W body fb)
    (hs : ∀ x, foldedSetIterable iter X.env x = pure x := by intro _; rfl) : xS X W (.For tg iter body [] pos) (sFor fi g fb) :=
  PSimp (ps_for hp hc hi hg hb hs) fun E σ H ⟨L, δ, G, hr, er, q⟩ => iThn hr er q fun L1 G1 H1 it J le hr1 er1 sv q1 => by
    by_cases hk : it.chk G1 = true
    · rw [if_pos hk] at q1
      refine ⟨fun i m σ H => m = it.items.length - i ∧ i ≤ it.items.length ∧ ∃ L' δ' G', L1.le L' ∧ HR X.K L' G' H ∧ ER X.K L' δ' σ ∧ it.chk G' = true ∧ SatS X.K W L' (sForL it.chk g fb (it.items.drop i) δ' G') E,
        ⟨_, rfl, Nat.zero_le _, L1, δ, G1, .refl _, hr1, er1, hk, by rw [List.drop_zero]; exact q1⟩, ?_⟩
      rintro i m σ2 H2 ⟨rfl, hi, L2, δ2, G2, le2, hr2, er2, hk2, q2⟩
      by_cases hlt : i < it.items.length
      · have ed : it.items[i]? = some it.items[i] := by simp [hlt]
        obtain ⟨hgo, hy⟩ := sv.go L2 G2 H2 i _ le2.s hr2 hk2 ed
        refine .inr ⟨hgo, fun σ3 H3 => ∃ L' δ' G', L1.le L' ∧ HR X.K L' G' H3 ∧ ER X.K L' δ' σ3 ∧ it.chk G' = true ∧ SatS X.K W L' (sForL it.chk g fb (it.items.drop (i + 1)) δ' G') E,
          fun σ3 H3 n => ⟨it.items.length - (i + 1), by omega, rfl, hlt, n⟩, fun x H3 yd => ?_⟩
        obtain ⟨L3, le3, hr3, rd⟩ := hy x H3 yd
        rw [List.drop_eq_getElem_cons hlt] at q2
        have q3 : SatS X.K W L3 _ E := SatS.mono q2 le3
        refine ⟨L3, it.items[i], δ2, G2, hr3, er2.mono le3, rd, ?_⟩
        unfold sForL at q3
        cases e1 : g it.items[i] δ2 G2 with
        | nx δ4 G4 =>
          rw [e1] at q3
          dsimp only at q3
          intro L4 σ4 H4 le4 hr4 er4 _
          have q4 : SatS X.K W L4 _ E := SatS.mono q3 le4
          refine ⟨L4, δ4, G4, hr4, er4, ?_⟩
          have again : ∀ δ5 G5, SatS X.K W L4 (if it.chk G5 = true then sForL it.chk g fb (it.items.drop (i + 1)) δ5 G5 else .no) E → ∀ L5 σ5 H5, L4.le L5 → HR X.K L5 G5 H5 → ER X.K L5 δ5 σ5 →
              ∃ L' δ' G', L1.le L' ∧ HR X.K L' G' H5 ∧ ER X.K L' δ' σ5 ∧ it.chk G' = true ∧ SatS X.K W L' (sForL it.chk g fb (it.items.drop (i + 1)) δ' G') E := fun δ5 G5 q5 L5 σ5 H5 le5 hr5 er5 => by
            by_cases hk5 : it.chk G5 = true
            · rw [if_pos hk5] at q5
              exact ⟨L5, δ5, G5, ((le2.trans le3).trans le4).trans le5, hr5, er5, hk5, SatS.mono q5 le5⟩
            · rw [if_neg hk5] at q5; exact q5.elim
          cases e2 : fb δ4 G4 with
          | nx δ5 G5 => rw [e2] at q4; exact again δ5 G5 q4
          | ct δ5 G5 => rw [e2] at q4; exact again δ5 G5 q4
          | bk δ5 G5 => rw [e2] at q4; exact q4
          | rt d G5 => rw [e2] at q4; exact q4
          | ex x δ5 G5 => rw [e2] at q4; exact q4
          | no => rw [e2] at q4; exact q4
        | _ => rw [e1] at q3; exact q3.elim
      · refine .inl ⟨sv.stop L2 G2 H2 i le2.s hr2 hk2 (by omega), ?_⟩
        rw [List.drop_eq_nil_of_le (by omega)] at q2
        exact q2 L2 σ2 H2 (.refl _) hr2 er2
    · rw [if_neg hk] at q1; exact q1.elim
def R.nox {α : Type} (r : R α) : R α := match r with
  | .ex _ _ => .no
  | r => r
@[simp] theorem R.nox_ok {α : Type} (a : α) (G : GH) : (R.ok a G).nox = .ok a G := rfl
@[simp] theorem R.nox_no {α : Type} : (R.no : R α).nox = .no := rfl
@[simp] theorem R.nox_ex {α : Type} (x : Ex) (G : GH) : (R.ex x G : R α).nox = .no := rfl
def lcL (chk : GH → Bool) (g : FG) (t : FT) (f : FE) (δ : DEnv) : List D → List D → GH → R (List D)
  | [], acc, G => .ok acc G
  | d :: r, acc, G => match g d δ G with
    | .nx δ1 G1 => (t δ1 G1).nox.bind fun b G2 => if b then (f δ1 G2).nox.bind fun y G3 => (if chk G3 && decide (acc.length < sizeLine) then lcL chk g t f δ r (acc ++ [y]) G3 else .no)
      else (if chk G2 then lcL chk g t f δ r acc G2 else .no)
    | _ => .no
def tYesD : FT := fun _ G => .ok true G
abbrev noW : WX := fun _ _ _ _ => False
def xTs (X : Cx) (ifs : List Expr) (t : FT) : Prop := PTs X ifs (tG X.K noW repB t)
theorem xts_nil {X : Cx} : xTs X [] tYesD := ⟨fun pins s σ H Q I ⟨L, δ, G, hr, er, q⟩ => pts_nil.run pins s σ H Q I (q L H true (.refl L) hr rfl)⟩
theorem xts_one {X : Cx} {c : Expr} {t : FT} (h : xT X noW c t) : xTs X [c] t := pts_one h
def eLc (mk : List D → GH → R D) (fi : FI) (g : FG) (t : FT) (f : FE) (vs : List Nat) : FE := fun δ G => (fi δ G).bind fun it G1 => if it.chk G1 then (lcL it.chk g t f (wipeD δ vs) it.items [] G1).bind mk else .no
theorem Sat.nb {α β γ δ' : Type} {K : PySem.W.Frag} {W : WX} {L : Lk} {σ σ' : St} {δ : DEnv} {G : GH} {H : Hp} {rep : Lk → α → β → Prop} {rep' : Lk → γ → δ' → Prop} {f : DEnv → GH → R α} {k : α → GH → R γ} {Q : δ' → Hp → Prop} {Q1 : β → Hp → Prop} {L0 : Lk}
    (hr : HR K L G H) (er : ER K L δ σ) (l0 : L0.cle L) (h : Sat K W L0 σ' rep' ((f δ G).nox.bind k) Q)
    (nx : ∀ L1 G1 H1 a v, L.le L1 → HR K L1 G1 H1 → ER K L1 δ σ → rep L1 a v → f δ G = .ok a G1 → Q1 v H1) : tG K noW rep f σ H Q1 := by
  refine ⟨L, δ, G, hr, er, ?_⟩
  cases e : f δ G with
  | ok a G1 => exact fun L1 H1 v le hr1 ra => nx L1 G1 H1 a v le hr1 (er.mono le) ra e
  | ex x G1 =>
    rw [e] at h
    exact h.elim
  | no =>
    rw [e] at h
    exact h.elim
theorem wipe_wipe (σ : St) : ∀ vs : List Nat, wipe (wipe σ vs) vs = wipe σ vs
  | [] => rfl
  | v :: vs => by
    show (wipe ((wipe σ vs).set v none) vs).set v none = (wipe σ vs).set v none
    have key : ∀ {us : List Nat} {τ : St}, (wipe (τ.set v none) us).set v none = (wipe τ us).set v none := by
      intro us
      induction us with
      | nil => intro τ; show (τ.set v none).set v none = τ.set v none; rw [List.set_set]
      | cons u us ih =>
        intro τ
        show ((wipe (τ.set v none) us).set u none).set v none = ((wipe τ us).set u none).set v none
        by_cases e : u = v
        · subst e
          rw [List.set_set, List.set_set]; exact ih
        · rw [List.set_comm _ _ e, ih, List.set_comm _ _ (Ne.symm e)]
    rw [key, wipe_wipe σ vs]
theorem lc_imp {K : PySem.W.Frag} {W : WX} {mk : List D → GH → R D} {fi : FI} {g : FG} {t : FT} {f : FE} {vs : List Nat} (m : Mk mk) (σ : St) (H : Hp) (Q : VK) (h : tG K W (repD K) (eLc mk fi g t f vs) σ H Q) : tLc (tI K W fi) (tGt K vs g) (tG K noW repB t) (tG K noW (repD K) f) vs σ H Q := by
  obtain ⟨L, δ, G, hr, er, q⟩ := h
  exact iBind (rep' := repD K) (fun _ _ _ _ z => z) hr er q fun L1 G1 H1 it J le hr1 er1 sv q1 => by
    by_cases hk : it.chk G1 = true
    · rw [if_pos hk] at q1
      intro Dl hD
      have hF : L1.F Dl = none := hr1.ffree hD
      have nofrz : ∀ (xs : List V) od w, HO.lst xs ≠ .frz od w := fun xs od w z => by cases z
      generalize hδ : wipeD δ vs = δw at q1
      have erw : ∀ L', L1.cle L' → ER K L' δw (wipe σ vs) := fun L' c => by
        have e0 : ER K L' δ σ := ⟨er1.1, fun i d e => let ⟨v, a, b⟩ := er1.2 i d e; ⟨v, a, Rep.mono (a := L1) (b := L'.frm L1.F) ⟨c.z, c.r, rfl⟩ b⟩⟩
        rw [← hδ]
        exact e0.wipe _
      refine ⟨fun i n H => n = it.items.length - i ∧ i ≤ it.items.length ∧ ∃ L' G' acc av, L1.cle L' ∧ L'.F = L1.F ∧ HR K (L'.prv Dl (.lst av)) G' H ∧ Reps K L'.Z L'.r acc av ∧ it.chk G' = true ∧
          Sat K W L' σ (repD K) ((lcL it.chk g t f δw (it.items.drop i) acc G').bind mk) Q,
        ⟨_, rfl, Nat.zero_le _, L1, G1, [], [], .refl _, rfl, hr1.prv hD, .nil, hk, by rw [List.drop_zero]; exact q1⟩, ?_⟩
      rintro i n H2 ⟨rfl, hi2, L2, G2, acc, av, c2, f2, hr2, ra, hk2, q2⟩
      have c2' : L1.sle (L2.prv Dl (.lst av)) := ⟨c2.z, c2.r, fun p od u e => by
        have hp : p ≠ Dl := fun z => by rw [z, hF] at e; cases e
        show upd L2.F Dl _ p = _
        rw [upd_ne hp, f2]; exact e⟩
      by_cases hlt : i < it.items.length
      · have ed : it.items[i]? = some it.items[i] := by simp [hlt]
        obtain ⟨hgo, hy⟩ := sv.go _ G2 H2 i _ c2' hr2 hk2 ed
        refine .inr ⟨hgo, fun H3 => ∃ L' G' acc av, L1.cle L' ∧ L'.F = L1.F ∧ HR K (L'.prv Dl (.lst av)) G' H3 ∧ Reps K L'.Z L'.r acc av ∧ it.chk G' = true ∧
            Sat K W L' σ (repD K) ((lcL it.chk g t f δw (it.items.drop (i + 1)) acc G').bind mk) Q,
          fun H3 n => ⟨it.items.length - (i + 1), by omega, rfl, hlt, n⟩, fun x H3 yd => ?_⟩
        obtain ⟨L3, le3, hr3, rd⟩ := hy x H3 yd
        rw [List.drop_eq_getElem_cons hlt] at q2
        unfold lcL at q2
        refine ⟨L3, it.items[i], δw, G2, hr3, erw L3 (c2'.c.trans le3.c), rd, ?_⟩
        cases e1 : g it.items[i] δw G2 with
        | nx δ4 G4 =>
          rw [e1] at q2
          dsimp only at q2
          intro L4 σ4 H4 le4 hr4 er4 w4
          refine ⟨w4.trans (wipe_wipe _ _), ?_⟩
          have l0 : L2.cle L4 := (show L2.cle (L2.prv Dl (.lst av)) from ⟨fun _ _ z => z, fun _ _ z => z⟩).trans (le3.trans le4).c
          have frameOf : ∀ (L5 : Lk), L4.le L5 → (L5.frm L1.F).prv Dl (.lst av) = L5 := fun L5 l5 => by
            have e5 : L5.F = upd L2.F Dl (.lst av) := l5.f.trans (le4.f.trans le3.f)
            show Lk.mk L5.Z L5.r (upd L1.F Dl (.lst av)) = L5
            rw [← f2, ← e5]
          refine Sat.nb (L0 := L2) (rep' := repD K) hr4 er4 l0 (k := fun b G2 => (if b then (f δ4 G2).nox.bind fun y G3 => (if it.chk G3 && decide (acc.length < sizeLine) then lcL it.chk g t f δw (it.items.drop (i + 1)) (acc ++ [y]) G3 else .no) else (if it.chk G2 then lcL it.chk g t f δw (it.items.drop (i + 1)) acc G2 else .no)).bind mk) (Q := Q) (W := W) (σ' := σ) (by
              cases e3 : t δ4 G4 with
              | ok b G5 => rw [e3] at q2; exact q2
              | ex x G5 => rw [e3] at q2; exact q2
              | no => rw [e3] at q2; exact q2) fun L5 G5 H5 b b' le5 hr5 er5 rb e5 => ?_
          have rb' : b = b' := rb
          subst rb'
          rw [e5] at q2
          have q3 : Sat K W L2 σ (repD K) ((if b = true then (f δ4 G5).nox.bind fun y G3 => (if (it.chk G3 && decide (acc.length < sizeLine)) = true then lcL it.chk g t f δw (it.items.drop (i + 1)) (acc ++ [y]) G3 else .no) else (if it.chk G5 = true then lcL it.chk g t f δw (it.items.drop (i + 1)) acc G5 else .no)).bind mk) Q := q2
          have up : ∀ {r : R D} (L6 : Lk), L2.cle L6 → Sat K W L2 σ (repD K) r Q → Sat K W (L6.frm L1.F) σ (repD K) r Q := fun {r} L6 c6 q => Sat.mono (L := L2) (r := r) q ⟨c6.z, c6.r, f2.symm⟩
          cases b with
          | true =>
            rw [if_pos rfl] at q3 ⊢
            refine Sat.nb (L0 := L2) (rep' := repD K) hr5 er5 (l0.trans le5.c) (k := fun y G3 => (if (it.chk G3 && decide (acc.length < sizeLine)) = true then lcL it.chk g t f δw (it.items.drop (i + 1)) (acc ++ [y]) G3 else .no).bind mk) (Q := Q) (W := W) (σ' := σ) (by
              cases e3 : f δ4 G5 with
              | ok b G5 => rw [e3] at q3; exact q3
              | ex x G5 => rw [e3] at q3; exact q3
              | no => rw [e3] at q3; exact q3) fun L6 G6 H6 y yv le6 hr6 er6 ry e6 => ?_
            rw [e6] at q3
            have q4 : Sat K W L2 σ (repD K) ((if (it.chk G6 && decide (acc.length < sizeLine)) = true then lcL it.chk g t f δw (it.items.drop (i + 1)) (acc ++ [y]) G6 else .no).bind mk) Q := q3
            have c6 : L2.cle L6 := l0.trans (le5.trans le6).c
            have hr6' : HR K ((L6.frm L1.F).prv Dl (.lst av)) G6 H6 := by rw [frameOf L6 (le5.trans le6)]; exact hr6
            by_cases hk6 : (it.chk G6 && decide (acc.length < sizeLine)) = true
            · rw [if_pos hk6] at q4
              obtain ⟨hk6, hz6⟩ := Bool.and_eq_true_iff.mp hk6
              have hz6 := of_decide_eq_true hz6
              have ra6 : Reps K L6.Z L6.r acc av := Reps.mono (a := L2) (b := L6.frm L2.F) ⟨c6.z, c6.r, rfl⟩ ra
              exact ⟨av, hr6'.prvH, by rw [← Reps.length ra]; exact hz6, L6.frm L1.F, G6, acc ++ [y], av ++ [yv], (⟨(c2.trans c6).z, (c2.trans c6).r⟩ : L1.cle (L6.frm L1.F)), rfl, hr6'.prvSet (nofrz av), ra6.append (.cons ry .nil), hk6, up L6 c6 q4⟩
            · rw [if_neg hk6] at q4; exact q4.elim
          | false =>
            rw [if_neg Bool.false_ne_true] at q3 ⊢
            have c5 : L2.cle L5 := l0.trans le5.c
            have hr5' : HR K ((L5.frm L1.F).prv Dl (.lst av)) G5 H5 := by rw [frameOf L5 le5]; exact hr5
            by_cases hk5 : it.chk G5 = true
            · rw [if_pos hk5] at q3
              exact ⟨L5.frm L1.F, G5, acc, av, (⟨(c2.trans c5).z, (c2.trans c5).r⟩ : L1.cle (L5.frm L1.F)), rfl, hr5', Reps.mono (a := L2) (b := L5.frm L2.F) ⟨c5.z, c5.r, rfl⟩ ra, hk5, up L5 c5 q3⟩
            · rw [if_neg hk5] at q3; exact q3.elim
        | _ => rw [e1] at q2; exact q2.elim
      · refine .inl ⟨sv.stop _ G2 H2 i c2' hr2 hk2 (by omega), ?_⟩
        rw [List.drop_eq_nil_of_le (by omega)] at q2
        have q3 : Sat K W L2 σ (repD K) (mk acc G2) Q := q2
        have hF2 : L2.F Dl = none := by rw [f2]; exact hF
        have out := hr2.prvOut (nofrz av) hF2
        have fin := m K L2 G2 (fun b => if b = Dl then none else H2 b) acc av Dl W σ Q out ra (if_pos rfl) q3
        rw [upd_out hr2.prvH] at fin
        exact fin
    · rw [if_neg hk] at q1; exact q1.elim
theorem xe_lc {elt : Expr} {ifs : List Expr} {scope : Scope} {own : List (Str × Nat)} {mk : List D → GH → R D} {fi : FI} {g : FG} {t : FT} {f : FE} (m : Mk mk) (hc : X.calm = true) (hN : X.N.Nodup) (hi : xI X W tg iter fi) (ok : BlkOk X.N X.env.scope scope own)
    (hg : ∀ (s : Shared) (H : Hp) (C : Addr) (cl : List (Str × Addr)) (fp : List Addr), xG (X.blk s H scope (compEnvC scope cl C X.env) fp) (own.map (·.2)) tg g)
    (ht : ∀ (s : Shared) (H : Hp) (C : Addr) (cl : List (Str × Addr)) (fp : List Addr), xTs (X.blk s H scope (compEnvC scope cl C X.env) fp) ifs t)
    (he : ∀ (s : Shared) (H : Hp) (C : Addr) (cl : List (Str × Addr)) (fp : List Addr), xE (X.blk s H scope (compEnvC scope cl C X.env) fp) noW elt f) (hs : ∀ x, foldedSetIterable iter X.env x = pure x := by intro _; rfl) :
    xE X W (.ListComp elt [⟨tg, iter, ifs, 0⟩] scope pos) (eLc mk fi g t f (own.map (·.2))) :=
  PEimp (pe_lc (wi := tI X.K W fi) (g := tGt X.K (own.map fun p : Str × Nat => p.2) g) (tt := tG X.K noW repB t) (te := tG X.K noW (repD X.K) f) hc hN hi ok hg ht he hs) (lc_imp m)
theorem xs_setLc {i : Nat} {y : Str} {py spos : Pos} {elt : Expr} {ifs : List Expr} {scope : Scope} {own : List (Str × Nat)} {mk : List D → GH → R D} {fi : FI} {g : FG} {t : FT} {f : FE} (m : Mk mk) (hc : X.calm = true) (hN : X.N.Nodup) (hy : X.N[i]? = some y) (hyl : X.env.scope.names.lookup y = some .local) (hsw : swapsWith (.ListComp elt [⟨tg, iter, ifs, 0⟩] scope pos) (some (.Name y py)) spos.line X.env = pure true) (hi : xI X W tg iter fi) (ok : BlkOk X.N X.env.scope scope own)
    (hg : ∀ (s : Shared) (H : Hp) (C : Addr) (cl : List (Str × Addr)) (fp : List Addr), xG (X.blk s H scope (compEnvC scope cl C X.env) fp) (own.map (·.2)) tg g)
    (ht : ∀ (s : Shared) (H : Hp) (C : Addr) (cl : List (Str × Addr)) (fp : List Addr), xTs (X.blk s H scope (compEnvC scope cl C X.env) fp) ifs t)
    (he : ∀ (s : Shared) (H : Hp) (C : Addr) (cl : List (Str × Addr)) (fp : List Addr), xE (X.blk s H scope (compEnvC scope cl C X.env) fp) noW elt f) (hs : ∀ x, foldedSetIterable iter X.env x = pure x := by intro _; rfl) :
    xS X W (.Assign [.Name y py] (.ListComp elt [⟨tg, iter, ifs, 0⟩] scope pos) spos) (sSet i (eLc mk fi g t f (own.map (·.2)))) :=
  PSimp (ps_setLc (wi := tI X.K W fi) (g := tGt X.K (own.map fun p : Str × Nat => p.2) g) (tt := tG X.K noW repB t) (te := tG X.K noW (repD X.K) f) hc hN hy hyl hsw hi ok hg ht he hs) fun E σ H ⟨L, δ, G, hr, er, q⟩ =>
    lc_imp m σ H _ (Sat.thn hr er q fun L1 G1 H1 d v le hr1 er1 rd q1 => q1 L1 _ H1 (.refl _) hr1 (er1.set i rd))
end
end CF
end
section
set_option maxRecDepth 100000
set_option maxHeartbeats 1000000
namespace CF
open PySem PySem.Spec PyProof.Rows L2
theorem Rep.cmono {K : PySem.W.Frag} {a b : Lk} (h : a.cle b) {d : D} {v : V} (r : Rep K a.Z a.r d v) : Rep K b.Z b.r d v := Rep.mono (a := a) (b := b.frm a.F) ⟨h.z, h.r, rfl⟩ r
theorem Reps.cmono {K : PySem.W.Frag} {a b : Lk} (h : a.cle b) {d : List D} {v : List V} (r : Reps K a.Z a.r d v) : Reps K b.Z b.r d v := Reps.mono (a := a) (b := b.frm a.F) ⟨h.z, h.r, rfl⟩ r
theorem PIor {X : Cx} {tg e : Expr} {t t' : TI} (h : PI X tg e t) (h' : PI X tg e t') : PI X tg e (fun σ H R => t σ H R ∨ t' σ H R) := ⟨fun pins s σ H R I q => q.elim (h.run pins s σ H R I) (h'.run pins s σ H R I)⟩
def kD : Key → D
  | .inl i => .int i
  | .inr x => .str x
@[simp] theorem kD_inl (i : Int) : kD (.inl i) = .int i := rfl
@[simp] theorem kD_inr (x : Str) : kD (.inr x) = .str x := rfl
open Classical in
noncomputable def lstIts (G : GH) (x : D) : Option Its := match x with
  | .lst xs => some ⟨xs, fun _ => true⟩
  | .scr xs => some ⟨xs, fun _ => true⟩
  | .ref n => match G[n]? with
    | some (.lst xs) => some ⟨xs, fun G' => decide (G'[n]? = some (.lst xs))⟩
    | _ => none
  | _ => none
noncomputable def itsD (G : GH) (x : D) : Option Its := match x with
  | .tup xs => some ⟨xs, fun _ => true⟩
  | .pt xs => some ⟨xs, fun _ => true⟩
  | .str z => some ⟨z.cps.toList.map fun c => .str ⟨#[c]⟩, fun _ => true⟩
  | .dK kvs => some ⟨kvs.map fun p => kD p.1, fun _ => true⟩
  | x => lstIts G x
@[simp] theorem lstIts_lst (G : GH) (xs : List D) : lstIts G (.lst xs) = some ⟨xs, fun _ => true⟩ := rfl
@[simp] theorem lstIts_scr (G : GH) (xs : List D) : lstIts G (.scr xs) = some ⟨xs, fun _ => true⟩ := rfl
@[simp] theorem itsD_tup (G : GH) (xs : List D) : itsD G (.tup xs) = some ⟨xs, fun _ => true⟩ := rfl
@[simp] theorem itsD_pt (G : GH) (xs : List D) : itsD G (.pt xs) = some ⟨xs, fun _ => true⟩ := rfl
@[simp] theorem itsD_lst (G : GH) (xs : List D) : itsD G (.lst xs) = some ⟨xs, fun _ => true⟩ := rfl
@[simp] theorem itsD_scr (G : GH) (xs : List D) : itsD G (.scr xs) = some ⟨xs, fun _ => true⟩ := rfl
@[simp] theorem itsD_str (G : GH) (z : Str) : itsD G (.str z) = some ⟨z.cps.toList.map fun c => .str ⟨#[c]⟩, fun _ => true⟩ := rfl
@[simp] theorem itsD_dK (G : GH) (kvs : List (Key × D)) : itsD G (.dK kvs) = some ⟨kvs.map fun p => kD p.1, fun _ => true⟩ := rfl
@[simp] theorem itsD_ref (G : GH) (n : Nat) : itsD G (.ref n) = lstIts G (.ref n) := rfl
noncomputable def iSeq (f : FE) : FI := fun δ G => (f δ G).bind fun x G1 => match itsD G1 x with
  | some it => .ok it G1
  | none => .no
section
variable {K : PySem.W.Frag}
theorem srv_list {L : Lk} {a : Addr} {vs : List V} {ds : List D} {chk : GH → Bool} (hs : ∀ L' G H, L.sle L' → HR K L' G H → chk G = true → SqL K H a vs) (t : Reps K L.Z L.r ds vs) : Srv K (Itl K a) L ds chk where
  go := fun L' G H i d c hr hk e => by
    have s := hs L' G H c hr hk
    obtain ⟨v, ev, r⟩ := t.get e
    refine ⟨⟨vs, v, s, ev⟩, fun x H2 y => ?_⟩
    obtain ⟨rfl, y2⟩ := y
    have q := y2 vs s
    rw [ev] at q
    cases q
    exact ⟨L', .refl _, hr, r.cmono c.c⟩
  stop := fun L' G H i c hr hk e => ⟨vs, hs L' G H c hr hk, by rw [← Reps.length t]; exact e⟩
theorem srv_tup {L : Lk} {a : Addr} {vs : List V} {ds : List D} {chk : GH → Bool} (hs : ∀ L' G H, L.sle L' → HR K L' G H → SqT K H a vs) (t : Reps K L.Z L.r ds vs) : Srv K (Itt K a) L ds chk where
  go := fun L' G H i d c hr hk e => by
    have s := hs L' G H c hr
    obtain ⟨v, ev, r⟩ := t.get e
    refine ⟨⟨vs, v, s, ev⟩, fun x H2 y => ?_⟩
    obtain ⟨rfl, y2⟩ := y
    have q := y2 vs s
    rw [ev] at q
    cases q
    exact ⟨L', .refl _, hr, r.cmono c.c⟩
  stop := fun L' G H i c hr hk e => ⟨vs, hs L' G H c hr, by rw [← Reps.length t]; exact e⟩
theorem srv_str {L : Lk} {z : Str} {chk : GH → Bool} : Srv K (L2.Its z) L (z.cps.toList.map fun c => .str ⟨#[c]⟩) chk where
  go := fun L' G H i d c hr hk e => by
    rw [List.getElem?_map] at e
    cases q : z.cps.toList[i]? with
    | none => rw [q] at e; cases e
    | some cc =>
      rw [q] at e; cases e
      have hi : i < z.cps.size := by simpa using (List.getElem?_eq_some_iff.mp q).1
      refine ⟨hi, fun x H2 y => ?_⟩
      obtain ⟨rfl, c', e1, rfl⟩ := y
      rw [Array.getElem?_toList, e1] at q
      cases q
      exact ⟨L', .refl _, hr, .str _⟩
  stop := fun L' G H i c hr hk e => by show z.cps.size ≤ i; simpa using e
theorem tupAt_sq {L : Lk} {G : GH} {H : Hp} {p : Addr} {vs : List V} (hr : HR K L G H) (z : TupAt K L.Z p vs) : SqT K H p vs := z.elim (fun z => .of (hr.z _ _ z).tup) fun z => .inr z
open Classical in
theorem walkL {L : Lk} {G : GH} {H : Hp} {x : D} {v : V} {it : Its} (hr : HR K L G H) (h : Rep K L.Z L.r x v) (e : lstIts G x = some it) :
    ∃ a xs, v = .ref a ∧ SqL K H a xs ∧ Srv K (Itl K a) L it.items it.chk ∧ Reps K L.Z L.r it.items xs := by
  cases h with
  | lst z t =>
    cases e
    exact ⟨_, _, rfl, .of (hr.z _ _ z).lst, srv_list (fun L' G' H' c hr' _ => .of (hr'.z _ _ (c.z _ _ z)).lst) t, t⟩
  | scr z t =>
    cases e
    exact ⟨_, _, rfl, scr_sq hr z, srv_list (fun L' G' H' c hr' _ => scr_sq hr' (z.mono c.z)) t, t⟩
  | @ref n a q =>
    have hn : n < G.length := by rw [← hr.len]; exact (List.getElem?_eq_some_iff.mp q).1
    have c0 := hr.cell n a G[n] q (by simp [hn])
    have e' : (match G[n]? with | some (.lst xs) => some (Its.mk xs fun G' => decide (G'[n]? = some (.lst xs))) | _ => none) = some it := e
    rw [List.getElem?_eq_getElem hn] at e'
    cases k : G[n] with
    | lst xs =>
      rw [k] at e' c0
      cases e'
      cases c0 with
      | @lst _ vs _ h0 t0 =>
        refine ⟨a, _, rfl, .of h0, ⟨fun L' G' H' i d c hr' hk' e2 => ?_, fun L' G' H' i c hr' hk' e2 => ?_⟩, t0⟩
        · have hk2 := of_decide_eq_true hk'
          have c1 := hr'.cell n a _ (c.r _ _ q) hk2
          cases c1 with
          | lst h1 t1 =>
            obtain ⟨v, ev, r⟩ := t1.get e2
            refine ⟨⟨_, v, .of h1, ev⟩, fun x H2 y => ?_⟩
            obtain ⟨rfl, y2⟩ := y
            have q3 := y2 _ (.of h1)
            rw [ev] at q3
            cases q3
            exact ⟨L', .refl _, hr', r⟩
        · have hk2 := of_decide_eq_true hk'
          have c1 := hr'.cell n a _ (c.r _ _ q) hk2
          cases c1 with
          | lst h1 t1 => exact ⟨_, .of h1, by rw [← Reps.length t1]; exact e2⟩
    | _ => rw [k] at e'; cases e'
  | _ => cases e
end
theorem kD_rep {K : PySem.W.Frag} {Z : Hp} {r : List Addr} (k : Key) : Rep K Z r (kD k) (kV k) := by
  cases k with
  | inl i => exact .int i
  | inr x => exact .str x
theorem HR.lock {K : PySem.W.Frag} {L : Lk} {G : GH} {H : Hp} {d : Addr} {kvs : List (Key × V)} {o : Obj} (h : HR K L G H) (hz : L.Z d = some (.dK kvs)) (hd : H d = some (.dK kvs) ∨ H d = some (.frz o (.dK kvs))) :
    HR K (L.frm (upd L.F d (.frz o (.dK kvs)))) G (upd H d (.frz o (.dK kvs))) ∧ L.fle (L.frm (upd L.F d (.frz o (.dK kvs)))) := by
  have nr : ∀ n : Nat, L.r[n]? ≠ some d := fun n e => by
    have := h.dis n d e
    rw [hz] at this; cases this
  refine ⟨⟨fun p u e => ?_, h.len, fun n a c e1 e2 => (h.cell n a c e1 e2).frm (upd_ne fun q => nr n (q ▸ e1)), h.inj, h.dis, fun p u e => ?_, fun n a e1 => ?_, fun p u e => ?_⟩, fun _ _ e => e, fun _ _ e => e, fun p u e => ?_⟩
  · replace e : L.Z p = some u := e
    by_cases hp : p = d
    · subst hp
      rw [hz] at e; cases e
      exact .inr ⟨.inl ⟨_, rfl⟩, o, upd_same⟩
    · exact (h.z p u e).upd hp
  · have e : upd L.F d (.frz o (.dK kvs)) p = some u := e
    by_cases hp : p = d
    · subst hp; rw [upd_same] at e ⊢; exact e
    · rw [upd_ne hp] at e ⊢; exact h.fr p u e
  · show upd L.F d _ a = none
    rw [upd_ne fun (q : a = d) => nr n (q ▸ e1)]; exact h.fd n a e1
  · have e : upd L.F d (.frz o (.dK kvs)) p = some u := e
    by_cases hp : p = d
    · subst hp; rw [upd_same] at e; cases e; exact .inl ⟨_, _, rfl⟩
    · rw [upd_ne hp] at e; exact h.fz p u e
  · show upd L.F d _ p = some u
    by_cases hp : p = d
    · subst hp
      rw [upd_same]
      have q := h.fr p u e
      rcases hd with hd | hd
      · rw [hd] at q; cases q
        rcases h.fz p _ e with ⟨_, _, z⟩ | z
        · cases z
        · rw [hz] at z; cases z
      · rw [hd] at q; exact q
    · rw [upd_ne hp]; exact e
theorem upd_self {H : Hp} {p : Addr} {o : HO} (e : H p = some o) : upd H p o = H := by
  funext b
  by_cases hb : b = p
  · subst hb; rw [upd_same, e]
  · rw [upd_ne hb]
theorem srv_keys {K : PySem.W.Frag} {L : Lk} {d : Addr} {kds : List (Key × D)} {kvs : List (Key × V)} {o : Obj} {chk : GH → Bool} (hk : kds.map (·.1) = kvs.map (·.1)) : Srv K (Itk d o kvs) (L.frm (upd L.F d (.frz o (.dK kvs)))) (kds.map fun p => kD p.1) chk where
  go := fun L' G H i x c hr _ e => by
    have at1 : H d = some (.frz o (.dK kvs)) := hr.fr d _ (c.f d _ _ upd_same)
    have e2 : (kvs.map (·.1))[i]?.map kD = some x := by rw [← hk, ← List.getElem?_map, List.map_map]; exact e
    cases q : kvs[i]? with
    | none => rw [List.getElem?_map, q] at e2; cases e2
    | some kv =>
      rw [List.getElem?_map, q] at e2; cases e2
      refine ⟨⟨at1, (List.getElem?_eq_some_iff.mp q).1⟩, fun y H2 z => ?_⟩
      obtain ⟨rfl, k, v, z1, rfl⟩ := z
      rw [q] at z1; cases z1
      exact ⟨L', .refl _, hr, kD_rep _⟩
  stop := fun L' G H i c hr _ e => ⟨hr.fr d _ (c.f d _ _ upd_same), by
    have hl := congrArg List.length hk
    simp only [List.length_map] at hl e
    omega⟩
def iKeysA (td : TE) : TI := fun σ H R => td σ H fun x H1 => ∃ d kvs, x = .ref d ∧ ((H1 d = some (.dK kvs) ∧ ∀ o, R (Itk d o kvs) (upd H1 d (.frz o (.dK kvs)))) ∨ ∃ o, H1 d = some (.frz o (.dK kvs)) ∧ R (Itk d o kvs) H1)
theorem pi_keysA {X : Cx} {tg e : Expr} {td : TE} (he : PE X e td) : PI X tg e (iKeysA td) := by
  refine ⟨fun pins s σ H R I h => thn (he.run pins s σ H _ I h) fun u s1 ⟨x, H1, I1, rx, d, kvs, ex, q⟩ => ?_⟩
  subst ex
  cases (show u = Value.ref d from rx)
  have fin : ∀ (o : Obj) (H2 : Hp), Inv X pins σ H2 s1 → H2 d = some (.frz o (.dK kvs)) → R (Itk d o kvs) H2 → wpAny (model X.prog X.w) X.A (pyIter (.ref d)) (PIE X pins σ tg R) X.xe s1 := fun o H2 I2 hd q2 => by
    obtain ⟨h1, h2, h3, es, ep, vs, h4, h5, kv, hm⟩ := I2.frzK hd
    refine iter_keys h1 h2 h3 h4 (pi_one (tk := s1.toks) I2 _ (turn_keys _ h4) ⟨_, Heap.get?_push_size _ rfl, rfl, ?_⟩ q2)
    rw [h5] <;> rfl
  rcases q with ⟨hd, q⟩ | ⟨o, hd, q⟩
  · obtain ⟨od, I2⟩ := I1.lock hd True.intro
    exact fin od _ I2 upd_same (q od)
  · exact fin o H1 I1 hd q
section
variable {X : Cx} {W : WX} {pos p : Pos} {tg : Expr}
theorem xi_seq {e : Expr} {f : FE} (h : xE X W e f) : xI X W tg e (iSeq f) :=
  PIimp (PIor (PIor (PIor (pi_list (tg := tg) h) (pi_tup h)) (pi_str h)) (pi_keysA h)) fun σ H Q ⟨L, δ, G, hr, er, q⟩ => by
    cases e0 : f δ G with
    | no =>
      simp only [iSeq, e0, R.bind_no] at q
    | ex x G1 =>
      simp only [iSeq, e0, R.bind_ex] at q
      refine .inl (.inl (.inl ⟨L, δ, G, hr, er, ?_⟩))
      rw [e0]; exact q
    | ok x G1 =>
      simp only [iSeq, e0, R.bind_ok] at q
      cases e1 : itsD G1 x with
      | none => rw [e1] at q; exact q.elim
      | some it =>
        rw [e1] at q
        have lists : lstIts G1 x = some it → iList X.K (tG X.K W (repD X.K) f) σ H Q := fun e2 => by
          refine ⟨L, δ, G, hr, er, ?_⟩
          rw [e0]
          intro L1 H1 v le hr1 rx
          obtain ⟨a, xs, e3, e4, s, _⟩ := walkL hr1 (show Rep X.K L1.Z L1.r x v from rx) e2
          exact ⟨a, e3, ⟨xs, e4⟩, q L1 H1 _ le.fl hr1 s⟩
        cases x with
        | tup xs =>
          cases e1
          refine .inl (.inl (.inr ⟨L, δ, G, hr, er, ?_⟩))
          rw [e0]
          intro L1 H1 v le hr1 rx
          have rx' : Rep X.K L1.Z L1.r (.tup xs) v := rx
          cases rx' with
          | tup z t => exact ⟨_, rfl, ⟨_, tupAt_sq hr1 z⟩, q L1 H1 _ le.fl hr1 (srv_tup (fun L' G' H' c hr' => tupAt_sq hr' (z.mono c.z)) t)⟩
        | pt xs =>
          cases e1
          refine .inl (.inl (.inr ⟨L, δ, G, hr, er, ?_⟩))
          rw [e0]
          intro L1 H1 v le hr1 rx
          have rx' : Rep X.K L1.Z L1.r (.pt xs) v := rx
          cases rx' with
          | @pt _ o _ _ z k t => exact ⟨_, rfl, ⟨_, .inl (.inr ⟨o, (hr1.z _ _ z).frz⟩)⟩, q L1 H1 _ le.fl hr1 (srv_tup (fun L' G' H' c hr' => .inl (.inr ⟨o, (hr'.z _ _ (c.z _ _ z)).frz⟩)) t)⟩
        | str z =>
          cases e1
          refine .inl (.inr ⟨L, δ, G, hr, er, ?_⟩)
          rw [e0]
          intro L1 H1 v le hr1 rx
          have rx' : Rep X.K L1.Z L1.r (.str z) v := rx
          cases rx'
          exact ⟨z, rfl, q L1 H1 _ le.fl hr1 srv_str⟩
        | dK kds =>
          cases e1
          refine .inr ⟨L, δ, G, hr, er, ?_⟩
          rw [e0]
          intro L1 H1 v le hr1 rx
          have rx' : Rep X.K L1.Z L1.r (.dK kds) v := rx
          cases rx' with
          | @dK d kvs _ z k t =>
            rcases hr1.z _ _ z with hd | ⟨_, o, hd⟩
            · exact ⟨d, kvs, rfl, .inl ⟨hd, fun o => let ⟨a, b⟩ := hr1.lock (o := o) z (.inl hd); q _ _ _ (⟨fun p u e => b.z p u (le.z p u e), fun n y e => b.r n y (le.r n y e), fun p u e => b.f p u (by rw [le.f]; exact e)⟩) a (srv_keys k)⟩⟩
            · obtain ⟨a, b⟩ := hr1.lock (o := o) z (.inr hd)
              rw [upd_self hd] at a
              exact ⟨d, kvs, rfl, .inr ⟨o, hd, q _ _ _ (⟨fun p u e => b.z p u (le.z p u e), fun n y e => b.r n y (le.r n y e), fun p u e => b.f p u (by rw [le.f]; exact e)⟩) a (srv_keys k)⟩⟩
        | _ => exact .inl (.inl (.inl (lists e1)))
def rngIts (lo : Int) (n : Nat) : Its := ⟨(List.range n).map fun i => .int (lo + (i : Nat)), fun _ => true⟩
theorem srv_rng {K : PySem.W.Frag} {L : Lk} {lo : Int} {n : Nat} : Srv K (Itr lo n) L (rngIts lo n).items (rngIts lo n).chk where
  go := fun L' G H i d c hr hk e => by
    have e : ((List.range n).map fun i => D.int (lo + (i : Nat)))[i]? = some d := e
    rw [List.getElem?_map] at e
    by_cases hi : i < n
    · rw [List.getElem?_range hi] at e
      cases e
      refine ⟨hi, fun x H2 y => ?_⟩
      obtain ⟨rfl, rfl⟩ := y
      exact ⟨L', .refl _, hr, .int _⟩
    · rw [List.getElem?_eq_none (by simpa using hi)] at e
      cases e
  stop := fun L' G H i c hr hk e => by
    have e : ((List.range n).map fun i => D.int (lo + (i : Nat))).length ≤ i := e
    show n ≤ i
    simpa using e
def rngC (j : Int) : Prop := -(2 ^ 62) ≤ j ∧ j < 2 ^ 62
noncomputable instance (j : Int) : Decidable (rngC j) := Classical.propDecidable _
theorem rngC_nat {n : Nat} (h : n < 1000000) : rngC (n : Int) := by unfold rngC; omega
noncomputable def iRg1 (g : FA) : FI := fun δ G => (g δ G).bind fun ds G1 => match ds with
  | [.int j] => if rngC j then .ok (rngIts 0 j.toNat) G1 else .no
  | _ => .no
theorem aBindI {α : Type} {K : PySem.W.Frag} {L : Lk} {σ : St} {δ : DEnv} {G : GH} {H : Hp} {rep : Lk → D → V → Prop} {β : Type} {rp : Lk → α → β → Prop} {f : DEnv → GH → R α} {k : α → GH → R Its} {Q : It → Hp → Prop} {Q1 : β → Hp → Prop}
    (hr : HR K L G H) (er : ER K L δ σ) (h : match (f δ G).bind k with
      | .ok it G1 => ∀ L' H' J, L.fle L' → HR K L' G1 H' → Srv K J L' it.items it.chk → Q J H'
      | .ex x G1 => ∀ L' H' c dx, L.le L' → HR K L' G1 H' → XRep K L' x c dx → W c dx σ H'
      | .no => False)
    (nx : ∀ L1 G1 H1 a v, L.le L1 → HR K L1 G1 H1 → rp L1 a v → (match k a G1 with
      | .ok it G1 => ∀ L' H' J, L.fle L' → HR K L' G1 H' → Srv K J L' it.items it.chk → Q J H'
      | .ex x G1 => ∀ L' H' c dx, L.le L' → HR K L' G1 H' → XRep K L' x c dx → W c dx σ H'
      | .no => False) → Q1 v H1) : tG K W rp f σ H Q1 := by
  refine ⟨L, δ, G, hr, er, ?_⟩
  cases e : f δ G with
  | ok a G1 =>
    rw [e] at h
    exact fun L1 H1 v le hr1 ra => nx L1 G1 H1 a v le hr1 ra h
  | ex x G1 =>
    rw [e] at h
    exact h
  | no =>
    rw [e] at h
    exact h
theorem xi_range1 {a : Expr} {g : FA} (hg : Gl X "range") (hm : X.mg "range" = none) (ha : xA X W [a] g) (hs : starEach [a] X.env = [(false, eval a X.env)] := by rfl) : xI X W tg (.Call (.Name "range" p) [a] [] pos) (iRg1 g) :=
  PIimp (pi_range1 hg hm ha hs) fun σ H Q ⟨L, δ, G, hr, er, q⟩ => aBindI (rp := repA X.K) (rep := repD X.K) hr er q fun L1 G1 H1 ds vs le hr1 rd q1 => by
    cases rd with
    | nil => exact q1.elim
    | cons r t =>
      cases r with
      | int j =>
        cases t with
        | nil =>
          have q2 : (match (if rngC j then R.ok (rngIts 0 j.toNat) G1 else .no) with
            | .ok it G1 => ∀ L' H' J, L.fle L' → HR X.K L' G1 H' → Srv X.K J L' it.items it.chk → Q J H'
            | .ex x G1 => ∀ L' H' c dx, L.le L' → HR X.K L' G1 H' → XRep X.K L' x c dx → W c dx σ H'
            | .no => False) := q1
          by_cases k : rngC j
          · rw [if_pos k] at q2
            exact ⟨j, rfl, k.1, k.2, q2 L1 H1 _ le.fl hr1 srv_rng⟩
          · rw [if_neg k] at q2; exact q2.elim
        | cons _ _ => exact q1.elim
      | _ => cases t <;> exact q1.elim
end
def startD (N : List Str) (ds : List D) : DEnv := ds.map some ++ List.replicate (N.length - ds.length) none
theorem er_start {K : PySem.W.Frag} {L : Lk} {N : List Str} {ds : List D} {vs : List V} (t : Reps K L.Z L.r ds vs) : ER K L (startD N ds) (L2.start N vs) := by
  have hl := t.length
  refine ⟨by simp [startD, L2.start, hl], fun i d e => ?_⟩
  unfold startD at e
  unfold L2.start
  by_cases hi : i < ds.length
  · rw [List.getElem?_append_left (by simpa using hi), List.getElem?_map] at e
    cases q : ds[i]? with
    | none => rw [q] at e; cases e
    | some x =>
      rw [q] at e; cases e
      obtain ⟨v, e1, r⟩ := t.get q
      exact ⟨v, by rw [List.getElem?_append_left (by rw [List.length_map, ← hl]; exact hi), List.getElem?_map, e1]; rfl, r⟩
  · rw [List.getElem?_append_right (by simpa using hi), List.getElem?_replicate] at e
    split at e <;> cases e
def defF (N : List Str) (fb : FS) : List D → GH → R D := fun ds G => match fb (startD N ds) G with
  | .nx _ G' => .ok .non G'
  | .rt d G' => .ok d G'
  | .ex x _ G' => .ex x G'
  | _ => .no
def spD (K : PySem.W.Frag) (n : Nat) (F : List D → GH → R D) : Sp := fun vs H Q E => vs.length = n ∧ ∃ L ds G, HR K L G H ∧ Reps K L.Z L.r ds vs ∧ Sat K (fun c dx _ H' => E c dx H') L [] (repD K) (F ds G) Q
structure FnD (P : Program) (w : World) (K : PySem.W.Frag) (mg : Str → Option Value) (base : Heap) (k : Nat) (f : Addr) (fd : FuncData) (ps : List Str) (F : List D → GH → R D) : Prop where
  go : ∀ (B : Around) (up : List Env) (s : Shared) (H : Hp) (ar : Args) (us : List Value) (vs : List V) (Q : VK) (E : XK), Room k B → B.guards = some [] → Env0 P w K mg base B up s H → BindsTo s fd ar (ps.zip us) → Vals vs us → spD K ps.length F vs H Q E →
    codeAny (model P w) B (.call (.ref f) ar) (CR (L2.CX P w) up P w H s Q E) s
abbrev wE (E : XK) : WX := fun c dx _ H => E c dx H
section
variable {P : Program} {w : World} {K : PySem.W.Frag} {mg : Str → Option Value} {base : Heap}
structure FnAt (K : PySem.W.Frag) (x qual : Str) (st : Stmt) (f : Addr) (fd : FuncData) : Prop where
  ex : ∃ (oc : Value) (od : Option Addr) (dV kV doc pm : Value) (an : Option Addr) (cdv ct : Value) (osl : Array (Option Value)),
    fd = PySem.W.fnOf x qual (defArgs st) (defBody st) (defScope st) dV kV doc pm an cdv ct ∧ K.lookup f = some ⟨oc, od, .func fd, osl⟩ ∧ PySem.W.codeIn K cdv qual = true
  kp : PySem.W.keepIn K (.ref f) = true
theorem FnAt.mkD {x qual : Str} {st : Stmt} {f : Addr} {fd : FuncData} {dvs : List V} {kws : List (Str × V)} (F : FunD K x qual (defArgs st) (defBody st) (defScope st) dvs kws f fd) : FnAt K x qual st f fd :=
  ⟨let ⟨oc, od, dV, kV, doc, pm, an, cdv, ct, osl, e, l, c, _, _⟩ := F.ex; ⟨oc, od, dV, kV, doc, pm, an, cdv, ct, osl, e, l, c⟩, F.kp⟩
theorem fnD {x qual : Str} {st : Stmt} {f : Addr} {fd : FuncData} {N ps : List Str} {k : Nat} {fb : FS} (F : FnAt K x qual st f fd) (S : FnScope N ps (defScope st))
    (h : ∀ (cdv : Value) (A : Around) (outer : List Env) (s : Shared) (H : Hp) (E : XK), Room k (A.deeper (envOfC qual (defScope st) s.heap.objs.size f cdv)) → A.guards = some [] →
      xSs (cxOf (L2.CX P w) P w K mg base N qual (defScope st) f cdv A outer s H E) (wE E) (defBody st) fb) : FnD P w K mg base (k + 1) f fd ps (defF N fb) := by
  obtain ⟨oc, od, dV, kV, doc, pm, an, cdv, ct, osl, rfl, lk, hcd⟩ := F.ex
  refine ⟨fun B up s H ar us vs Q E room gd e0 bnd rel prom => ?_⟩
  obtain ⟨nv, L, ds, G, hr0, rd, q⟩ := prom
  have at0 := e0.bs
  have KI : K.In s.heap := e0.mod.kin.keeps fun b o z => (at0 b o z).1
  have NL : s.heap.NoLimit := e0.mod.nolimit.keeps fun b o z => (at0 b o z).1
  refine codeAny_call_function room.depth (KI _ _ lk) rfl S.co S.gen rfl (PySem.W.codeRec_of KI hcd) (bnd _ _ _ _ ?_)
  refine wpAny_newFunctionEnv_cells S.kind (fun ⟨nm, _⟩ hy => (S.par nm (List.of_mem_zip hy).1).imp id fun z => ⟨z, PySem.W.cellsFrom_some _ _ _ (.inl z)⟩) fun env ee s1 inC => ?_
  subst ee
  refine ⟨NL.keeps inC.toInCall.keep, codeAny_func ?_⟩
  have I : Inv (cxOf (L2.CX P w) P w K mg base N qual (defScope st) f cdv B up s H E) [] (L2.start N vs) H s1 := inv_start S room.hd e0 nv rel inC
  have body := h cdv B up s H E (room.deeper _) gd
  have qs : tS K (wE E) fb { nx := fun _ H' => Q .non H', rt := Q } (L2.start N vs) H := by
    refine ⟨L, startD N ds, G, hr0, er_start rd, ?_⟩
    have q' : Sat K (fun c dx _ H' => E c dx H') L [] (repD K) (defF N fb ds G) Q := q
    unfold defF at q'
    cases e : fb (startD N ds) G with
    | nx δ G' => rw [e] at q'; exact fun L' σ' H' le hr2 _ => q' L' H' .non le hr2 .non
    | rt d G' => rw [e] at q'; exact q'
    | ex x δ G' => rw [e] at q'; exact fun L' σ' H' c dx le hr2 _ xr => q' L' H' c dx le hr2 xr
    | bk δ G' => rw [e] at q'; exact q'.elim
    | ct δ G' => rw [e] at q'; exact q'.elim
    | no => rw [e] at q'; exact q'.elim
  refine wpAny_mono (body.run [] s1 (L2.start N vs) H _ I qs) (fun fl s' z => ?_) fun _ _ z => z
  cases fl with
  | ret u =>
    obtain ⟨v, _, H', J, rv, z⟩ := z
    exact ⟨v, H', J.os, J.bare, J.base, J.hok, rv, z⟩
  | next =>
    obtain ⟨_, H', J, z⟩ := z
    exact ⟨.non, H', J.os, J.bare, J.base, J.hok, rfl, z⟩
  | brk => obtain ⟨_, _, _, z⟩ := z; exact z.elim
  | cont => obtain ⟨_, _, _, z⟩ := z; exact z.elim
end
section
variable {X : Cx} {W : WX} {pos p : Pos}
theorem Sat.w {α β : Type} {K : PySem.W.Frag} {W W' : WX} {L : Lk} {σ σ' : St} {rep : Lk → α → β → Prop} {r : R α} {Q : β → Hp → Prop} (h : Sat K W L σ rep r Q) (hw : ∀ c dx H, W c dx σ H → W' c dx σ' H) : Sat K W' L σ' rep r Q := by
  cases r with
  | ok d G => exact h
  | ex x G => exact fun L' H' c dx le hr xr => hw _ _ _ (h L' H' c dx le hr xr)
  | no => exact h
def eCall (n : Nat) (F : List D → GH → R D) (dds : List D) (g : FA) : FE := fun δ G => (g δ G).bind fun ds G1 => if (ds ++ dds).length = n then F (ds ++ dds) G1 else .no
theorem xe_callD {k : Nat} {f : Addr} {fd : FuncData} {ps : List Str} {F : List D → GH → R D} {ds : List Value} {dvs : List V} {dds : List D} {x : Str} {e : Expr} {es : List Expr} {g : FA} (tk : Takes X W)
    (Fn : FnD X.prog X.w X.K X.mg X.base k f fd ps F) (hr : Room k X.A) (hgd : X.A.guards = some []) (hm : X.mg x = some (.ref f)) (hk : PySem.W.keepIn X.K (.ref f) = true) (hb : Binds X.K fd ps ds) (hd : Vals dvs ds) (rd : ∀ L : Lk, Reps X.K L.Z L.r dds dvs)
    (ha : xA X W (e :: es) g) (hg : Gl X x := by rfl) (hdb : (x == ("__debug__" : Str)) = false := by decide) (he : starEach (e :: es) X.env = (false, eval e X.env) :: starEach es X.env := by rfl) (hpl : (backTo pos (starEach es X.env)).any (·.1) = false := by rfl) :
    xE X W (.Call (.Name x p) (e :: es) [] pos) (eCall ps.length F dds g) := by
  refine ⟨fun pins s σ H Q I h => wpAny_Call_Name_kw (ld_glob I hg hm ?_ hdb)⟩
  obtain ⟨L, δ, G, hr', er, q⟩ := h
  refine PySem.W.callWith_K (h₀ := X.base) I.ok.mod.kin hk (thn (ha.run pos pins s σ H (fun vs H1 => spD X.K ps.length F (vs ++ dvs) H1 Q (fun c d H => W c d σ H)) I
    (Sat.bind (rep' := repD X.K) hr' er q fun L1 G1 H1 as vs le hr1 er1 ra q1 => by
      have t : Reps X.K L1.Z L1.r (as ++ dds) (vs ++ dvs) := Reps.append ra (rd L1)
      by_cases hl : (as ++ dds).length = ps.length
      · rw [if_pos hl] at q1
        exact ⟨by rw [← t.length]; exact hl, L1, as ++ dds, G1, hr1, t, Sat.w q1 fun _ _ _ h => h⟩
      · rw [if_neg hl] at q1; exact q1.elim)) fun us s1 ⟨vs, H1, I1, r, pr⟩ => ⟨I1.kIn, ?_⟩) he hpl
  have rall : Vals (vs ++ dvs) (us ++ ds) := r.append hd
  have hl : (us ++ ds).length = ps.length := by rw [← rall.length]; exact pr.1
  refine wpAny_call (codeAny_mono (Fn.go X.A X.stack s1 H1 ⟨us, []⟩ (us ++ ds) (vs ++ dvs) Q _ hr hgd I1.env0 (hb s1 us I1.kIn hl) rall pr) fun out s' z => ?_)
  match out, z with
  | .error e, z => exact passAt tk σ pins H1 s1 e s' I1 z
  | .ok (.ret u), z => exact I1.after z
  | .ok .next, z => exact False.elim z
  | .ok .brk, z => exact False.elim z
  | .ok .cont, z => exact False.elim z
end
end CF
end
section
set_option maxRecDepth 100000
set_option maxHeartbeats 1000000
namespace CF
open PySem PySem.Spec PyProof.Rows L2
mutual
def fzW (rf : Nat → Option D) : D → Option D
  | .non => some .non
  | .bl b => some (.bl b)
  | .int i => some (.int i)
  | .str x => some (.str x)
  | .tup xs => match fzWs rf xs with
    | some ys => some (.tup ys)
    | none => none
  | .pt xs => match fzWs rf xs with
    | some ys => some (.pt ys)
    | none => none
  | .lst xs => match fzWs rf xs with
    | some ys => some (.lst ys)
    | none => none
  | .scr xs => match fzWs rf xs with
    | some ys => some (.scr ys)
    | none => none
  | .dK kvs => match fzWk rf kvs with
    | some ys => some (.dK ys)
    | none => none
  | .dT pw kvs => match fzWt rf kvs with
    | some ys => some (.dT pw ys)
    | none => none
  | .ins C fs => match fzWf rf fs with
    | some ys => some (.ins C ys)
    | none => none
  | .exc a d C fs => match fzWf rf fs with
    | some ys => some (.exc a d C ys)
    | none => none
  | .ref n => rf n
def fzWs (rf : Nat → Option D) : List D → Option (List D)
  | [] => some []
  | x :: r => match fzW rf x, fzWs rf r with
    | some y, some ys => some (y :: ys)
    | _, _ => none
def fzWk (rf : Nat → Option D) : List (Key × D) → Option (List (Key × D))
  | [] => some []
  | (k, x) :: r => match fzW rf x, fzWk rf r with
    | some y, some ys => some ((k, y) :: ys)
    | _, _ => none
def fzWt (rf : Nat → Option D) : List (List Key × D) → Option (List (List Key × D))
  | [] => some []
  | (k, x) :: r => match fzW rf x, fzWt rf r with
    | some y, some ys => some ((k, y) :: ys)
    | _, _ => none
def fzWf (rf : Nat → Option D) : List (Str × D) → Option (List (Str × D))
  | [] => some []
  | (k, x) :: r => match fzW rf x, fzWf rf r with
    | some y, some ys => some ((k, y) :: ys)
    | _, _ => none
end
def fzr (G : GH) (n : Nat) : Nat → Nat → Option D
  | 0, k => if k < n then some (.ref k) else none
  | m + 1, k => if k < n then some (.ref k) else match G[k]? with
    | some (.lst ds) => (match fzWs (fzr G n m) ds with
      | some ys => some (.lst ys)
      | none => none)
    | some (.dK ds) => (match fzWk (fzr G n m) ds with
      | some ys => some (.dK ys)
      | none => none)
    | some (.dT pw _ ds) => (match fzWt (fzr G n m) ds with
      | some ys => some (.dT pw ys)
      | none => none)
    | some (.ins C ds) => (match fzWf (fzr G n m) ds with
      | some ys => some (.ins C ys)
      | none => none)
    | some (.lk _ _ _) => none
    | some (.tab _ _) => none
    | none => none
abbrev fzD (G : GH) (n : Nat) : D → Option D := fzW (fzr G n 4)
def pure0 (d : D) : Prop := ∀ rf, fzW rf d = some d
def pures0 (d : List D) : Prop := ∀ rf, fzWs rf d = some d
theorem pure0_int (b : Int) : pure0 (.int b) := fun _ => by rw [fzW]
theorem pure0_str (b : Str) : pure0 (.str b) := fun _ => by rw [fzW]
theorem pure0_tup {xs : List D} (h : pures0 xs) : pure0 (.tup xs) := fun rf => by rw [fzW, h rf]
theorem pure0_pt {xs : List D} (h : pures0 xs) : pure0 (.pt xs) := fun rf => by rw [fzW, h rf]
theorem pure0_lst {xs : List D} (h : pures0 xs) : pure0 (.lst xs) := fun rf => by rw [fzW, h rf]
theorem pures0_nil : pures0 [] := fun _ => by rw [fzWs]
theorem pures0_cons {x : D} {xs : List D} (h : pure0 x) (t : pures0 xs) : pures0 (x :: xs) := fun rf => by rw [fzWs, h rf, t rf]
theorem pures0_map {α : Type} {f : α → D} (h : ∀ a, pure0 (f a)) : ∀ l : List α, pures0 (l.map f)
  | [] => pures0_nil
  | a :: l => pures0_cons (h a) (pures0_map h l)
noncomputable def zFull (Z : Hp) (r : List Addr) (n : Nat) (H : Hp) : Hp := fun p => match Z p with
  | some o => some o
  | none => open Classical in if ∃ k, n ≤ k ∧ r[k]? = some p then H p else none
theorem zFull_old {Z : Hp} {r : List Addr} {n : Nat} {H : Hp} {p : Addr} {o : HO} (e : Z p = some o) : zFull Z r n H p = some o := by unfold zFull; rw [e]
theorem zFull_new {Z : Hp} {r : List Addr} {n k : Nat} {H : Hp} {p : Addr} (e : Z p = none) (h : n ≤ k) (q : r[k]? = some p) : zFull Z r n H p = H p := by unfold zFull; rw [e]; exact if_pos ⟨k, h, q⟩
theorem zFull_none {Z : Hp} {r : List Addr} {n : Nat} {H : Hp} {p : Addr} (e : Z p = none) (h : ∀ k, n ≤ k → r[k]? ≠ some p) : zFull Z r n H p = none := by
  unfold zFull; rw [e]; exact if_neg fun ⟨k, a, b⟩ => h k a b
section
variable {K : PySem.W.Frag}
def RfOk (K : PySem.W.Frag) (L1 : Lk) (Z' : Hp) (r' : List Addr) (rf : Nat → Option D) : Prop := ∀ k d' a, rf k = some d' → L1.r[k]? = some a → Rep K Z' r' d' (.ref a)
mutual
theorem fzW_rep {L1 : Lk} {Z' : Hp} {r' : List Addr} {rf : Nat → Option D} (hz : ∀ p o, L1.Z p = some o → Z' p = some o) (hf : RfOk K L1 Z' r' rf) : ∀ (d d' : D) (v : V), fzW rf d = some d' → Rep K L1.Z L1.r d v → Rep K Z' r' d' v
  | .non, _, _, e, h => by rw [fzW] at e; cases e; cases h; exact .non
  | .bl b, _, _, e, h => by rw [fzW] at e; cases e; cases h; exact .bl b
  | .int b, _, _, e, h => by rw [fzW] at e; cases e; cases h; exact .int b
  | .str b, _, _, e, h => by rw [fzW] at e; cases e; cases h; exact .str b
  | .tup xs, _, _, e, h => by
    rw [fzW] at e
    cases q : fzWs rf xs with
    | none => rw [q] at e; cases e
    | some ys =>
      rw [q] at e; cases e
      cases h with
      | tup z t => exact .tup (z.mono hz) (fzWs_rep hz hf xs ys _ q t)
  | .pt xs, _, _, e, h => by
    rw [fzW] at e
    cases q : fzWs rf xs with
    | none => rw [q] at e; cases e
    | some ys =>
      rw [q] at e; cases e
      cases h with
      | pt z k t => exact .pt (hz _ _ z) k (fzWs_rep hz hf xs ys _ q t)
  | .lst xs, _, _, e, h => by
    rw [fzW] at e
    cases q : fzWs rf xs with
    | none => rw [q] at e; cases e
    | some ys =>
      rw [q] at e; cases e
      cases h with
      | lst z t => exact .lst (hz _ _ z) (fzWs_rep hz hf xs ys _ q t)
  | .scr xs, _, _, e, h => by
    rw [fzW] at e
    cases q : fzWs rf xs with
    | none => rw [q] at e; cases e
    | some ys =>
      rw [q] at e; cases e
      cases h with
      | scr z t => exact .scr (z.mono hz) (fzWs_rep hz hf xs ys _ q t)
  | .dK xs, _, _, e, h => by
    rw [fzW] at e
    cases q : fzWk rf xs with
    | none => rw [q] at e; cases e
    | some ys =>
      rw [q] at e; cases e
      cases h with
      | dK z k t =>
        obtain ⟨a, b⟩ := fzWk_rep hz hf xs ys _ q t
        exact .dK (hz _ _ z) (a.trans k) b
  | .dT pw xs, _, _, e, h => by
    rw [fzW] at e
    cases q : fzWt rf xs with
    | none => rw [q] at e; cases e
    | some ys =>
      rw [q] at e; cases e
      cases h with
      | dT z x k t =>
        obtain ⟨a, b⟩ := fzWt_rep hz hf xs ys _ q t
        exact .dT (hz _ _ z) (x.mono hz) (a.trans k) b
  | .ins C xs, _, _, e, h => by
    rw [fzW] at e
    cases q : fzWf rf xs with
    | none => rw [q] at e; cases e
    | some ys =>
      rw [q] at e; cases e
      cases h with
      | ins z k t =>
        obtain ⟨a, b⟩ := fzWf_rep hz hf xs ys _ q t
        exact .ins (hz _ _ z) (a.trans k) b
  | .exc a0 d0 C xs, _, _, e, h => by
    rw [fzW] at e
    cases q : fzWf rf xs with
    | none => rw [q] at e; cases e
    | some ys =>
      rw [q] at e; cases e
      cases h with
      | exc z k t =>
        obtain ⟨a, b⟩ := fzWf_rep hz hf xs ys _ q t
        exact .exc (hz _ _ z) (a.trans k) b
  | .ref k, _, _, e, h => by
    rw [fzW] at e
    cases h with
    | ref q => exact hf k _ _ e q
theorem fzWs_rep {L1 : Lk} {Z' : Hp} {r' : List Addr} {rf : Nat → Option D} (hz : ∀ p o, L1.Z p = some o → Z' p = some o) (hf : RfOk K L1 Z' r' rf) : ∀ (d d' : List D) (v : List V), fzWs rf d = some d' → Reps K L1.Z L1.r d v → Reps K Z' r' d' v
  | [], _, _, e, h => by rw [fzWs] at e; cases e; cases h; exact .nil
  | x :: r, _, _, e, h => by
    rw [fzWs] at e
    cases q1 : fzW rf x with
    | none => rw [q1] at e; cases e
    | some y =>
      cases q2 : fzWs rf r with
      | none => rw [q1, q2] at e; cases e
      | some ys =>
        rw [q1, q2] at e; cases e
        cases h with
        | cons a b => exact .cons (fzW_rep hz hf x y _ q1 a) (fzWs_rep hz hf r ys _ q2 b)
theorem fzWk_rep {L1 : Lk} {Z' : Hp} {r' : List Addr} {rf : Nat → Option D} (hz : ∀ p o, L1.Z p = some o → Z' p = some o) (hf : RfOk K L1 Z' r' rf) : ∀ (d d' : List (Key × D)) (v : List V), fzWk rf d = some d' → Reps K L1.Z L1.r (d.map (·.2)) v → d'.map (·.1) = d.map (·.1) ∧ Reps K Z' r' (d'.map (·.2)) v
  | [], _, _, e, h => by rw [fzWk] at e; cases e; cases h; exact ⟨rfl, .nil⟩
  | (k, x) :: r, _, _, e, h => by
    rw [fzWk] at e
    cases q1 : fzW rf x with
    | none => rw [q1] at e; cases e
    | some y =>
      cases q2 : fzWk rf r with
      | none => rw [q1, q2] at e; cases e
      | some ys =>
        rw [q1, q2] at e; cases e
        cases h with
        | cons a b =>
          obtain ⟨c, d⟩ := fzWk_rep hz hf r ys _ q2 b
          exact ⟨by simp [c], .cons (fzW_rep hz hf x y _ q1 a) d⟩
theorem fzWt_rep {L1 : Lk} {Z' : Hp} {r' : List Addr} {rf : Nat → Option D} (hz : ∀ p o, L1.Z p = some o → Z' p = some o) (hf : RfOk K L1 Z' r' rf) : ∀ (d d' : List (List Key × D)) (v : List V), fzWt rf d = some d' → Reps K L1.Z L1.r (d.map (·.2)) v → d'.map (·.1) = d.map (·.1) ∧ Reps K Z' r' (d'.map (·.2)) v
  | [], _, _, e, h => by rw [fzWt] at e; cases e; cases h; exact ⟨rfl, .nil⟩
  | (k, x) :: r, _, _, e, h => by
    rw [fzWt] at e
    cases q1 : fzW rf x with
    | none => rw [q1] at e; cases e
    | some y =>
      cases q2 : fzWt rf r with
      | none => rw [q1, q2] at e; cases e
      | some ys =>
        rw [q1, q2] at e; cases e
        cases h with
        | cons a b =>
          obtain ⟨c, d⟩ := fzWt_rep hz hf r ys _ q2 b
          exact ⟨by simp [c], .cons (fzW_rep hz hf x y _ q1 a) d⟩
theorem fzWf_rep {L1 : Lk} {Z' : Hp} {r' : List Addr} {rf : Nat → Option D} (hz : ∀ p o, L1.Z p = some o → Z' p = some o) (hf : RfOk K L1 Z' r' rf) : ∀ (d d' : List (Str × D)) (v : List V), fzWf rf d = some d' → Reps K L1.Z L1.r (d.map (·.2)) v → d'.map (·.1) = d.map (·.1) ∧ Reps K Z' r' (d'.map (·.2)) v
  | [], _, _, e, h => by rw [fzWf] at e; cases e; cases h; exact ⟨rfl, .nil⟩
  | (k, x) :: r, _, _, e, h => by
    rw [fzWf] at e
    cases q1 : fzW rf x with
    | none => rw [q1] at e; cases e
    | some y =>
      cases q2 : fzWf rf r with
      | none => rw [q1, q2] at e; cases e
      | some ys =>
        rw [q1, q2] at e; cases e
        cases h with
        | cons a b =>
          obtain ⟨c, d⟩ := fzWf_rep hz hf r ys _ q2 b
          exact ⟨by simp [c], .cons (fzW_rep hz hf x y _ q1 a) d⟩
end
theorem fzr_ok {L1 : Lk} {G1 : GH} {H : Hp} {n : Nat} {Z' : Hp} {r' : List Addr} (hr : HR K L1 G1 H) (hz : ∀ p o, L1.Z p = some o → Z' p = some o) (hk : ∀ k a, k < n → L1.r[k]? = some a → r'[k]? = some a)
    (hn : ∀ k a, n ≤ k → L1.r[k]? = some a → Z' a = H a) : ∀ m, RfOk K L1 Z' r' (fzr G1 n m)
  | 0 => fun k d' a e q => by
    unfold fzr at e
    by_cases h : k < n
    · rw [if_pos h] at e; cases e; exact .ref (hk k a h q)
    · rw [if_neg h] at e; cases e
  | m + 1 => fun k d' a e q => by
    have ih := fzr_ok hr hz hk hn m
    unfold fzr at e
    by_cases h : k < n
    · rw [if_pos h] at e; cases e; exact .ref (hk k a h q)
    · rw [if_neg h] at e
      have hl : k < G1.length := by rw [← hr.len]; exact (List.getElem?_eq_some_iff.mp q).1
      have c := hr.cell k a G1[k] q (by simp [hl])
      have za : Z' a = H a := hn k a (by omega) q
      rw [List.getElem?_eq_getElem hl] at e
      cases g : G1[k] with
      | lst ds =>
        rw [g] at e c
        dsimp only at e
        cases c with
        | lst h0 t =>
          cases q1 : fzWs (fzr G1 n m) ds with
          | none => rw [q1] at e; cases e
          | some ys =>
            rw [q1] at e; cases e
            exact .lst (za.trans h0) (fzWs_rep hz ih ds ys _ q1 t)
      | dK ds =>
        rw [g] at e c
        dsimp only at e
        cases c with
        | dK h0 h1 t =>
          cases q1 : fzWk (fzr G1 n m) ds with
          | none => rw [q1] at e; cases e
          | some ys =>
            rw [q1] at e; cases e
            obtain ⟨x, y⟩ := fzWk_rep hz ih ds ys _ q1 t
            exact .dK (za.trans h0) (x.trans h1) y
      | dT pw oo ds =>
        rw [g] at e c
        dsimp only at e
        cases c with
        | dT hq h0 hx h1 t =>
          cases q1 : fzWt (fzr G1 n m) ds with
          | none => rw [q1] at e; cases e
          | some ys =>
            rw [q1] at e; cases e
            obtain ⟨x, y⟩ := fzWt_rep hz ih ds ys _ q1 t
            exact .dT (za.trans h0) (hx.mono hz) (x.trans h1) y
      | ins C ds =>
        rw [g] at e c
        dsimp only at e
        cases c with
        | ins h0 h1 t =>
          cases q1 : fzWf (fzr G1 n m) ds with
          | none => rw [q1] at e; cases e
          | some ys =>
            rw [q1] at e; cases e
            obtain ⟨x, y⟩ := fzWf_rep hz ih ds ys _ q1 t
            exact .ins (za.trans h0) (x.trans h1) y
      | lk ds o us =>
        rw [g] at e
        cases e
      | tab P q =>
        rw [g] at e
        cases e
theorem fzWk_of (rf : Nat → Option D) : ∀ (l : List (Key × D)), fzWs rf (l.map (·.2)) = some (l.map (·.2)) → fzWk rf l = some l
  | [], _ => by rw [fzWk]
  | (k, x) :: r, e => by
    rw [List.map_cons, fzWs] at e
    rw [fzWk]
    cases q1 : fzW rf x with
    | none => rw [q1] at e; cases e
    | some y =>
      cases q2 : fzWs rf (r.map (·.2)) with
      | none => rw [q1, q2] at e; cases e
      | some ys =>
        rw [q1, q2] at e
        have e' := Option.some.inj e
        injection e' with e1 e2
        subst e1
        rw [fzWk_of rf r (by rw [q2, e2])]
theorem fzWt_of (rf : Nat → Option D) : ∀ (l : List (List Key × D)), fzWs rf (l.map (·.2)) = some (l.map (·.2)) → fzWt rf l = some l
  | [], _ => by rw [fzWt]
  | (k, x) :: r, e => by
    rw [List.map_cons, fzWs] at e
    rw [fzWt]
    cases q1 : fzW rf x with
    | none => rw [q1] at e; cases e
    | some y =>
      cases q2 : fzWs rf (r.map (·.2)) with
      | none => rw [q1, q2] at e; cases e
      | some ys =>
        rw [q1, q2] at e
        have e' := Option.some.inj e
        injection e' with e1 e2
        subst e1
        rw [fzWt_of rf r (by rw [q2, e2])]
theorem fzWf_of (rf : Nat → Option D) : ∀ (l : List (Str × D)), fzWs rf (l.map (·.2)) = some (l.map (·.2)) → fzWf rf l = some l
  | [], _ => by rw [fzWf]
  | (k, x) :: r, e => by
    rw [List.map_cons, fzWs] at e
    rw [fzWf]
    cases q1 : fzW rf x with
    | none => rw [q1] at e; cases e
    | some y =>
      cases q2 : fzWs rf (r.map (·.2)) with
      | none => rw [q1, q2] at e; cases e
      | some ys =>
        rw [q1, q2] at e
        have e' := Option.some.inj e
        injection e' with e1 e2
        subst e1
        rw [fzWf_of rf r (by rw [q2, e2])]
mutual
theorem rep_closed {Z : Hp} {r : List Addr} : ∀ {d : D} {v : V}, Rep K Z r d v → fzW (fzr [] r.length 0) d = some d
  | _, _, .non => by rw [fzW]
  | _, _, .bl _ => by rw [fzW]
  | _, _, .int _ => by rw [fzW]
  | _, _, .str _ => by rw [fzW]
  | _, _, .tup _ t => by rw [fzW, reps_closed t]
  | _, _, .lst _ t => by rw [fzW, reps_closed t]
  | _, _, .pt _ _ t => by rw [fzW, reps_closed t]
  | _, _, .dK _ _ t => by rw [fzW, fzWk_of _ _ (reps_closed t)]
  | _, _, .dT _ _ _ t => by rw [fzW, fzWt_of _ _ (reps_closed t)]
  | _, _, .ins _ _ t => by rw [fzW, fzWf_of _ _ (reps_closed t)]
  | _, _, .exc _ _ t => by rw [fzW, fzWf_of _ _ (reps_closed t)]
  | _, _, .scr _ t => by rw [fzW, reps_closed t]
  | _, _, .ref q => by
    rw [fzW]
    unfold fzr
    rw [if_pos (List.getElem?_eq_some_iff.mp q).1]
theorem reps_closed {Z : Hp} {r : List Addr} : ∀ {d : List D} {v : List V}, Reps K Z r d v → fzWs (fzr [] r.length 0) d = some d
  | _, _, .nil => by rw [fzWs]
  | _, _, .cons x t => by rw [fzWs, rep_closed x, reps_closed t]
end
def closedC (n : Nat) : Cell → Prop
  | .lst ds => fzWs (fzr [] n 0) ds = some ds
  | .dK ds => fzWk (fzr [] n 0) ds = some ds
  | .dT _ _ ds => fzWt (fzr [] n 0) ds = some ds
  | .ins _ ds => fzWf (fzr [] n 0) ds = some ds
  | .lk ds _ _ => fzWk (fzr [] n 0) ds = some ds
  | .tab _ _ => True
def kept (G G1 : GH) : Prop := G.length ≤ G1.length ∧ ∀ k c, k < G.length → G1[k]? = some c → G[k]? = some c ∨ closedC G.length c
theorem HR.cut {L L1 : Lk} {G G1 : GH} {H0 H : Hp} (h0 : HR K L G H0) (le : L.le L1) (hr : HR K L1 G1 H) (kp : kept G G1) :
    L.le ⟨zFull L1.Z L1.r G.length H, L1.r.take G.length, L1.F⟩ ∧ HR K ⟨zFull L1.Z L1.r G.length H, L1.r.take G.length, L1.F⟩ (G1.take G.length) H := by
  have hz : ∀ p o, L1.Z p = some o → zFull L1.Z L1.r G.length H p = some o := fun p o e => zFull_old e
  have hk : ∀ (k : Nat) (a : Addr), k < G.length → L1.r[k]? = some a → (L1.r.take G.length)[k]? = some a := fun k a h q => by rw [List.getElem?_take_of_lt h]; exact q
  have hk' : ∀ (k : Nat) (a : Addr), (L1.r.take G.length)[k]? = some a → k < G.length ∧ L1.r[k]? = some a := fun k a q => by
    have hl := (List.getElem?_eq_some_iff.mp q).1
    rw [List.length_take] at hl
    have : k < G.length := by omega
    rw [List.getElem?_take_of_lt this] at q
    exact ⟨this, q⟩
  have hnew : ∀ (k : Nat) (a : Addr), G.length ≤ k → L1.r[k]? = some a → zFull L1.Z L1.r G.length H a = H a := fun k a h q => zFull_new (hr.dis k a q) h q
  have l0 : ∀ {n : Nat} {x : Addr}, L.r[n]? = some x → n < G.length := fun {n x} e => by rw [← h0.len]; exact (List.getElem?_eq_some_iff.mp e).1
  have lk : L.le ⟨zFull L1.Z L1.r G.length H, L1.r.take G.length, L1.F⟩ := ⟨fun p o e => hz p o (le.z p o e), fun n x e => hk n x (l0 e) (le.r n x e), le.f⟩
  refine ⟨lk, ⟨fun p o e => ?_, ?_, fun k a c e1 e2 => ?_, fun n m a e1 e2 => hr.inj n m a (hk' n a e1).2 (hk' m a e2).2, fun k a e => ?_, hr.fr, fun k a e => hr.fd k a (hk' k a e).2, fun p o e => ?_⟩⟩
  · have e' : zFull L1.Z L1.r G.length H p = some o := e
    cases q : L1.Z p with
    | some u =>
      rw [hz p u q] at e'
      have e2 := Option.some.inj e'
      subst e2
      exact hr.z p _ q
    | none =>
      by_cases h : ∃ k, G.length ≤ k ∧ L1.r[k]? = some p
      · obtain ⟨k, a, b⟩ := h
        rw [zFull_new q a b] at e'
        exact .inl e'
      · rw [zFull_none q fun k a b => h ⟨k, a, b⟩] at e'; cases e'
  · show (L1.r.take G.length).length = (G1.take G.length).length
    rw [List.length_take, List.length_take, hr.len]
  · obtain ⟨hkl, q⟩ := hk' k a e1
    rw [List.getElem?_take_of_lt hkl] at e2
    have c1 := hr.cell k a c q e2
    have rf0 : ∀ (Z : Hp) (H' : Hp), (∀ p o, Z p = some o → zFull L1.Z L1.r G.length H p = some o) → RfOk K ⟨L1.Z, L1.r, L1.F⟩ (zFull L1.Z L1.r G.length H) (L1.r.take G.length) (fzr [] G.length 0) := fun _ _ _ => fun k d' a e q => by
      unfold fzr at e
      by_cases h : k < G.length
      · rw [if_pos h] at e; cases e; exact .ref (hk k a h q)
      · rw [if_neg h] at e; cases e
    have rf := rf0 L1.Z H hz
    have fin : closedC G.length c → CellAt K ⟨zFull L1.Z L1.r G.length H, L1.r.take G.length, L1.F⟩ H c a := fun cl => by
      cases c1 with
      | lst h t => exact .lst h (fzWs_rep (L1 := L1) hz rf _ _ _ cl t)
      | dK h k t => exact .dK h k (fzWk_rep (L1 := L1) hz rf _ _ _ cl t).2
      | dT hq h x k t => exact .dT hq h (x.mono hz) k (fzWt_rep (L1 := L1) hz rf _ _ _ cl t).2
      | ins h k t => exact .ins h k (fzWf_rep (L1 := L1) hz rf _ _ _ cl t).2
      | lk h k t => exact .lk h k (fzWk_rep (L1 := L1) hz rf _ _ _ cl t).2
      | tab h k t => exact .tab h k fun pos cv hc => (t pos cv hc).elim fun c h2 => ⟨c, h2.1, hz _ _ h2.2⟩
    rcases kp.2 k c hkl e2 with old | cl
    ·
      have hak : ∃ b, L.r[k]? = some b := ⟨_, List.getElem?_eq_getElem (by rw [h0.len]; exact hkl)⟩
      obtain ⟨b, hb⟩ := hak
      have c0 := h0.cell k b c hb old
      refine fin ?_
      rw [← h0.len]
      cases c0 with
      | lst h t => exact reps_closed t
      | dK h k t => exact fzWk_of _ _ (reps_closed t)
      | dT hq h x k t => exact fzWt_of _ _ (reps_closed t)
      | ins h k t => exact fzWf_of _ _ (reps_closed t)
      | lk h k t => exact fzWk_of _ _ (reps_closed t)
      | tab h k t => exact True.intro
    · exact fin cl
  · obtain ⟨hkl, q⟩ := hk' k a e
    exact zFull_none (hr.dis k a q) fun j hj b => by have := hr.inj j k a b q; omega
  · rcases hr.fz p o e with z | z
    · exact .inl z
    · refine .inr (zFull_none z fun k _ b => ?_)
      have := hr.fd k p b
      rw [e] at this; cases this
noncomputable def fzR (G : GH) (r : R D) : R D := match r with
  | .ok d G1 => (open Classical in if kept G G1 then (match fzD G1 G.length d with
    | some d' => .ok d' (G1.take G.length)
    | none => .no) else .no)
  | .ex x G1 => (open Classical in if kept G G1 then (match fzWf (fzr G1 G.length 4) x.fs with
    | some fs => .ex ⟨x.cls, fs⟩ (G1.take G.length)
    | none => .no) else .no)
  | .no => .no
theorem Sat.fz {W : WX} {L : Lk} {G : GH} {H0 : Hp} {σ : St} {r : R D} {Q : VK} (h0 : HR K L G H0) (h : Sat K W L σ (repD K) (fzR G r) Q) : Sat K W L σ (repD K) r Q := by
  have pre : ∀ {L1 : Lk} {G1 : GH} {H : Hp}, HR K L1 G1 H → RfOk K L1 (zFull L1.Z L1.r G.length H) (L1.r.take G.length) (fzr G1 G.length 4) := fun {L1 G1 H} hr =>
    fzr_ok hr (fun p o e => zFull_old e) (fun k a h q => by rw [List.getElem?_take_of_lt h]; exact q) (fun k a h q => zFull_new (hr.dis k a q) h q) 4
  cases r with
  | ok d G1 =>
    intro L1 H v le hr rd
    unfold fzR at h
    dsimp only at h
    by_cases kp : kept G G1
    · rw [if_pos kp] at h
      cases q : fzD G1 G.length d with
      | none => rw [q] at h; exact h.elim
      | some d' =>
        rw [q] at h
        obtain ⟨l2, hr2⟩ := HR.cut h0 le hr kp
        exact h _ H v l2 hr2 (fzW_rep (fun p o e => zFull_old e) (pre hr) d d' v q rd)
    · rw [if_neg kp] at h; exact h.elim
  | ex x G1 =>
    intro L1 H c dx le hr xr
    unfold fzR at h
    dsimp only at h
    by_cases kp : kept G G1
    · rw [if_pos kp] at h
      cases q : fzWf (fzr G1 G.length 4) x.fs with
      | none => rw [q] at h; exact h.elim
      | some fs =>
        rw [q] at h
        obtain ⟨l2, hr2⟩ := HR.cut h0 le hr kp
        obtain ⟨e1, d, fv, e2, e3, e4, e5⟩ := xr
        obtain ⟨a, b⟩ := fzWf_rep (fun p o e => zFull_old e) (pre hr) _ _ _ q e5
        exact h _ H c dx l2 hr2 ⟨e1, d, fv, e2, zFull_old e3, a.trans e4, b⟩
    · rw [if_neg kp] at h; exact h.elim
  | no => exact h
theorem FnD.le {P : Program} {w : World} {mg : Str → Option Value} {base : Heap} {k : Nat} {f : Addr} {fd : FuncData} {ps : List Str} {F F' : List D → GH → R D} (h : FnD P w K mg base k f fd ps F)
    (i : ∀ ds G, F' ds G = .no ∨ F' ds G = fzR G (F ds G)) : FnD P w K mg base k f fd ps F' :=
  ⟨fun B up s H ar us vs Q E room gd e0 bnd rel ⟨hl, L, ds, G, hr, rd, q⟩ => h.go B up s H ar us vs Q E room gd e0 bnd rel ⟨hl, L, ds, G, hr, rd, by
    rcases i ds G with e | e
    · rw [e] at q; exact q.elim
    · rw [e] at q; exact Sat.fz hr q⟩⟩
theorem kept_refl (G J : GH) : kept G (G ++ J) := ⟨by simp, fun k c h e => .inl (by rw [List.getElem?_append_left h] at e; exact e)⟩
theorem fzR_ok {G J : GH} {d d' : D} (e : fzD (G ++ J) G.length d = some d') : fzR G (.ok d (G ++ J)) = .ok d' G := by
  unfold fzR
  dsimp only
  rw [if_pos (kept_refl G J), e]
  simp
end
end CF
end
section
set_option maxRecDepth 100000
set_option maxHeartbeats 1000000
namespace CF
open PySem PySem.Spec PyProof.Rows L2
theorem reps_flat {K : PySem.W.Frag} {Z : Hp} {r : List Addr} : ∀ {ds : List D} {vs : List V}, Reps K Z r ds vs → ds.all flatD = vs.all flatV
  | _, _, .nil => rfl
  | _, _, .cons x t => by
    rw [List.all_cons, List.all_cons, reps_flat t]
    cases x <;> rfl
theorem rep_flat {K : PySem.W.Frag} {Z : Hp} {r : List Addr} {d : D} {v : V} (h : Rep K Z r d v) : flatD d = flatV v := by cases h <;> rfl
theorem rep_eqF {K : PySem.W.Frag} {Z : Hp} {r : List Addr} {d e : D} {v u : V} (h : Rep K Z r d v) (k : Rep K Z r e u) (f : flatD d = true) (f' : flatD e = true) : eqF d e = eqV v u := by
  cases h <;> cases k <;> first | rfl | exact absurd f (by simp [flatD]) | exact absurd f' (by simp [flatD])
theorem reps_any {K : PySem.W.Frag} {Z : Hp} {r : List Addr} {x : D} {u : V} (hx : Rep K Z r x u) (fx : flatD x = true) : ∀ {ds : List D} {vs : List V}, Reps K Z r ds vs → ds.all flatD = true → (ds.any fun y => eqF y x) = inV u vs
  | _, _, .nil, _ => rfl
  | _, _, .cons h t, f => by
    rw [List.all_cons, Bool.and_eq_true] at f
    unfold inV
    rw [List.any_cons, List.any_cons, rep_eqF h hx f.1 fx, reps_any hx fx t f.2]
    rfl
def dInS (x : D) (ys : List D) : Option Bool := if flatD x && ys.all flatD then some (ys.any fun y => eqF y x) else none
def inD (G : GH) (x y : D) : Option Bool := match y with
  | .str z => (match x with
    | .str w => some (!(Builtin.Str.occurrences z w 0 z.length 1).isEmpty)
    | _ => none)
  | .tup ys => dInS x ys
  | y => match lstOf G y with
    | some ys => dInS x ys
    | none => (dGetO G y x).map (·.isSome)
def dIn : F2 := fun x y G => match inD G x y with
  | some b => .ok (.bl b) G
  | none => .no
def dNotIn : F2 := fun x y G => match inD G x y with
  | some b => .ok (.bl (!b)) G
  | none => .no
def rInDK (neg : Bool) : R2 := fun y x H Q => ∃ a o, x = .ref a ∧ DGet H a y o ∧ Q (.bl (if neg then !o.isSome else o.isSome)) H
def rInStr (neg : Bool) : R2 := fun x y H Q => ∃ i j, x = .str i ∧ y = .str j ∧ Q (.bl (if neg then !(!(Builtin.Str.occurrences j i 0 j.length 1).isEmpty) else !(Builtin.Str.occurrences j i 0 j.length 1).isEmpty)) H
def rInAll (K : PySem.W.Frag) (neg : Bool) : R2 := fun x y H Q => (rInStr neg x y H Q ∨ rIn K neg x y H Q) ∨ rInDK neg x y H Q
section
variable {X : Cx}
theorem op_inDK (hu : X.A.units + 1 < cLine) : OpR X (compareOp .In) (rInDK false) := fun pins s σ H y x u v Q I ry rx ⟨a, o, e, g, q⟩ => by
  subst e; cases rx
  exact d_in hu I g ry fun s' I' => ⟨.bl o.isSome, H, I', rfl, q⟩
theorem op_notInDK (hu : X.A.units + 1 < cLine) : OpR X (compareOp .NotIn) (rInDK true) := fun pins s σ H y x u v Q I ry rx ⟨a, o, e, g, q⟩ => by
  subst e; cases rx
  exact d_notIn hu I g ry fun s' I' => ⟨.bl (!o.isSome), H, I', rfl, q⟩
theorem opr_in (hu : X.A.units + 1 < cLine) : OpR X (compareOp .In) (rInAll X.K false) := (OpR.or (show OpR X (compareOp .In) (rInStr false) from op_in_str) op_in_seq).or (op_inDK hu)
theorem opr_notIn (hu : X.A.units + 1 < cLine) : OpR X (compareOp .NotIn) (rInAll X.K true) := (OpR.or (show OpR X (compareOp .NotIn) (rInStr true) from op_notin_str) op_notIn_seq).or (op_notInDK hu)
theorem inD_rep {K : PySem.W.Frag} {L : Lk} {G : GH} {H : Hp} (hr : HR K L G H) {x y : D} {v u : V} {b neg : Bool} {Q : VK} (rx : Rep K L.Z L.r x v) (ry : Rep K L.Z L.r y u) (e : inD G x y = some b) (q : Q (.bl (if neg then !b else b)) H) : rInAll K neg v u H Q := by
  have seq : ∀ (ys : List D) (p : Addr) (vs : List V), u = .ref p → (SqL K H p vs ∨ SqT K H p vs) → Reps K L.Z L.r ys vs → dInS x ys = some b → rInAll K neg v u H Q := fun ys p vs eu s t e => by
    unfold dInS at e
    by_cases f : (flatD x && ys.all flatD) = true
    · rw [if_pos f] at e
      cases e
      obtain ⟨f1, f2⟩ := Bool.and_eq_true_iff.mp f
      refine .inl (.inr ⟨p, vs, eu, s, by rw [← rep_flat rx]; exact f1, by rw [← reps_flat t]; exact f2, ?_⟩)
      rw [← reps_any rx f1 t f2]
      exact q
    · rw [if_neg f] at e; cases e
  have gen : (match lstOf G y with | some ys => dInS x ys | none => (dGetO G y x).map (·.isSome)) = some b → rInAll K neg v u H Q := fun e => by
    cases k : lstOf G y with
    | some ys =>
      rw [k] at e
      obtain ⟨p, vs, eu, s, t⟩ := lst_rep hr ry k
      exact seq ys p vs eu (.inl s) t e
    | none =>
      rw [k] at e
      cases k2 : dGetO G y x with
      | none => rw [k2] at e; cases e
      | some o =>
        rw [k2] at e
        cases e
        obtain ⟨p, ov, eu, g, h1, _⟩ := dGetO_rep hr ry rx k2
        refine .inr ⟨p, ov, eu, g, ?_⟩
        rw [h1]; exact q
  cases y with
  | str z =>
    cases x with
    | str w =>
      cases rx; cases ry; cases e
      exact .inl (.inl ⟨w, z, rfl, rfl, q⟩)
    | _ => cases e
  | tup ys =>
    obtain ⟨p, vs, eu, s, t⟩ := tup_rep hr ry
    exact seq ys p vs eu (.inr s) t e
  | _ => exact gen e
theorem o2_in {K : PySem.W.Frag} : Op2 K dIn (rInAll K false) := fun L G H x y v u W σ Q hr rx ry q => by
  unfold dIn at q
  cases e : inD G x y with
  | none => rw [e] at q; exact q.elim
  | some b => rw [e] at q; exact inD_rep hr rx ry e (q L H _ (.refl L) hr (.bl b))
theorem o2_notIn {K : PySem.W.Frag} : Op2 K dNotIn (rInAll K true) := fun L G H x y v u W σ Q hr rx ry q => by
  unfold dNotIn at q
  cases e : inD G x y with
  | none => rw [e] at q; exact q.elim
  | some b => rw [e] at q; exact inD_rep hr rx ry e (q L H _ (.refl L) hr (.bl (!b)))
def isN : D → Bool
  | .non => true
  | _ => false
def dIsN : F2 := fun x y G => match y with
  | .non => .ok (.bl (isN x)) G
  | _ => .no
def dNotN : F2 := fun x y G => match y with
  | .non => .ok (.bl (!isN x)) G
  | _ => .no
theorem isN_rep {K : PySem.W.Frag} {Z : Hp} {r : List Addr} {d : D} {v : V} (h : Rep K Z r d v) : isN d = decide (v = .non) := by cases h <;> rfl
theorem o2_isN {K : PySem.W.Frag} : Op2 K dIsN (fun x y H Q => y = .non ∧ Q (.bl (decide (x = .non))) H) := fun L G H x y v u W σ Q hr rx ry q => by
  cases ry with
  | non => exact ⟨rfl, by rw [← isN_rep rx]; exact q L H _ (.refl L) hr (.bl _)⟩
  | _ => exact q.elim
theorem o2_notN {K : PySem.W.Frag} : Op2 K dNotN (fun x y H Q => y = .non ∧ Q (.bl (!decide (x = .non))) H) := fun L G H x y v u W σ Q hr rx ry q => by
  cases ry with
  | non => exact ⟨rfl, by rw [← isN_rep rx]; exact q L H _ (.refl L) hr (.bl _)⟩
  | _ => exact q.elim
theorem o2_mul {K : PySem.W.Frag} : Op2 K dMulI (rI CMul fun i j => .int (i * j)) := o2_int fun i j h => (of_decide_eq_true h : -(2 ^ 64) < i ∧ i < 2 ^ 64 ∨ -(2 ^ 64) < j ∧ j < 2 ^ 64)
def dNeg (x : D) (G : GH) : R D := match x with
  | .int i => .ok (.int (-i)) G
  | _ => .no
variable {W : WX} {pos p : Pos} {a : Expr} {fa : FE}
def eUn (f : D → GH → R D) (fa : FE) : FE := fun δ G => (fa δ G).bind f
theorem xe_neg (ha : xE X W a fa) : xE X W (.UnaryOp .USub a pos) (eUn dNeg fa) :=
  PEimp (pe_un un_neg ha) fun σ H Q ⟨L, δ, G, hr, er, q⟩ => Sat.bind (rep' := repD X.K) hr er q fun L1 G1 H1 x v le hr1 er1 rx q1 => by
    cases rx with
    | int i => exact ⟨i, rfl, q1 L1 H1 _ (.refl _) hr1 (.int _)⟩
    | _ => exact q1.elim
def eNot (f : FT) : FE := fun δ G => (f δ G).bind fun b G1 => .ok (.bl (!b)) G1
theorem xe_not {f : FE} (ha : xE X W a f) : xE X W (.UnaryOp .Not a pos) (eNot (eTru f)) :=
  PEimp (pe_notT ha) fun σ H Q ⟨L, δ, G, hr, er, q⟩ => by
    have q' : Sat X.K W L σ (repD X.K) ((f δ G).bind fun d G1 => (match truD G1 d with | some b => R.ok b G1 | none => .no).bind fun b G1 => .ok (.bl (!b)) G1) Q := by
      have e : eNot (eTru f) δ G = ((f δ G).bind fun d G1 => (match truD G1 d with | some b => R.ok b G1 | none => .no).bind fun b G1 => .ok (.bl (!b)) G1) := by
        unfold eNot eTru
        cases f δ G <;> rfl
      rw [← e]; exact q
    exact Sat.bind (rep' := repD X.K) hr er q' fun L1 G1 H1 x v le hr1 er1 rx q1 => by
      cases e' : truD G1 x with
      | none => rw [e'] at q1; exact q1.elim
      | some b =>
        rw [e'] at q1
        exact ⟨b, truD_rep hr1 rx e', q1 L1 H1 _ (.refl _) hr1 (.bl _)⟩
def eOr (f g : FE) : FE := fun δ G => (f δ G).bind fun d G1 => match truD G1 d with
  | some true => .ok d G1
  | some false => g δ G1
  | none => .no
def eAnd (f g : FE) : FE := fun δ G => (f δ G).bind fun d G1 => match truD G1 d with
  | some true => g δ G1
  | some false => .ok d G1
  | none => .no
variable {b : Expr} {fb : FE} {rest : List Expr}
theorem xe_one {op : BoolOp} (h : xE X W a fa) : xE X W (.BoolOp op [a] pos) fa := pe_one h
theorem xe_or (ha : xE X W a fa) (hb : xE X W (.BoolOp .Or (b :: rest) pos) fb) : xE X W (.BoolOp .Or (a :: b :: rest) pos) (eOr fa fb) :=
  PEimp (pe_orT ha hb) fun σ H Q ⟨L, δ, G, hr, er, q⟩ => Sat.bind (rep' := repD X.K) hr er q fun L1 G1 H1 x v le hr1 er1 rx q1 => by
    cases e' : truD G1 x with
    | none => rw [e'] at q1; exact q1.elim
    | some k =>
      rw [e'] at q1
      refine ⟨k, truD_rep hr1 rx e', ?_⟩
      cases k with
      | true => rw [if_pos rfl]; exact q1 L1 H1 v (.refl _) hr1 rx
      | false => rw [if_neg Bool.false_ne_true]; exact ⟨L1, δ, G1, hr1, er1, q1⟩
theorem xe_and (ha : xE X W a fa) (hb : xE X W (.BoolOp .And (b :: rest) pos) fb) : xE X W (.BoolOp .And (a :: b :: rest) pos) (eAnd fa fb) :=
  PEimp (pe_andT ha hb) fun σ H Q ⟨L, δ, G, hr, er, q⟩ => Sat.bind (rep' := repD X.K) hr er q fun L1 G1 H1 x v le hr1 er1 rx q1 => by
    cases e' : truD G1 x with
    | none => rw [e'] at q1; exact q1.elim
    | some k =>
      rw [e'] at q1
      refine ⟨k, truD_rep hr1 rx e', ?_⟩
      cases k with
      | true => rw [if_pos rfl]; exact ⟨L1, δ, G1, hr1, er1, q1⟩
      | false => rw [if_neg Bool.false_ne_true]; exact q1 L1 H1 v (.refl _) hr1 rx
def CbD (K : PySem.W.Frag) (f : List D → GH → R D) (r : List V → Hp → VK → Prop) : Prop := ∀ (L : Lk) (G : GH) (H : Hp) (ds : List D) (vs : List V) (W : WX) (σ : St) (Q : VK), HR K L G H → Reps K L.Z L.r ds vs → Sat K W L σ (repD K) (f ds G) Q → r vs H Q
def eCB (f : List D → GH → R D) (g : FA) : FE := fun δ G => (g δ G).bind f
variable {x : Str} {e : Expr} {es : List Expr} {g : FA} {f : List D → GH → R D} {r : List V → Hp → VK → Prop} {id T : String}
theorem xe_cb (hc : CallR X (.builtin id) r) (o : CbD X.K f r) (hm : X.mg x = none) (hv : bootBuiltins x = some (.builtin id)) (ha : xA X W (e :: es) g) (hg : Gl X x := by rfl) (hn : x ≠ "__name__" := by decide) (hdb : (x == ("__debug__" : Str)) = false := by decide)
    (he : starEach (e :: es) X.env = (false, eval e X.env) :: starEach es X.env := by rfl) (hpl : (backTo pos (starEach es X.env)).any (·.1) = false := by rfl) : xE X W (.Call (.Name x p) (e :: es) [] pos) (eCB f g) :=
  PEimp (pe_callB hc hg hm hv ha hn hdb he hpl) fun σ H Q ⟨L, δ, G, hr, er, q⟩ => Sat.bind (rep' := repD X.K) hr er q fun L1 G1 H1 ds vs le hr1 er1 rd q1 => o L1 G1 H1 ds vs W σ Q hr1 rd q1
theorem xe_cty (hc : CallR X (.type T) r) (o : CbD X.K f r) (hm : X.mg x = none) (hv : bootBuiltins x = some (.type T)) (ha : xA X W (e :: es) g) (hg : Gl X x := by rfl) (hn : x ≠ "__name__" := by decide) (hdb : (x == ("__debug__" : Str)) = false := by decide)
    (he : starEach (e :: es) X.env = (false, eval e X.env) :: starEach es X.env := by rfl) (hpl : (backTo pos (starEach es X.env)).any (·.1) = false := by rfl) : xE X W (.Call (.Name x p) (e :: es) [] pos) (eCB f g) :=
  PEimp (pe_callTy hc hg hm hv ha hn hdb he hpl) fun σ H Q ⟨L, δ, G, hr, er, q⟩ => Sat.bind (rep' := repD X.K) hr er q fun L1 G1 H1 ds vs le hr1 er1 rd q1 => o L1 G1 H1 ds vs W σ Q hr1 rd q1
end
def one (f : D → GH → R D) : List D → GH → R D := fun ds G => match ds with
  | [d] => f d G
  | _ => .no
theorem cb_one {K : PySem.W.Frag} {f : D → GH → R D} {r : List V → Hp → VK → Prop} (h : ∀ (L : Lk) (G : GH) (H : Hp) (d : D) (v : V) (W : WX) (σ : St) (Q : VK), HR K L G H → Rep K L.Z L.r d v → Sat K W L σ (repD K) (f d G) Q → r [v] H Q) : CbD K (one f) r := fun L G H ds vs W σ Q hr rd q => by
  cases rd with
  | nil => exact q.elim
  | cons a t =>
    cases t with
    | nil => exact h L G H _ _ W σ Q hr a q
    | cons _ _ => exact q.elim
def lenO (G : GH) : D → Option Nat
  | .str x => if x.length ≤ sizeLine then some x.length else none
  | .tup xs => some xs.length
  | .pt xs => some xs.length
  | d => match lstOf G d with
    | some xs => some xs.length
    | none => (dKOf G d).map (·.length)
@[simp] theorem lenO_tup (G : GH) (xs : List D) : lenO G (.tup xs) = some xs.length := rfl
@[simp] theorem lenO_pt (G : GH) (xs : List D) : lenO G (.pt xs) = some xs.length := rfl
@[simp] theorem lenO_lst (G : GH) (xs : List D) : lenO G (.lst xs) = some xs.length := rfl
@[simp] theorem lenO_scr (G : GH) (xs : List D) : lenO G (.scr xs) = some xs.length := rfl
@[simp] theorem lenO_dK (G : GH) (xs : List (Key × D)) : lenO G (.dK xs) = some xs.length := rfl
def dLen : D → GH → R D := fun d G => match lenO G d with
  | some n => .ok (.int n) G
  | none => .no
section
variable {X : Cx} {W : WX} {pos p : Pos} {e : Expr} {g : FA}
def rLenA (K : PySem.W.Frag) : List V → Hp → VK → Prop := fun xs H Q => ((∃ p ys, xs = [.ref p] ∧ (SqL K H p ys ∨ SqT K H p ys) ∧ Q (.int ys.length) H) ∨ (∃ z, xs = [.str z] ∧ z.length ≤ sizeLine ∧ Q (.int z.length) H)) ∨ ∃ a kvs, xs = [V.ref a] ∧ Rd H a (.dK kvs) ∧ Q (.int kvs.length) H
theorem call_lenRd : CallR X (.builtin "len") (fun xs H Q => ∃ a kvs, xs = [V.ref a] ∧ Rd H a (.dK kvs) ∧ Q (.int kvs.length) H) := fun pins s σ H xs us Q I r ⟨a, kvs, e, h, q⟩ => by
  subst e
  cases r with
  | cons h1 h2 =>
    cases h1; cases h2
    exact d_len I h fun t s' I' => ⟨.int kvs.length, H, I', ⟨t, rfl⟩, q⟩
theorem callr_len : CallR X (.builtin "len") (rLenA X.K) := (call_len_seq.or call_len_str).or call_lenRd
theorem cb_len {K : PySem.W.Frag} : CbD K (one dLen) (rLenA K) := cb_one fun L G H d v W σ Q hr rd q => by
  unfold dLen at q
  cases e : lenO G d with
  | none => rw [e] at q; exact q.elim
  | some n =>
    rw [e] at q
    have k := q L H _ (.refl L) hr (.int _)
    have gen : (match lstOf G d with | some xs => some xs.length | none => (dKOf G d).map (·.length)) = some n → rLenA K [v] H Q := fun e => by
      cases e1 : lstOf G d with
      | some xs =>
        rw [e1] at e; cases e
        obtain ⟨p, vs, rfl, s, t⟩ := lst_rep hr rd e1
        exact .inl (.inl ⟨p, vs, rfl, .inl s, by rw [← t.length]; exact k⟩)
      | none =>
        rw [e1] at e
        cases e2 : dKOf G d with
        | none => rw [e2] at e; cases e
        | some kds =>
          rw [e2] at e; cases e
          obtain ⟨p, kvs, rfl, h, hk, t⟩ := dK_rep hr rd e2
          have hl := congrArg List.length hk
          simp only [List.length_map] at hl
          exact .inr ⟨p, kvs, rfl, h, by rw [← hl]; exact k⟩
    cases d with
    | str x =>
      cases rd
      have e' : (if x.length ≤ sizeLine then some x.length else none) = some n := e
      by_cases hl : x.length ≤ sizeLine
      · rw [if_pos hl] at e'; cases e'
        exact .inl (.inr ⟨x, rfl, hl, k⟩)
      · rw [if_neg hl] at e'; cases e'
    | tup xs =>
      cases e
      obtain ⟨p, vs, rfl, s, t⟩ := tup_rep hr rd
      exact .inl (.inl ⟨p, vs, rfl, .inr s, by rw [← t.length]; exact k⟩)
    | pt xs =>
      cases e
      obtain ⟨p, vs, rfl, s, t⟩ := tupOf_rep (ds := xs) hr rd rfl
      exact .inl (.inl ⟨p, vs, rfl, .inr s, by rw [← t.length]; exact k⟩)
    | _ => exact gen e
theorem xe_len (hm : X.mg "len" = none) (ha : xA X W [e] g) (hg : Gl X "len" := by rfl) (he : starEach [e] X.env = (false, eval e X.env) :: starEach [] X.env := by rfl) : xE X W (.Call (.Name "len" p) [e] [] pos) (eCB (one dLen) g) :=
  xe_cb callr_len cb_len hm PySem.boot_len ha hg (by decide) (by decide) he rfl
def blsOf : List D → Option (List Bool)
  | [] => some []
  | .bl b :: r => (blsOf r).map (b :: ·)
  | _ => none
def intsOf : List D → Option (List Int)
  | [] => some []
  | .int b :: r => (intsOf r).map (b :: ·)
  | _ => none
@[simp] theorem blsOf_map (bs : List Bool) : blsOf (bs.map D.bl) = some bs := by induction bs with | nil => rfl | cons b r ih => simp [blsOf, ih]
@[simp] theorem intsOf_map (bs : List Int) : intsOf (bs.map D.int) = some bs := by induction bs with | nil => rfl | cons b r ih => simp [intsOf, ih]
theorem bls_rep {K : PySem.W.Frag} {Z : Hp} {r : List Addr} : ∀ {ds : List D} {vs : List V} {bs : List Bool}, Reps K Z r ds vs → blsOf ds = some bs → vs = bs.map V.bl
  | _, _, _, .nil, e => by cases e; rfl
  | d :: ds, _, bs, .cons h t, e => by
    cases h with
    | bl b =>
      rw [blsOf] at e
      cases q : blsOf ds with
      | none => rw [q] at e; cases e
      | some cs => rw [q] at e; cases e; rw [bls_rep t q]; rfl
    | _ => simp [blsOf] at e
theorem ints_rep {K : PySem.W.Frag} {Z : Hp} {r : List Addr} : ∀ {ds : List D} {vs : List V} {bs : List Int}, Reps K Z r ds vs → intsOf ds = some bs → vs = bs.map V.int
  | _, _, _, .nil, e => by cases e; rfl
  | d :: ds, _, bs, .cons h t, e => by
    cases h with
    | int b =>
      rw [intsOf] at e
      cases q : intsOf ds with
      | none => rw [q] at e; cases e
      | some cs => rw [q] at e; cases e; rw [ints_rep t q]; rfl
    | _ => simp [intsOf] at e
def dAll : D → GH → R D := fun d G => match (lstOf G d).bind blsOf with
  | some bs => .ok (.bl (bs.all id)) G
  | none => .no
def dSum : D → GH → R D := fun d G => match (lstOf G d).bind intsOf with
  | some bs => .ok (.int bs.sum) G
  | none => .no
theorem cb_all {K : PySem.W.Frag} : CbD K (one dAll) (rAll K) := cb_one fun L G H d v W σ Q hr rd q => by
  unfold dAll at q
  cases e : lstOf G d with
  | none => rw [e] at q; exact q.elim
  | some xs =>
    rw [e] at q
    cases e2 : blsOf xs with
    | none => rw [Option.bind_some, e2] at q; exact q.elim
    | some bs =>
      rw [Option.bind_some, e2] at q
      obtain ⟨p, vs, rfl, s, t⟩ := lst_rep hr rd e
      exact ⟨p, bs, rfl, by rw [← bls_rep t e2]; exact s, q L H _ (.refl L) hr (.bl _)⟩
theorem cb_sum {K : PySem.W.Frag} : CbD K (one dSum) (rSum K) := cb_one fun L G H d v W σ Q hr rd q => by
  unfold dSum at q
  cases e : lstOf G d with
  | none => rw [e] at q; exact q.elim
  | some xs =>
    rw [e] at q
    cases e2 : intsOf xs with
    | none => rw [Option.bind_some, e2] at q; exact q.elim
    | some bs =>
      rw [Option.bind_some, e2] at q
      obtain ⟨p, vs, rfl, s, t⟩ := lst_rep hr rd e
      exact ⟨p, bs, rfl, by rw [← ints_rep t e2]; exact s, q L H _ (.refl L) hr (.int _)⟩
theorem xe_all (hc : X.calm = true) (hm : X.mg "all" = none) (ha : xA X W [e] g) (hg : Gl X "all" := by rfl) (he : starEach [e] X.env = (false, eval e X.env) :: starEach [] X.env := by rfl) : xE X W (.Call (.Name "all" p) [e] [] pos) (eCB (one dAll) g) :=
  xe_cb (cr_all hc) cb_all hm (by decide +kernel) ha hg (by decide) (by decide) he rfl
theorem xe_sum (hc : X.calm = true) (hm : X.mg "sum" = none) (ha : xA X W [e] g) (hg : Gl X "sum" := by rfl) (he : starEach [e] X.env = (false, eval e X.env) :: starEach [] X.env := by rfl) : xE X W (.Call (.Name "sum" p) [e] [] pos) (eCB (one dSum) g) :=
  xe_cb (cr_sum hc) cb_sum hm (by decide +kernel) ha hg (by decide) (by decide) he rfl
def dInt : D → GH → R D := fun d G => match d with
  | .int i => .ok (.int i) G
  | .bl k => .ok (.int (if k then 1 else 0)) G
  | _ => .no
theorem cb_int {K : PySem.W.Frag} : CbD K (one dInt) (fun xs H Q => (∃ i, xs = [.int i] ∧ Q (.int i) H) ∨ ∃ k, xs = [.bl k] ∧ Q (.int (if k then 1 else 0)) H) := cb_one fun L G H d v W σ Q hr rd q => by
  cases rd with
  | int i => exact .inl ⟨i, rfl, q L H _ (.refl L) hr (.int _)⟩
  | bl k => exact .inr ⟨k, rfl, q L H _ (.refl L) hr (.int _)⟩
  | _ => exact q.elim
theorem xe_int1 (hm : X.mg "int" = none) (ha : xA X W [e] g) (hg : Gl X "int" := by rfl) (he : starEach [e] X.env = (false, eval e X.env) :: starEach [] X.env := by rfl) : xE X W (.Call (.Name "int" p) [e] [] pos) (eCB (one dInt) g) :=
  xe_cty call_int1 cb_int hm (by decide +kernel) ha hg (by decide) (by decide) he rfl
def dTupP : D → GH → R D := fun d G => match lstOf G d with
  | some xs => .ok (.pt xs) G
  | none => .no
def rTupP (K : PySem.W.Frag) : List V → Hp → VK → Prop := fun xs H Q => ∃ p ys, xs = [.ref p] ∧ SqL K H p ys ∧ ∀ l o, H l = none → o.dict = none → Q (.ref l) (upd H l (.frz o (.tup ys)))
theorem call_tupP : CallR X (.type "tuple") (rTupP X.K) := by
  intro pins s σ H xs us Q I r ⟨p, ys, ex, hq, q⟩
  subst ex
  obtain ⟨u, rfl, rx⟩ := vals1 r
  cases rx
  obtain ⟨its, r', pl, hz⟩ := I.list hq
  have hlen := r'.length
  refine call_tuple_list pl.isList (fun h' kp => ?_) (by simp only [List.size_toArray] <;> omega)
  have I1 : Inv X pins σ H { s with heap := h' } := I.kept (t' := s.toks) kp
  exact ⟨.ref h'.objs.size, _, I1.laid (o := .frz { cls := .type "tuple", data := .seq its.toArray } (.tup ys)) (t' := s.toks) (fun b o e => Heap.get?_push_of_some _ e) (Nat.le_refl _)
    ⟨Heap.get?_push_size _ rfl, hz, its, r', IsTup.new _ _⟩, rfl, q _ _ (I1.hok.fresh (Nat.le_refl _)) rfl⟩
theorem cb_tupP {K : PySem.W.Frag} : CbD K (one dTupP) (rTupP K) := cb_one fun L G H d v W σ Q hr rd q => by
  unfold dTupP at q
  cases e : lstOf G d with
  | none => rw [e] at q; exact q.elim
  | some xs =>
    rw [e] at q
    obtain ⟨p, vs, rfl, s, t⟩ := lst_rep hr rd e
    exact ⟨p, vs, rfl, s, fun l o hl ho => let ⟨a, b, c⟩ := put_pt t hr hl ho; q _ _ _ b a c⟩
theorem xe_tupleP (hm : X.mg "tuple" = none) (ha : xA X W [e] g) (hg : Gl X "tuple" := by rfl) (he : starEach [e] X.env = (false, eval e X.env) :: starEach [] X.env := by rfl) : xE X W (.Call (.Name "tuple" p) [e] [] pos) (eCB (one dTupP) g) :=
  xe_cty call_tupP cb_tupP hm (by decide +kernel) ha hg (by decide) (by decide) he rfl
def dMax2 : List D → GH → R D := fun ds G => match ds with
  | [.int i, .int j] => .ok (.int (if j > i then j else i)) G
  | _ => .no
theorem cb_two {K : PySem.W.Frag} {f : List D → GH → R D} {r : List V → Hp → VK → Prop} (h1 : ∀ ds G, (∀ a b, ds ≠ [a, b]) → f ds G = .no) (h : ∀ (L : Lk) (G : GH) (H : Hp) (a b : D) (v u : V) (W : WX) (σ : St) (Q : VK), HR K L G H → Rep K L.Z L.r a v → Rep K L.Z L.r b u → Sat K W L σ (repD K) (f [a, b] G) Q → r [v, u] H Q) : CbD K f r := fun L G H ds vs W σ Q hr rd q => by
  by_cases hd : ∃ a b, ds = [a, b]
  · obtain ⟨a, b, rfl⟩ := hd
    cases rd with
    | cons r1 t =>
      cases t with
      | cons r2 t =>
        cases t
        exact h L G H a b _ _ W σ Q hr r1 r2 q
  · rw [h1 ds G fun a b e => hd ⟨a, b, e⟩] at q
    exact q.elim
theorem cb_max2 {K : PySem.W.Frag} : CbD K dMax2 (fun xs H Q => ∃ i j, xs = [.int i, .int j] ∧ Q (.int (if j > i then j else i)) H) := cb_two (fun ds G h => by
    unfold dMax2
    split
    · exact absurd rfl (h _ _)
    · rfl) fun L G H a b v u W σ Q hr ra rb q => by
  cases ra with
  | int i =>
    cases rb with
    | int j => exact ⟨i, j, rfl, q L H _ (.refl L) hr (.int _)⟩
    | _ => exact q.elim
  | _ => cases rb <;> exact q.elim
theorem xe_max2 {e2 : Expr} (hc : X.calm = true) (hm : X.mg "max" = none) (ha : xA X W [e, e2] g) (hg : Gl X "max" := by rfl) (he : starEach [e, e2] X.env = (false, eval e X.env) :: starEach [e2] X.env := by rfl) (hpl : (backTo pos (starEach [e2] X.env)).any (·.1) = false := by rfl) : xE X W (.Call (.Name "max" p) [e, e2] [] pos) (eCB dMax2 g) :=
  xe_cb (call_max2 hc) cb_max2 hm (by decide +kernel) ha hg (by decide) (by decide) he hpl
end
end CF
end
section
set_option maxRecDepth 100000
set_option maxHeartbeats 1000000
namespace CF
open PySem PySem.Spec PyProof.Rows L2
def tyN (G : GH) : D → Option String
  | .non => some "NoneType"
  | .bl _ => some "bool"
  | .int _ => some "int"
  | .str _ => some "str"
  | .tup _ => some "tuple"
  | .pt _ => some "tuple"
  | .lst _ => some "list"
  | .scr _ => some "list"
  | .dK _ => some "dict"
  | .ref n => match G[n]? with
    | some (.lst _) => some "list"
    | some (.dK _) => some "dict"
    | _ => none
  | _ => none
@[simp] theorem tyN_non (G : GH) : tyN G .non = some "NoneType" := rfl
@[simp] theorem tyN_bl (G : GH) (x) : tyN G (.bl x) = some "bool" := rfl
@[simp] theorem tyN_int (G : GH) (x) : tyN G (.int x) = some "int" := rfl
@[simp] theorem tyN_str (G : GH) (x) : tyN G (.str x) = some "str" := rfl
@[simp] theorem tyN_tup (G : GH) (x) : tyN G (.tup x) = some "tuple" := rfl
@[simp] theorem tyN_pt (G : GH) (x) : tyN G (.pt x) = some "tuple" := rfl
@[simp] theorem tyN_lst (G : GH) (x) : tyN G (.lst x) = some "list" := rfl
@[simp] theorem tyN_scr (G : GH) (x) : tyN G (.scr x) = some "list" := rfl
@[simp] theorem tyN_dK (G : GH) (x) : tyN G (.dK x) = some "dict" := rfl
theorem tyN_rep {K : PySem.W.Frag} {L : Lk} {G : GH} {H : Hp} {d : D} {v : V} {t : String} (hr : HR K L G H) (h : Rep K L.Z L.r d v) (e : tyN G d = some t) : TyX K H v (.type t) := by
  cases h with
  | non => cases e; exact .base .non
  | bl b => cases e; exact .base (.bl b)
  | int b => cases e; exact .base (.int b)
  | str b => cases e; exact .base (.str b)
  | tup z t =>
    cases e
    rcases z with z | ⟨o, its, n, e1, e2, _⟩
    · exact .base (.tup (hr.z _ _ z).tup)
    · exact .kTuple e1 e2
  | @pt _ o _ _ z k t => cases e; exact .fTuple (hr.z _ _ z).frz
  | lst z t => cases e; exact .base (.lst (hr.z _ _ z).lst)
  | scr z t =>
    cases e
    rcases z with ⟨o, z⟩ | ⟨o, _, _, e1, e2, _⟩
    · exact .base (.frz (hr.z _ _ z).frz)
    · exact .kList e1 e2
  | dK z k t =>
    cases e
    rcases hr.z _ _ z with z | ⟨_, ob, z⟩
    · exact .base (.dK z)
    · exact .fDict z
  | @ref n a q =>
    have hn : n < G.length := by rw [← hr.len]; exact (List.getElem?_eq_some_iff.mp q).1
    have c := hr.cell n a G[n] q (by simp [hn])
    have e' : (match G[n]? with | some (.lst _) => some "list" | some (.dK _) => some "dict" | _ => none) = some t := e
    rw [List.getElem?_eq_getElem hn] at e'
    cases k : G[n] with
    | lst xs =>
      rw [k] at e' c; cases e'
      cases c with
      | lst h t => exact .base (.lst h)
    | dK xs =>
      rw [k] at e' c; cases e'
      cases c with
      | dK h k t => exact .base (.dK h)
    | _ => rw [k] at e'; cases e'
  | _ => cases e
def isiB (t T : String) : Option Bool := if t = "NoneType" then (if T = "NoneType" then some true else some false) else
  if t = T then some true else some (t == "bool" && T == "int")
def tyOk : List String := ["int", "str", "bool", "tuple", "list", "dict"]
theorem isi_kit : ∀ t ∈ ["NoneType", "bool", "int", "str", "tuple", "list", "dict"], ∀ T ∈ tyOk, kitB t T = isiB t T := by decide +kernel
def dIsi (T : String) : D → GH → R D := fun d G => match tyN G d with
  | some t => (match isiB t T with
    | some b => .ok (.bl b) G
    | none => .no)
  | none => .no
theorem tyN_mem {G : GH} {d : D} {t : String} (e : tyN G d = some t) : t ∈ ["NoneType", "bool", "int", "str", "tuple", "list", "dict"] := by
  unfold tyN at e
  split at e <;> first
    | (cases e; simp; done)
    | (cases e; done)
    | (split at e <;> first
      | (cases e; simp)
      | cases e)
section
variable {X : Cx} {W : WX} {pos p p2 : Pos} {e : Expr} {f : FE} {T : String} {x : Str}
def eOne (f : FE) (k : D → GH → R D) : FE := fun δ G => (f δ G).bind k
theorem xe_isi (hT : T ∈ tyOk) (hv : bootBuiltins x = some (.type T)) (hm : X.mg "isinstance" = none) (hmx : X.mg x = none) (hx : x ≠ "__name__") (hdx : (x == ("__debug__" : Str)) = false) (ha : xE X W e f) (hg : Gl X "isinstance" := by rfl) (hgx : Gl X x := by rfl)
    (he : starEach [e, .Name x p2] X.env = (false, eval e X.env) :: starEach [.Name x p2] X.env := by rfl) (he2 : starEach [.Name x p2] X.env = (false, eval (.Name x p2) X.env) :: starEach [] X.env := by rfl) (hpl : (backTo pos (starEach [.Name x p2] X.env)).any (·.1) = false := by rfl) :
    xE X W (.Call (.Name "isinstance" p) [e, .Name x p2] [] pos) (eOne f (dIsi T)) :=
  PEimp (pe_callB call_isi hg hm (by decide +kernel) (pa_cons ha (pa_cons (pe_bltn hgx hmx hv (v := .ty T) rfl hx hdx) pa_nil he2) he) (by decide) (by decide) he hpl) fun σ H Q ⟨L, δ, G, hr, er, q⟩ =>
    Sat.bind (rep' := repD X.K) hr er q fun L1 G1 H1 d v le hr1 er1 rd q1 => by
      unfold dIsi at q1
      cases e1 : tyN G1 d with
      | none => rw [e1] at q1; exact q1.elim
      | some t =>
        rw [e1] at q1
        dsimp only at q1
        cases e2 : isiB t T with
        | none => rw [e2] at q1; exact q1.elim
        | some b =>
          rw [e2] at q1
          exact ⟨v, .ty T, .type t, .type T, b, rfl, .ty T, tyN_rep hr1 rd e1, kit_ty ((isi_kit t (tyN_mem e1) T hT).trans e2), q1 L1 H1 _ (.refl _) hr1 (.bl b)⟩
end
abbrev FM := D → List D → GH → R D
def MtD (K : PySem.W.Frag) (f : FM) (r : V → List V → Hp → VK → Prop) : Prop := ∀ (L : Lk) (G : GH) (H : Hp) (d : D) (v : V) (ds : List D) (vs : List V) (W : WX) (σ : St) (Q : VK), HR K L G H → Rep K L.Z L.r d v → Reps K L.Z L.r ds vs → Sat K W L σ (repD K) (f d ds G) Q → r v vs H Q
def tyM (T : String) (G : GH) (d : D) : Bool := match d with
  | .str _ => T == "str"
  | .int _ => T == "int"
  | d => match lstOf G d with
    | some _ => T == "list"
    | none => match d with
      | .ref n => match G[n]? with
        | some (.dK _) => T == "dict"
        | _ => false
      | _ => false
theorem tyM_rep {K : PySem.W.Frag} {L : Lk} {G : GH} {H : Hp} {d : D} {v : V} {T : String} (hr : HR K L G H) (h : Rep K L.Z L.r d v) (e : tyM T G d = true) : tyV K T v H := by
  have gen : ∀ xs, lstOf G d = some xs → (T == "list") = true → tyV K T v H := fun xs e1 e2 => by
    obtain ⟨p, vs, rfl, s, t⟩ := lst_rep hr h e1
    exact .inl ⟨eq_of_beq e2, vs, s⟩
  cases h with
  | str x => exact eq_of_beq e
  | int x => exact eq_of_beq e
  | lst z t => exact gen _ rfl e
  | scr z t => exact gen _ rfl e
  | @ref n a q =>
    have hn : n < G.length := by rw [← hr.len]; exact (List.getElem?_eq_some_iff.mp q).1
    have c := hr.cell n a G[n] q (by simp [hn])
    unfold tyM at e
    dsimp only at e
    cases e1 : lstOf G (.ref n) with
    | some xs => rw [e1] at e; exact gen xs e1 e
    | none =>
      rw [e1] at e
      dsimp only at e
      rw [List.getElem?_eq_getElem hn] at e
      cases k : G[n] with
      | dK xs =>
        rw [k] at e c
        cases c with
        | dK h k t => exact .inr (.inr (.inl ⟨eq_of_beq e, .inl ⟨_, h⟩⟩))
      | _ => rw [k] at e; cases e
  | _ => cases e
def eMt (T : String) (f : FM) (o : FE) (g : FA) : FE := fun δ G => (o δ G).bind fun d G1 => if tyM T G1 d then (g δ G1).bind fun ds G2 => f d ds G2 else .no
def eMt0 (T : String) (f : FM) (o : FE) : FE := fun δ G => (o δ G).bind fun d G1 => if tyM T G1 d then f d [] G1 else .no
section
variable {X : Cx} {W : WX} {pos apos cpos : Pos} {o e : Expr} {es : List Expr} {fo : FE} {g : FA} {f : FM} {T id : String} {name : Str} {r : V → List V → Hp → VK → Prop}
theorem xe_mt (pa : PlainAttrs T) (slot : Slot T name id) (hty : typeOf (.builtin id) = pure (.type "method_descriptor")) (hm : MtR X id r) (hd : MtD X.K f r) (ho : xE X W o fo) (ha : xA X W (e :: es) g)
    (hbase : attributeBase o name X.env (eval o X.env) = eval o X.env := by rfl)
    (hfew : ((backTo cpos (starEach (e :: es) X.env)).all (fun x => !x.1) && (backToKw cpos (keywordEach [] X.env)).all (fun x => x.1.isSome)
      && decide ((e :: es).length + ([] : List Keyword).length + (if ([] : List Keyword).isEmpty then 0 else 1) < 30)) = true := by rfl)
    (hline : (apos.endLine == cpos.line) = true := by rfl) (hs : starEach (e :: es) X.env = (false, eval e X.env) :: starEach es X.env := by rfl) (hplain : (backTo cpos (starEach es X.env)).any (·.1) = false := by rfl) :
    xE X W (.Call (.Attribute o name apos) (e :: es) [] cpos) (eMt T f fo g) :=
  PEimp (pe_bm pa slot hty hm ho ha hbase hfew hline hs hplain) fun σ H Q ⟨L, δ, G, hr, er, q⟩ => Sat.bind (rep' := repD X.K) hr er q fun L1 G1 H1 d v le hr1 er1 rd q1 => by
    by_cases ht : tyM T G1 d = true
    · rw [if_pos ht] at q1
      exact ⟨tyM_rep hr1 rd ht, Sat.bind (rep' := repD X.K) hr1 er1 q1 fun L2 G2 H2 ds vs le2 hr2 er2 rds q2 => hd L2 G2 H2 d v ds vs W σ Q hr2 (rd.mono le2) rds q2⟩
    · rw [if_neg ht] at q1; exact q1.elim
end
section
variable {K : PySem.W.Frag} {L : Lk} {G : GH} {H : Hp} {v : V}
def celL (G : GH) : D → Option (Nat × List D)
  | .ref n => match G[n]? with
    | some (.lst xs) => some (n, xs)
    | _ => none
  | _ => none
@[simp] theorem celL_ref (G : GH) (n : Nat) : celL G (.ref n) = match G[n]? with | some (.lst xs) => some (n, xs) | _ => none := rfl
theorem celL_rep (hr : HR K L G H) {d : D} (h : Rep K L.Z L.r d v) {n : Nat} {xs : List D} (e : celL G d = some (n, xs)) : ∃ a vs, v = .ref a ∧ L.r[n]? = some a ∧ H a = some (.lst vs) ∧ Reps K L.Z L.r xs vs := by
  cases h with
  | @ref m a q =>
    have e' : (match G[m]? with | some (.lst xs) => some (m, xs) | _ => none) = some (n, xs) := e
    cases k : G[m]? with
    | none => rw [k] at e'; cases e'
    | some c =>
      rw [k] at e'
      cases c with
      | lst ys =>
        cases e'
        have c := hr.cell _ a _ q k
        cases c with
        | lst h t => exact ⟨a, _, rfl, q, h, t⟩
      | _ => cases e'
  | _ => cases e
theorem HR.setL (hr : HR K L G H) {n : Nat} {a : Addr} {ys : List D} {us : List V} (q : L.r[n]? = some a) (t : Reps K L.Z L.r ys us) : HR K L (G.set n (.lst ys)) (upd H a (.lst us)) := hr.set q (.lst upd_same t)
def mAppend : FM := fun d ds G => match celL G d, ds with
  | some (n, xs), [y] => if xs.length < sizeLine then .ok .non (G.set n (.lst (xs ++ [y]))) else .no
  | _, _ => .no
theorem md_append : MtD K mAppend rAppend := fun L G H d v ds vs W σ Q hr rd rds q => by
  unfold mAppend at q
  cases e : celL G d with
  | none => rw [e] at q; exact q.elim
  | some nx =>
    obtain ⟨n, xs⟩ := nx
    rw [e] at q
    cases rds with
    | nil => exact q.elim
    | cons ry t =>
      cases t with
      | cons _ _ => exact q.elim
      | nil =>
        dsimp only at q
        obtain ⟨a, us, rfl, q1, q2, q3⟩ := celL_rep hr rd e
        by_cases hl : xs.length < sizeLine
        · rw [if_pos hl] at q
          exact ⟨a, us, _, rfl, rfl, q2, by rw [← q3.length]; exact hl, q L _ _ (.refl _) (hr.setL q1 (q3.append (.cons ry .nil))) .non⟩
        · rw [if_neg hl] at q; exact q.elim
def mExtend : FM := fun d ds G => match celL G d, ds with
  | some (n, xs), [y] => (match lstX G y with
    | some zs => if xs.length + zs.length ≤ sizeLine then .ok .non (G.set n (.lst (xs ++ zs))) else .no
    | none => .no)
  | _, _ => .no
def mPopAt : FM := fun d ds G => match celL G d, ds with
  | some (n, xs), [.int i] => (match ixN xs.length i with
    | some k => (match xs[k]? with
      | some y => if xs.length < 2 ^ 62 then .ok y (G.set n (.lst (xs.eraseIdx k))) else .no
      | none => .no)
    | none => .no)
  | _, _ => .no
theorem md_popAt : MtD K mPopAt rPopAt := fun L G H d v ds vs W σ Q hr rd rds q => by
  unfold mPopAt at q
  cases e : celL G d with
  | none => rw [e] at q; exact q.elim
  | some nx =>
    obtain ⟨n, xs⟩ := nx
    rw [e] at q
    cases rds with
    | nil => exact q.elim
    | @cons y u _ _ ry t =>
      cases ry with
      | int i =>
        cases t with
        | cons _ _ => exact q.elim
        | nil =>
          dsimp only at q
          obtain ⟨a, us, rfl, q1, q2, q3⟩ := celL_rep hr rd e
          cases e1 : ixN xs.length i with
          | none => rw [e1] at q; exact q.elim
          | some k =>
            rw [e1] at q
            dsimp only at q
            cases e2 : xs[k]? with
            | none => rw [e2] at q; exact q.elim
            | some y =>
              rw [e2] at q
              dsimp only at q
              by_cases hl : xs.length < 2 ^ 62
              · rw [if_pos hl] at q
                obtain ⟨u, e3, ru⟩ := q3.get e2
                obtain ⟨h1, h2, h3, h4⟩ := ixN_seq e1
                exact ⟨a, us, i, k, u, rfl, rfl, q2, by omega, by omega, by rw [← q3.length]; exact h1, e3, q L _ _ (.refl _) (hr.setL q1 (q3.eraseIdx k)) ru⟩
              · rw [if_neg hl] at q; exact q.elim
      | _ => cases t <;> exact q.elim
end
theorem MtM.r {X : Cx} {id : String} {r : V → List V → Hp → VK → Prop} (h : MtM X id r) : MtR X id r := h
section
variable {X : Cx} {W : WX} {pos apos cpos : Pos} {o e : Expr} {fo : FE} {g : FA}
theorem xe_append (ho : xE X W o fo) (ha : xA X W [e] g) (hbase : attributeBase o "append" X.env (eval o X.env) = eval o X.env := by rfl)
    (hfew : ((backTo cpos (starEach [e] X.env)).all (fun x => !x.1) && (backToKw cpos (keywordEach [] X.env)).all (fun x => x.1.isSome) && decide ([e].length + ([] : List Keyword).length + (if ([] : List Keyword).isEmpty then 0 else 1) < 30)) = true := by rfl)
    (hline : (apos.endLine == cpos.line) = true := by rfl) (hs : starEach [e] X.env = (false, eval e X.env) :: starEach [] X.env := by rfl) : xE X W (.Call (.Attribute o "append" apos) [e] [] cpos) (eMt "list" mAppend fo g) :=
  xe_mt PySem.F.plainAttrs_list PySem.F.slot_list_append PySem.F.type_list_append (MtM.r mt_append) md_append ho ha hbase hfew hline hs rfl
theorem xe_popAt (ho : xE X W o fo) (ha : xA X W [e] g) (hbase : attributeBase o "pop" X.env (eval o X.env) = eval o X.env := by rfl)
    (hfew : ((backTo cpos (starEach [e] X.env)).all (fun x => !x.1) && (backToKw cpos (keywordEach [] X.env)).all (fun x => x.1.isSome) && decide ([e].length + ([] : List Keyword).length + (if ([] : List Keyword).isEmpty then 0 else 1) < 30)) = true := by rfl)
    (hline : (apos.endLine == cpos.line) = true := by rfl) (hs : starEach [e] X.env = (false, eval e X.env) :: starEach [] X.env := by rfl) : xE X W (.Call (.Attribute o "pop" apos) [e] [] cpos) (eMt "list" mPopAt fo g) :=
  xe_mt PySem.F.plainAttrs_list PySem.F.slot_list_pop PySem.F.type_list_pop (MtM.r mt_popAt) md_popAt ho ha hbase hfew hline hs rfl
def sSetI (fo fi f : FE) : FS := fun δ G => (f δ G).thn δ fun d G1 => (fo δ G1).thn δ fun o G2 => (fi δ G2).thn δ fun i G3 => match celL G3 o, i with
  | some (n, xs), .int z => (match ixN xs.length z with
    | some j => .nx δ (G3.set n (.lst (xs.set j d)))
    | none => .no)
  | _, _ => .no
def sAugE (i : Nat) (f : FE) : FS := fun δ G => match δ[i]? with
  | some (some x) => (f δ G).thn δ fun y G1 => (match celL G1 x, lstX G1 y with
    | some (n, xs), some ys => if xs.length + ys.length ≤ sizeLine then .nx (δ.set i (some x)) (G1.set n (.lst (xs ++ ys))) else .no
    | _, _ => .no)
  | _ => .no
theorem xs_augE {i : Nat} {x : Str} {f : FE} {pos' : Pos} (hN : X.N.Nodup) (hi : X.N[i]? = some x) (hx : Loc X.env.scope x) (he : xE X W e f) (hf : X.fn x = true ∨ X.env.scope.names.lookup x = some .local := by first | exact .inl rfl | exact .inr rfl | assumption) :
    xS X W (.AugAssign (.Name x pos') .Add e pos) (sAugE i f) :=
  PSimp (ps_aug hN hi hx he (ti := rExt2) iop_ext hf) fun E σ H ⟨L, δ, G, hr, er, q⟩ => by
    unfold sAugE at q
    split at q
    · rename_i x e0
      obtain ⟨v, e1, rv⟩ := er.2 i x e0
      refine ⟨v, e1, Sat.thn hr er q fun L1 G1 H1 d u le hr1 er1 rd q1 => ?_⟩
      cases e2 : celL G1 x with
      | none => rw [e2] at q1; exact q1.elim
      | some nx =>
        obtain ⟨n, xs⟩ := nx
        cases e3 : lstX G1 d with
        | none => rw [e2, e3] at q1; exact q1.elim
        | some ys =>
          rw [e2, e3] at q1
          dsimp only at q1
          obtain ⟨a, us, rfl, r1, r2, r3⟩ := celL_rep hr1 (Rep.mono le rv) e2
          obtain ⟨b, ws, rfl, r4, r5⟩ := lstX_rep hr1 rd e3
          by_cases hl : xs.length + ys.length ≤ sizeLine
          · rw [if_pos hl] at q1
            exact ⟨a, b, us, ws, rfl, rfl, r2, r4, by rw [← r3.length, ← r5.length]; exact hl, q1 L1 _ _ (.refl _) (hr1.setL r1 (r3.append r5)) (er1.set i (Rep.mono le rv))⟩
          · rw [if_neg hl] at q1; exact q1.elim
    · exact q.elim
end
end CF
end
section
set_option maxRecDepth 100000
set_option maxHeartbeats 1000000
namespace CF
open PySem PySem.Spec PySem.SeqAt PySem.W PyProof.Rows L2 SeqAt
def RootFirst (ds : List PyData) : Prop := (∃ r, ds = .tuple [] :: r) ∧ ∀ d ∈ ds, ∃ xs, d = .tuple xs
def SortOk (ds : List PyData) : Prop := PySem.W.AllAlike ds ∧ (PySem.W.Sortable ds ∨ RootFirst ds) ∧ ∀ d ∈ ds, d.depth ≤ 60
section
variable {prog : Program} {w : World} {A : Around} {E : Value → Shared → Prop} {s : Shared}
theorem call_tuple_lt {Q : Value → Shared → Prop} {l b : Addr} {items items2 : Array Value} {e r : Nat → Bool} (hl : s.heap.IsTuple l items) (hb : s.heap.IsTuple b items2)
    (he : ∀ j (h1 : j < items.size) (h2 : j < items2.size), EqAt A.in1 s items[j] items2[j] (e j)) (hr : ∀ j (h1 : j < items.size) (h2 : j < items2.size), e j = false → RcLt A.in1 s items[j] items2[j] (r j))
    (h : Q (.bool (firstLt e r (decide (items.size < items2.size)) (List.range (min items.size items2.size)))) s) : wpAny (model prog w) A (call (.builtin "tuple.__lt__") [.ref l, .ref b]) Q E s := by
  obtain ⟨⟨cls, dd, data, sl⟩, ho, hc, n, hd⟩ := id hl
  obtain ⟨⟨cls2, dd2, data2, sl2⟩, ho2, hc2, n2, hd2⟩ := id hb
  simp only at hc hd hc2 hd2
  subst hc hd hc2 hd2
  exact call_meets F.slot_tuple_lt ⟨_, ho, rfl⟩ F.entry_tuple_lt (F.args_tuple_lt_2 _ _) (tuple_ltAt l b items items2 n n2 dd dd2 sl sl2 e r) ⟨ho, ho2, he, hr, h⟩
theorem oneLt_tup {xs ys : List PyData} {a b : Value} {as bs : List Addr} {Q : Bool → Shared → Prop} (ra : Reads s.heap a (.tuple xs) as) (rb : Reads s.heap b (.tuple ys) bs) (hal : PySem.W.alikeAll xs ys = true)
    (hu : A.units + min (PyData.tuple xs).depth (PyData.tuple ys).depth < cLine) (hq : Q (PySem.W.dataLt (.tuple xs) (.tuple ys)) s) : wpAny (model prog w) A (oneLt' true a b) Q E s := by
  cases ra with
  | @tuple l o vs n _ as₁ h1 h2 h3 h4 =>
    cases rb with
    | @tuple l' o' vs' n' _ bs₁ k1 k2 k3 k4 =>
      have n1 : vs.size = xs.length := by simpa using ReadsAll.length _ _ _ h4
      have n2 : vs'.size = ys.length := by simpa using ReadsAll.length _ _ _ k4
      rw [PySem.W.dataLt_tuple, ← PySem.W.firstLt_toks xs ys hal, ← n1, ← n2] at hq
      rw [oneLt'_eq]
      simp only [if_true]
      refine wpAny_bind (wpAny_cRoomFor (room_here hu) ?_)
      refine wpAny_bind (wpAny_callSpecialIfBound?_slot (T := "tuple") ⟨_, h1, h2⟩ F.slot_tuple_lt (call_tuple_lt (e := pairEq xs ys) (r := fun j => PySem.W.dataLt (xs.getD j .none) (ys.getD j .none)) ⟨_, h1, h2, _, h3⟩ ⟨_, k1, k2, _, k3⟩ (fun j j1 j2 => ?_) (fun j j1 j2 hj => ?_) ?_))
      · have := PySem.W.eqAt_alikeAll xs ys A.in1 s vs.toList vs'.toList _ _ h4 k4 hal (room_in hu) j (by simpa using j1) (by simpa using j2)
        simpa using this
      · have := PySem.W.rcLt_alikeAll xs ys A.in1 s vs.toList vs'.toList _ _ h4 k4 hal (room_in hu) j (by simpa using j1) (by simpa using j2) hj
        simpa using this
      · exact wpAny_truthy_bool hq
theorem mapM_some {M : Model} {α β : Type} {f : α → Sem β} (P : α → β → Prop) : ∀ (l : List α) {Q : List β → Shared → Prop}, (∀ v ∈ l, ∃ r, P v r ∧ ∀ (Q' : β → Shared → Prop), Q' r s → wpAny M A (f v) Q' E s) →
    (∀ rs : List β, PySem.W.EachIs P l rs → Q rs s) → wpAny M A (l.mapM f) Q E s
  | [], _, _, h => by rw [List.mapM_nil]; exact wpAny_pure (h [] .nil)
  | x :: l, Q, hf, h => by
    rw [List.mapM_cons]
    obtain ⟨r, p, k⟩ := hf x (.head _)
    exact wpAny_bind (k _ (wpAny_bind (mapM_some P l (Q := fun bs s' => wpAny M A (pure (r :: bs)) Q E s') (fun v hv => hf v (.tail _ hv)) fun rs e => wpAny_pure (h _ (.cons p e)))))
end
section
variable {prog : Program} {w : World} {A : Around} {E : Value → Shared → Prop} {s : Shared}
theorem root_kind {vs : List Value} {ds : List PyData} (e : PySem.W.EachIs (fun v d => ∃ as, Reads s.heap v d as) vs ds) (h0 : RootFirst ds) (h2 : 2 ≤ vs.length) {Q : SortKind → Shared → Prop} (hq : Q oneType' s) : wpAny (model prog w) A (keyKind' vs.toArray) Q E s := by
  obtain ⟨⟨r, rfl⟩, ht⟩ := h0
  cases e with
  | @cons v _ vs _ h1 t =>
    have hall : ∀ u ∈ v :: vs, ∃ xs as, Reads s.heap u (.tuple xs) as := fun u hu => by
      obtain ⟨d, hd, as, q⟩ := (PySem.W.EachIs.cons h1 t).left u hu
      obtain ⟨xs, rfl⟩ := ht d hd
      exact ⟨xs, as, q⟩
    rw [kat_kind_eq, List.mapM_toArray, map_eq_pure_bind]
    refine wpAny_bind (wpAny_bind (mapM_some (fun u r => u = v → r = none) (v :: vs) (fun u hu => ?_) fun rs q => wpAny_pure ?_))
    · obtain ⟨xs, as, q⟩ := hall u hu
      cases q with
      | @tuple l o its n _ _ a1 a2 a3 a4 =>
        refine ⟨its[0]?, fun e => ?_, fun Q' hq' => ?_⟩
        · subst e
          obtain ⟨as0, q0⟩ := h1
          cases q0 with
          | tuple b1 b2 b3 b4 =>
            rw [a1] at b1; cases b1
            rw [a3] at b3; cases b3
            have := ReadsAll.length _ _ _ b4
            have hz : its.size = 0 := by simpa using this
            simp [hz]
        · rw [kas_first_eq]
          refine wpAny_bind (Looks.here (show Looks (model prog w) s.heap (typeOf (.ref l)) o.cls from (Looks.ld a1).andThen .now) ?_)
          rw [a2, if_neg (by first | decide | simp)]
          exact wpAny_bind (listItems_at a1 a3 (wpAny_pure hq'))
    · cases q with
      | @cons _ r0 _ rs h3 t3 =>
        have e0 := h3 rfl
        subst e0
        rw [if_neg (by simp), if_neg (by simp)]
        rw [oneTypeOnly'_eq, List.mapM_toArray, map_eq_pure_bind]
        refine wpAny_bind (wpAny_bind (wpAny_bind (kas_mapM (r := Value.type "tuple") _ (fun u hu Q' hq' => ?_) (wpAny_pure ?_))))
        · obtain ⟨xs, as, q⟩ := hall u hu
          exact (PySem.W.looks_reads q).here hq'
        · have hall2 : ((List.map (fun _ => Value.type "tuple") (v :: vs)).toArray.all fun x => x == Value.type "tuple") = true := by
            simp only [List.all_toArray, List.all_map, List.all_eq_true]
            intro _ _
            rfl
          have h00 : (List.map (fun _ => Value.type "tuple") (v :: vs)).toArray[0]? = some (Value.type "tuple") := by simp
          rw [h00]
          simp only [hall2, if_true]
          exact wpAny_pure (wpAny_pure hq)
theorem sortsAt {vs : List Value} {ds : List PyData} (e : PySem.W.EachIs (fun v d => ∃ as, Reads s.heap v d as) vs ds) (hal : PySem.W.AllAlike ds) (hk : PySem.W.Sortable ds ∨ RootFirst ds) (hu : ∀ d, d ∈ ds → A.units + d.depth < cLine) :
    PySem.W.SortsAt prog w A s (PySem.W.dataKind s.heap ds) vs := by
  rcases hk with hk | hk
  · exact PySem.W.SortsAt.data e hal hk hu
  · refine ⟨fun v hv => ?_, oneType', ?_, fun h2 E Q hq => root_kind e hk h2 hq⟩
    · obtain ⟨d, hd, as, r⟩ := e.left v hv
      exact ⟨_, PySem.W.dataKind_some hal hd r⟩
    · intro E x y a b Q ha hb hq
      obtain ⟨d, as, hd, ra, rfl⟩ := PySem.W.dataKind_inv ha
      obtain ⟨d', as', hd', rb, rfl⟩ := PySem.W.dataKind_inv hb
      rw [keyLt'_oneType]
      obtain ⟨xs, rfl⟩ := hk.2 d hd
      obtain ⟨ys, rfl⟩ := hk.2 d' hd'
      have h3 := hal _ hd _ hd'
      exact oneLt_tup ra rb (by simpa [PySem.W.alike] using h3) (Nat.lt_of_le_of_lt (Nat.add_le_add_left (Nat.min_le_left _ _) _) (hu _ hd)) hq
theorem sorted_dat {β : Type} {vs : List Value} {bs : List β} {enc : β → PyData} {R : Value → β → Prop} {l : Addr} {Q : Value → Shared → Prop} (hl : s.heap.IsList l vs.toArray) (e : PySem.W.EachIs R vs bs) (er : PySem.W.EachIs (fun v b => ∃ as, Reads s.heap v (enc b) as) vs bs)
    (hal : PySem.W.AllAlike (bs.map enc)) (hk : PySem.W.Sortable (bs.map enc) ∨ RootFirst (bs.map enc)) (hL : bs.length ≤ sizeLine) (hu : ∀ b, b ∈ bs → A.units + 2 + (enc b).depth < cLine)
    (h : ∀ out, out.length = bs.length → PySem.W.EachIs R out (bs.mergeSort (PySem.W.dataLe false enc)) → Q (.ref (s.heap.objs.size + 1)) { s with heap := sortedAll s.heap vs (List.toArray out) }) :
    wpAny (model prog w) A (call (.builtin "sorted") [.ref l]) Q E s := by
  have er' : PySem.W.EachIs (fun v b => ∃ as, Reads (PySem.W.sortingHeap (PySem.W.copyHeap s.heap vs) (s.heap.objs.size + 1) vs) v (enc b) as) vs bs := er.mono fun _ _ ⟨as, r⟩ => ⟨as, PyProof.Rows.Reads.keeps (fun _ _ => PySem.W.sorting_copy_old) r⟩
  exact PySem.W.sorted_vals hl (sortsAt (s := { s with heap := PySem.W.sortingHeap (PySem.W.copyHeap s.heap vs) (s.heap.objs.size + 1) vs }) (PySem.W.each_map (R := fun v d => ∃ as, Reads (PySem.W.sortingHeap (PySem.W.copyHeap s.heap vs) (s.heap.objs.size + 1) vs) v d as) enc er') hal hk (PySem.W.bound_map hu)) (by rw [e.length]; exact hL)
    (h _ (by rw [PySem.W.sortVals_length false rfl]; exact e.length) (PySem.W.sortVals_data false e er' hal))
end
section
theorem dpAll_each {X : Cx} {pins : List (Addr × Obj)} {σ : St} {H : Hp} {s : Shared} (I : Inv X pins σ H s) : ∀ {bs : List (V × PyData)} {us : List Value}, Vals (bs.map (·.1)) us → (∀ b ∈ bs, Dp X.K H b.1 b.2) →
    PySem.W.EachIs (fun u b => RelV b.1 u) us bs ∧ PySem.W.EachIs (fun u b => ∃ as, Reads s.heap u b.2 as) us bs
  | [], _, r, _ => by
    rw [List.map_nil] at r
    cases r
    exact ⟨.nil, .nil⟩
  | b :: bs, _, r, h => by
    rw [List.map_cons] at r
    cases r with
    | cons r1 r2 =>
      obtain ⟨i1, i2⟩ := dpAll_each I r2 fun b hb => h b (.tail _ hb)
      exact ⟨.cons r1 i1, .cons (Dp.reads I _ _ _ (h b (.head _)) r1) i2⟩
theorem each_vals {R : Value → V × PyData → Prop} (hR : ∀ u b, R u b → RelV b.1 u) : ∀ {us : List Value} {bs : List (V × PyData)}, PySem.W.EachIs R us bs → Vals (bs.map (·.1)) us
  | _, _, .nil => .nil
  | _, _, .cons h t => .cons (hR _ _ h) (each_vals hR t)
def rSortedDat (K : PySem.W.Frag) : List V → Hp → VK → Prop := fun xs H Q => ∃ (a : Addr) (bs : List (V × PyData)), xs = [.ref a] ∧ SqL K H a (bs.map (·.1)) ∧ (∀ b ∈ bs, Dp K H b.1 b.2) ∧ SortOk (bs.map (·.2)) ∧
  ∀ p, H p = none → Q (.ref p) (upd H p (.lst ((bs.mergeSort (PySem.W.dataLe false (·.2))).map (·.1))))
theorem cr_sortedDat {X : Cx} (hu : X.A.units + 64 < cLine) : CallR X (.builtin "sorted") (rSortedDat X.K) := by
  intro pins s σ H vs us Q I r h
  obtain ⟨a, bs, rfl, hs, hd, ⟨h1, h2, h3⟩, q⟩ := h
  obtain ⟨its, rv, hl, hz⟩ := I.list hs
  rw [Vals.ref1 r]
  obtain ⟨e1, e2⟩ := dpAll_each I rv hd
  rw [List.length_map] at hz
  refine sorted_dat (enc := (·.2)) hl.isList e1 e2 h1 h2 hz (fun b hb => ?_) fun out h4 h5 => ?_
  · have := h3 b.2 (List.mem_map.mpr ⟨b, hb, rfl⟩)
    omega
  · obtain ⟨ep, he'⟩ := PyProof.Rows.sortedAll_at s.heap its out.toArray
    have hlen : ((bs.mergeSort (PySem.W.dataLe false (·.2))).map (·.1)).length ≤ sizeLine := by rw [List.length_map, List.length_mergeSort]; exact hz
    exact ⟨.ref _, upd H (s.heap.objs.size + 1) (.lst ((bs.mergeSort (PySem.W.dataLe false (·.2))).map (·.1))), I.laid (t' := s.toks) (fun _ _ => PyProof.Rows.sortedAll_old) (Nat.le_succ _)
      ⟨hlen, out, ep, each_vals (fun _ _ h => h) h5, by simpa using he'⟩, rfl, q _ (I.hok.fresh (Nat.le_succ _))⟩
end
def pyd (d : D) : PyData := d.py.getD .none
def sortD (ds : List D) : List D := ds.mergeSort (PySem.W.dataLe false pyd)
open Classical in
noncomputable def dSorted (mk : List D → GH → R D) : D → GH → R D := fun d G => match lstOf G d with
  | some xs => (match D.pyAll xs with
    | some ps => if SortOk ps then mk (sortD xs) G else .no
    | none => .no)
  | none => .no
theorem pyAll_map : ∀ {xs : List D} {ps : List PyData}, D.pyAll xs = some ps → ps = xs.map pyd ∧ ∀ d ∈ xs, d.py = some (pyd d)
  | [], ps, e => by
    rw [D.pyAll] at e; cases e
    exact ⟨rfl, fun d h => by cases h⟩
  | x :: xs, ps, e => by
    rw [D.pyAll] at e
    cases e1 : x.py with
    | none => rw [e1] at e; simp at e
    | some p =>
      cases e2 : D.pyAll xs with
      | none => rw [e1, e2] at e; simp at e
      | some qs =>
        rw [e1, e2] at e
        simp at e
        subst e
        obtain ⟨i1, i2⟩ := pyAll_map e2
        refine ⟨by rw [List.map_cons, ← i1]; simp [pyd, e1], fun d h => ?_⟩
        rcases List.mem_cons.mp h with rfl | h
        · simp [pyd, e1]
        · exact i2 d h
theorem reps_pairs {K : PySem.W.Frag} {Z : Hp} {r : List Addr} : ∀ {cs : List (D × V)}, (∀ c ∈ cs, Rep K Z r c.1 c.2) → Reps K Z r (cs.map (·.1)) (cs.map (·.2))
  | [], _ => .nil
  | c :: cs, h => .cons (h c (.head _)) (reps_pairs fun c hc => h c (.tail _ hc))
theorem pairs_reps {K : PySem.W.Frag} {Z : Hp} {r : List Addr} : ∀ {ds : List D} {vs : List V}, Reps K Z r ds vs → ∃ cs : List (D × V), ds = cs.map (·.1) ∧ vs = cs.map (·.2) ∧ ∀ c ∈ cs, Rep K Z r c.1 c.2
  | _, _, .nil => ⟨[], rfl, rfl, fun c h => by cases h⟩
  | _, _, .cons (d := d) (v := v) h t => by
    obtain ⟨cs, e1, e2, h3⟩ := pairs_reps t
    refine ⟨(d, v) :: cs, by rw [List.map_cons, e1], by rw [List.map_cons, e2], fun c hc => ?_⟩
    rcases List.mem_cons.mp hc with rfl | hc
    · exact h
    · exact h3 c hc
theorem sort_fst {β γ : Type} (f : β → γ) (k : γ → PyData) (l : List β) : (l.map f).mergeSort (PySem.W.dataLe false k) = (l.mergeSort (PySem.W.dataLe false fun b => k (f b))).map f :=
  (PySem.W.sort_maps f (r := PySem.W.dataLe false fun b => k (f b)) (s := PySem.W.dataLe false k) fun _ _ _ _ => rfl).symm
theorem cb_sorted {K : PySem.W.Frag} {mk : List D → GH → R D} (m : Mk mk) : CbD K (one (dSorted mk)) (rSortedDat K) := cb_one fun L G H d v W σ Q hr rd q => by
  unfold dSorted at q
  cases e : lstOf G d with
  | none => rw [e] at q; exact q.elim
  | some xs =>
    rw [e] at q
    dsimp only at q
    cases e2 : D.pyAll xs with
    | none => rw [e2] at q; exact q.elim
    | some ps =>
      rw [e2] at q
      dsimp only at q
      by_cases hs : SortOk ps
      · rw [if_pos hs] at q
        obtain ⟨p, vs, rfl, s, t⟩ := lst_rep hr rd e
        obtain ⟨cs, rfl, rfl, hc⟩ := pairs_reps t
        obtain ⟨e3, e4⟩ := pyAll_map e2
        refine ⟨p, cs.map fun c => (c.2, pyd c.1), rfl, by simpa [List.map_map, Function.comp_def] using s, fun b hb => ?_, ?_, fun l hl => ?_⟩
        · obtain ⟨c, hc1, rfl⟩ := List.mem_map.mp hb
          exact (py_rep hr _ _ _ (hc c hc1) (e4 _ (List.mem_map.mpr ⟨c, hc1, rfl⟩))).1
        · rw [e3] at hs
          simpa [List.map_map, Function.comp_def] using hs
        · have s1 : sortD (cs.map (·.1)) = (cs.mergeSort (PySem.W.dataLe false fun c => pyd c.1)).map (·.1) := sort_fst (fun c : D × V => c.1) pyd cs
          have s2 : ((cs.map fun c => (c.2, pyd c.1)).mergeSort (PySem.W.dataLe false (·.2))).map (·.1) = (cs.mergeSort (PySem.W.dataLe false fun c => pyd c.1)).map (·.2) := by
            rw [sort_fst (fun c : D × V => (c.2, pyd c.1)) (·.2) cs, List.map_map]; rfl
          rw [s2]
          rw [s1] at q
          exact m K L G H _ _ l W σ Q hr (reps_pairs fun c hc' => hc c (List.mem_mergeSort.mp hc')) hl q
      · rw [if_neg hs] at q; exact q.elim
end CF
end
section
set_option maxRecDepth 100000
set_option maxHeartbeats 1000000
namespace CF
open PySem PySem.Spec PyProof.Rows L2
section
variable {P : Program} {w : World} {K : PySem.W.Frag} {mg mb : Str → Option Value} {k : Nat} {fa a : Addr} {fd : FuncData} {x : Str} {s₁ : Shared} {vs : List Value} {ns : List Int} {F : List D → GH → R D}
theorem hr_only {H : Hp} {us : List V} (h : H a = none ∨ ∃ o, H a = some (.frz o (.lst us))) (rest : ∀ b, b ≠ a → H b = none) : HR K ⟨H, [], fun _ => none⟩ [] H where
  z := fun p o e => .inl e
  len := rfl
  cell := fun n a c e => by simp at e
  inj := fun n m a e => by simp at e
  dis := fun n a e => by simp at e
  fr := fun p o e => by cases e
  fd := fun n a e => by simp at e
  fz := fun p o e => by cases e
theorem reps_ints {Z : Hp} {r : List Addr} : ∀ ns : List Int, Reps K Z r (ns.map D.int) (ns.map V.int)
  | [] => .nil
  | n :: ns => .cons (.int n) (reps_ints ns)
theorem law_at {H : Hp} (KI : K.In s₁.heap) (nsM : s₁.heap.Ns mainGlobals mg) (nsB : s₁.heap.Ns builtinsNs mb) (mbB : ∀ y : Str, y ≠ "__name__" → mb y = bootBuiltins y) (NL : s₁.heap.NoLimit) (gn : s₁.gens = #[])
    (ha : s₁.heap.get? a = some { cls := .type "list", data := .seq vs.toArray }) (rv : Vals (ns.map V.int) vs) (room : Room k callerA)
    (Fn : ∀ base : Heap, K.In base → base.Ns mainGlobals mg → FnD P w K mg base k fa fd [x] F) (bnd : ∀ (s : Shared) (u : Value), BindsTo s fd ⟨[u], []⟩ [(x, u)])
    (hF : ∃ G', F [.scr (ns.map D.int)] [] = .ok (.bl true) G')
    (only : ∀ b, b ≠ a → H b = none) (atA : (H a = none ∧ ScrAt K H a (ns.map V.int)) ∨ ((∃ o, H a = some (.frz o (.lst (ns.map V.int)))) ∧ K.lookup a = none)) (ok : HOk P w H s₁.heap)
    (same : ∀ (H' : Hp) (h' : Heap), HOk P w H' h' → (∀ b o u, H b = some (.frz o u) → H' b = some (.frz o u)) → ∀ b o, H b ≠ none → s₁.heap.get? b = some o → h'.get? b = some o) :
    codeAny (model P w) callerA (.call (.ref fa) ⟨[.ref a], []⟩) (fun r s' => r = .ok (.ret (.bool true)) ∧ OldK s₁.heap s'.heap ∧ s'.os = s₁.os ∧ AllBare s'.gens) s₁ := by
  have hs : ScrAt K H a (ns.map V.int) := atA.elim (·.2) fun ⟨⟨o, e⟩, _⟩ => .inl ⟨o, e⟩
  have keepB : ∀ {b : Addr} {o : Obj}, s₁.heap.get? b = some o → H b = none → (hidT s₁.heap H).get? b = some o := fun e n => hidT_get e n
  have notA : ∀ {b : Addr} {o : Obj} {es : Array DictEntry} {ep : Nat}, s₁.heap.get? b = some o → o.data = .dict es ep → H b = none := fun {b o es ep} e d => by
    by_cases hb : b = a
    · subst hb
      rw [ha] at e
      cases e
      exact absurd (show Data.seq vs.toArray _ = Data.dict es ep from d) (by simp)
    · exact only b hb
  have nsH : ∀ {b : Addr} {m : Str → Option Value}, s₁.heap.Ns b m → (hidT s₁.heap H).Ns b m := fun ⟨o, es, ep, e, d, r⟩ => ⟨o, es, ep, keepB e (notA e d), d, r⟩
  have KB : K.In (hidT s₁.heap H) := fun b o e => keepB (KI b o e) (by
    by_cases hb : b = a
    · subst hb
      rcases atA with z | ⟨_, z⟩
      · exact z.1
      · rw [z] at e; cases e
    · exact only b hb)
  have M : Mod K mg (hidT s₁.heap H) := ⟨KB, nsH nsM, ⟨mb, nsH nsB, mbB⟩, let ⟨mc, z1, z2⟩ := NL; ⟨mc, nsH z1, z2⟩⟩
  have e0 : Env0 P w K mg (hidT s₁.heap H) callerA [] s₁ H := ⟨rfl, M, fun b o e => of_hidT e, Nat.le_of_eq (hidT_size _ _), trivial, (fun b z => by cases z), ok, .of_eq gn⟩
  obtain ⟨G', eF⟩ := hF
  refine codeAny_mono ((Fn _ KB (nsH nsM)).go callerA [] s₁ H ⟨[.ref a], []⟩ [.ref a] [.ref a] (fun v _ => v = .bl true) (fun _ _ _ => False) room rfl e0 (bnd s₁ (.ref a)) (.cons rfl .nil)
    ⟨rfl, ⟨H, [], fun _ => none⟩, [.scr (ns.map D.int)], [], hr_only (us := ns.map V.int) (atA.imp (·.1) (·.1)) only, .cons (.scr hs (reps_ints ns)) .nil, by
      rw [eF]
      intro L' H' v le hr rv
      have rv' : Rep K L'.Z L'.r (.bl true) v := rv
      cases rv'
      rfl⟩) fun r s' z => ?_
  match r, z with
  | .error e, z =>
    obtain ⟨_, _, _, _, _, _, _, _, _, _, _, _, z⟩ := z
    exact z.elim
  | .ok .next, z => exact False.elim z
  | .ok .brk, z => exact False.elim z
  | .ok .cont, z => exact False.elim z
  | .ok (.ret u), z =>
    obtain ⟨v, H', os, bare, un, ok', rl, q⟩ := z
    have q' : v = .bl true := q
    subst q'
    cases (show u = Value.bool true from rl)
    refine ⟨rfl, OldK.of_keep fun b o e => ?_, os, bare⟩
    by_cases n : H b = none
    · exact un.keep b o e n (by intro z; cases z) (by simp)
    · exact same H' s'.heap ok' (fun b o u z => un.frzs b o u z) b o n e
theorem law_runs (KI : K.In s₁.heap) (nsM : s₁.heap.Ns mainGlobals mg) (nsB : s₁.heap.Ns builtinsNs mb) (mbB : ∀ y : Str, y ≠ "__name__" → mb y = bootBuiltins y) (NL : s₁.heap.NoLimit) (gn : s₁.gens = #[])
    (ha : s₁.heap.get? a = some { cls := .type "list", data := .seq vs.toArray }) (hi : IntsAre vs ns) (hl : ns.length ≤ sizeLine) (room : Room k callerA)
    (Fn : ∀ base : Heap, K.In base → base.Ns mainGlobals mg → FnD P w K mg base k fa fd [x] F) (bnd : ∀ (s : Shared) (u : Value), BindsTo s fd ⟨[u], []⟩ [(x, u)])
    (hF : ∃ G', F [.scr (ns.map D.int)] [] = .ok (.bl true) G') :
    codeAny (model P w) callerA (.call (.ref fa) ⟨[.ref a], []⟩) (fun r s' => r = .ok (.ret (.bool true)) ∧ OldK s₁.heap s'.heap ∧ s'.os = s₁.os ∧ AllBare s'.gens) s₁ := by
  have rv := L2.vals_ints hi
  have ln := hi.length
  cases hk : K.lookup a with
  | some o =>
    have e := KI a o hk
    rw [ha] at e
    cases e
    exact law_at (H := fun _ => none) KI nsM nsB mbB NL gn ha rv room Fn bnd hF (fun _ _ => rfl) (.inl ⟨rfl, .inr ⟨_, vs.toArray, _, hk, rfl, rfl, rfl, by rw [List.size_toArray, ln]; exact hl, by simpa using rv⟩⟩)
      (fun b u z => by cases z) fun _ _ _ _ b o n => absurd rfl n
  | none =>
    have hA : ∀ {b : Addr} {u : HO}, (if b = a then some (HO.frz { cls := .type "list", data := .seq vs.toArray } (.lst (ns.map V.int))) else none) = some u → b = a ∧ u = HO.frz { cls := .type "list", data := .seq vs.toArray } (.lst (ns.map V.int)) := fun {b u} z => by
      by_cases hb : b = a
      · rw [if_pos hb] at z; cases z; exact ⟨hb, rfl⟩
      · rw [if_neg hb] at z; cases z
    refine law_at (H := fun b => if b = a then some (.frz { cls := .type "list", data := .seq vs.toArray } (.lst (ns.map V.int))) else none) KI nsM nsB mbB NL gn ha rv room Fn bnd hF (fun b hb => if_neg hb) (.inr ⟨⟨_, if_pos rfl⟩, hk⟩) (fun b u z => ?_) fun H' h' ok' kp b o n e => ?_
    · obtain ⟨rfl, rfl⟩ := hA z
      exact ⟨ha, by rw [List.length_map]; exact hl, vs, _, rv, ha⟩
    · by_cases hb : b = a
      · subst hb
        have z := kp b _ _ (if_pos rfl)
        obtain ⟨z1, _⟩ := ok' b _ z
        rw [ha] at e; cases e
        exact z1
      · exact absurd (if_neg hb) n
end
end CF
end
section
set_option maxRecDepth 100000
set_option maxHeartbeats 1000000
namespace CF
open PySem PySem.Spec PyProof.Rows L2
def rRepr (K : PySem.W.Frag) : List V → Hp → VK → Prop := fun xs H Q => ∃ x d, xs = [x] ∧ Dp K H x d ∧ d.showable = true ∧ d.hasDict = false ∧ d.depth ≤ 60 ∧ d.shown.length ≤ sizeLine ∧ Q (.str d.shown) H
section
variable {X : Cx} {W : WX} {pos p : Pos} {e : Expr} {g : FA}
theorem cr_repr (hg : X.A.guards = some []) (hu : X.A.units + 64 < cLine) : CallR X (.builtin "repr") (rRepr X.K) := by
  intro pins s σ H xs us Q I r ⟨x, d, ex, hd, h1, h2, h3, h4, q⟩
  subst ex
  obtain ⟨u, eu, rx⟩ := vals1 r
  subst eu
  obtain ⟨as, rd⟩ := Dp.reads I d x u hd rx
  have fin : ∀ (z : Str) (k : Nat), z = d.shown → EP X pins σ Q (.str z s.toks) { s with toks := k } := fun z k e => ⟨.str z, H, I.tok _, ⟨_, rfl⟩, by rw [e]; exact q⟩
  have cont : ∀ a, u = .ref a → wpAny (model X.prog X.w) X.A (call (.builtin "repr") [u]) (EP X pins σ Q) X.xe s := fun a ea => by
    subst ea
    exact repr_of_reads' rd h1 (PyData.noDict_hsm h2) hg (by omega) (fun _ _ e => e) (fun h' u' tk hk => ⟨.str d.shown, H, I.kept hk, ⟨_, rfl⟩, q⟩) h4
  cases rd with
  | none => exact PySem.P.repr_of_none (fin _ _ (by rw [PyData.shown]))
  | bool b => exact PySem.P.repr_of_bool (fin _ _ (by rw [PyData.shown]))
  | int i t => exact PySem.P.repr_of_int (by simpa [PyData.showable] using h1) (fin _ _ (by rw [PyData.shown]))
  | str z t => exact PySem.P.repr_of_str (fin _ _ (by rw [PyData.shown])) (by rw [PyData.shown] at h4; exact h4)
  | list _ _ _ _ => exact cont _ rfl
  | tuple _ _ _ _ => exact cont _ rfl
  | dict _ _ _ _ _ => exact cont _ rfl
def dStr : D → GH → R D := fun d G => match d with
  | .int i => if i.natAbs.log2 < 1920 then .ok (.str (toString i)) G else .no
  | .str x => .ok (.str x) G
  | _ => .no
end
theorem each_strs : ∀ {us : List Value} {ks : List Str}, PyProof.Rows.StrsAre us ks → PySem.W.EachIs (fun u (k : Str) => ∃ t, u = .str k t) us ks
  | _, _, .nil => .nil
  | _, _, .cons x t h => .cons ⟨t, rfl⟩ (each_strs h)
theorem vals_eachS : ∀ {us : List Value} {ks : List Str}, PySem.W.EachIs (fun u (k : Str) => ∃ t, u = .str k t) us ks → Vals (ks.map V.str) us
  | _, _, .nil => .nil
  | _, _, .cons ⟨t, e⟩ h => by subst e; exact .cons ⟨t, rfl⟩ (vals_eachS h)
theorem strs_alike (ks : List Str) : PySem.W.AllAlike (ks.map PyData.str) := fun d h d' h' => by
  obtain ⟨k, _, rfl⟩ := List.mem_map.mp h
  obtain ⟨k', _, rfl⟩ := List.mem_map.mp h'
  simp [PySem.W.alike]
def rSortedKeys : List V → Hp → VK → Prop := fun xs H Q => ∃ (a : Addr) (kvs : List (Key × V)) (ks : List Str), xs = [.ref a] ∧ Rd H a (.dK kvs) ∧ kvs.map (·.1) = ks.map Sum.inr ∧
    ∀ p, H p = none → Q (.ref p) (upd H p (.lst ((ks.mergeSort (PySem.W.dataLe false PyData.str)).map V.str)))
theorem cr_sortedKeys {X : Cx} (hcalm : X.calm = true) (hu : X.A.units + 64 < cLine) : CallR X (.builtin "sorted") rSortedKeys := by
  intro pins s σ H xs us Q I r ⟨a, kvs, ks, ex, hd, hks, q⟩
  subst ex
  obtain ⟨u, eu, rx⟩ := vals1 r
  subst eu
  cases rx
  obtain ⟨z, lo, vs, rel, dd⟩ := dk_rd I.hok hd
  obtain ⟨ep, hat⟩ := dd.dictAt
  have hkeys : vs.map (·.1) = ks.map Sum.inr := rel.keys.symm.trans hks
  have hl : vs.length = ks.length := by simpa using congrArg List.length hkeys
  have hz : vs.length ≤ sizeLine := by rw [← rel.length]; exact z
  refine Calls.call_function_entry PyProof.Rows.kind_sorted PyProof.Rows.plain_sorted PyProof.Rows.entry_sorted (PyProof.Rows.args_sorted1 _) ?_
  unfold Builtin.«sorted»
  refine wpAny_bind (m := checkCount "sorted" 1 1 _) (wpAny_pure ?_)
  refine wpAny_bind (PySem.W.kdu_collect (A := X.A.in1) (PySem.W.kdl_dict (knd := mixKind X.prog X.w) (kvs := vs) (ep := ep) lo) (I.ok.hd hcalm) hat hz fun h' tk acc hk hacc => ?_)
  have al : acc.toList.length = ks.length := by rw [Array.length_toList, hacc.1, hl]
  have S := each_strs (strs_at al fun j v e => by
    obtain ⟨k, x, e1, e2⟩ := hacc.2 j v (by rw [← Array.getElem?_toList]; exact e)
    have e3 : (vs.map (·.1))[j]? = some k := by rw [List.getElem?_map, e1]; rfl
    rw [hkeys, List.getElem?_map] at e3
    cases e4 : ks[j]? with
    | none => rw [e4] at e3; cases e3
    | some y =>
      rw [e4] at e3
      cases e3
      obtain ⟨t, ev⟩ := Value.isStrOf_shape (x := y) (v := v) e2
      exact ⟨y, t, rfl, ev⟩)
  have I1 : Inv X pins σ H { s with heap := h', toks := tk } := I.kept hk
  refine wpAny_bind (wpAny_newList ?_ (by rw [al, ← hl]; exact hz))
  have hoL : (h'.push (seqObj "list" acc.toList.toArray 0)).get? h'.objs.size = some (seqObj "list" acc.toList.toArray 0) := Heap.get?_push_size _ rfl
  show wpAny _ _ _ _ _ { s with heap := h'.push (seqObj "list" acc.toList.toArray 0), toks := tk }
  have er : ∀ h : Heap, PySem.W.EachIs (fun v d => ∃ as, Reads h v d as) acc.toList (ks.map PyData.str) := fun h => PySem.W.each_map PyData.str (S.mono fun v k ⟨t, e⟩ => ⟨[], by rw [e]; exact Reads.str k t⟩)
  refine wpAny_bind (wpAny_holding (wpAny_call_entry PyProof.Rows.slot_list_sort ⟨_, hoL, rfl⟩ PyProof.Rows.entry_list_sort
    (PySem.W.list_sort_vals (s := { s with heap := h'.push (seqObj "list" acc.toList.toArray 0), toks := tk }) (κ := PySem.W.dataKind (PySem.W.sortingHeap (h'.push (seqObj "list" acc.toList.toArray 0)) h'.objs.size acc.toList) (ks.map PyData.str)) hoL
      (PySem.W.SortsAt.data (er _) (strs_alike ks) (.others fun k => ⟨by simp, by simp⟩) fun d hd => by
        obtain ⟨k, _, rfl⟩ := List.mem_map.mp hd
        simp only [PyData.depth]
        show X.A.units + 1 + 1 + 0 < cLine
        omega) (by rw [al, ← hl]; exact hz) ⟨_, rfl, ?_⟩)
    (PyProof.Rows.args_list_sort _)))
  have V2 : Vals ((ks.mergeSort (PySem.W.dataLe false PyData.str)).map V.str) (PySem.W.sortVals (PySem.W.dataKind (PySem.W.sortingHeap (h'.push (seqObj "list" acc.toList.toArray 0)) h'.objs.size acc.toList) (ks.map PyData.str)) false acc.toList acc.toList) :=
    vals_eachS (PySem.W.sortVals_data (enc := PyData.str) false S (S.mono fun v k ⟨t, e⟩ => ⟨[], by rw [e]; exact Reads.str k t⟩) (strs_alike ks))
  obtain ⟨e', he'⟩ := PyProof.Rows.sortedHeap_at (vs := acc.toList) (out := (PySem.W.sortVals (PySem.W.dataKind (PySem.W.sortingHeap (h'.push (seqObj "list" acc.toList.toArray 0)) h'.objs.size acc.toList) (ks.map PyData.str)) false acc.toList acc.toList).toArray) hoL
  have hlen : ((ks.mergeSort (PySem.W.dataLe false PyData.str)).map V.str).length ≤ sizeLine := by
    rw [List.length_map, List.length_mergeSort, ← hl]; exact hz
  refine wpAny_pure ⟨_, rfl, .ref h'.objs.size, upd H h'.objs.size (.lst ((ks.mergeSort (PySem.W.dataLe false PyData.str)).map V.str)), I1.laid (t' := tk) (fun b u e => ?_) (Nat.le_refl _)
    (show ObjOk X.prog X.w _ _ _ (.lst _) from ⟨hlen, _, e', V2, he'⟩), rfl, q _ (I1.hok.fresh (Nat.le_refl _))⟩
  have hb : b < h'.objs.size := Heap.lt_size e
  rw [PyProof.Rows.sortedHeap_old (Nat.ne_of_lt hb) (by rw [size_push']; exact Nat.lt_succ_of_lt hb)]
  exact Heap.get?_push_of_some _ e
open Classical in
noncomputable def dSorted2 (mk : List D → GH → R D) : D → GH → R D := fun d G => match dKOf G d with
  | some kds => (match (kds.mapM fun kd => match kd.1 with | .inr k => some k | .inl _ => none) with
    | some ks => mk ((ks.mergeSort (PySem.W.dataLe false PyData.str)).map D.str) G
    | none => .no)
  | none => dSorted mk d G
theorem inr_keys {α : Type} : ∀ {kds : List (Key × α)} {ks : List Str}, (kds.mapM fun kd => match kd.1 with | .inr k => some k | .inl _ => none) = some ks → kds.map (·.1) = ks.map Sum.inr
  | [], ks, e => by simp at e; subst e; rfl
  | (k, x) :: r, ks, e => by
    rw [List.mapM_cons] at e
    cases k with
    | inl i => simp at e
    | inr k =>
      cases e2 : (r.mapM fun kd => match kd.1 with | .inr k => some k | .inl _ => none) with
      | none => rw [e2] at e; simp at e
      | some ks2 =>
        rw [e2] at e
        simp at e
        subst e
        rw [List.map_cons, List.map_cons, inr_keys e2]
theorem reps_strs {K : PySem.W.Frag} {Z : Hp} {r : List Addr} : ∀ ks : List Str, Reps K Z r (ks.map D.str) (ks.map V.str)
  | [] => .nil
  | k :: ks => .cons (.str k) (reps_strs ks)
theorem cb_sorted2 {K : PySem.W.Frag} {mk : List D → GH → R D} (m : Mk mk) : CbD K (one (dSorted2 mk)) (fun xs H Q => rSortedDat K xs H Q ∨ rSortedKeys xs H Q) := cb_one fun L G H d v W σ Q hr rd q => by
  unfold dSorted2 at q
  cases e : dKOf G d with
  | none => rw [e] at q; exact .inl (cb_sorted m L G H [d] [v] W σ Q hr (.cons rd .nil) q)
  | some kds =>
    rw [e] at q
    dsimp only at q
    cases e2 : (kds.mapM fun kd => match kd.1 with | .inr k => some k | .inl _ => none) with
    | none => rw [e2] at q; exact q.elim
    | some ks =>
      rw [e2] at q
      obtain ⟨p, kvs, rfl, h, hk, t⟩ := dK_rep hr rd e
      exact .inr ⟨p, kvs, ks, rfl, h, hk.symm.trans (inr_keys e2), fun l hl => m K L G H _ _ l W σ Q hr (reps_strs _) hl q⟩
section
variable {X : Cx} {W : WX} {pos p : Pos} {e : Expr} {g : FA}
theorem xe_sorted2 {mk : List D → GH → R D} (m : Mk mk) (hc : X.calm = true) (hu : X.A.units + 64 < cLine) (hm : X.mg "sorted" = none) (ha : xA X W [e] g) (hg : Gl X "sorted" := by rfl) (he : starEach [e] X.env = (false, eval e X.env) :: starEach [] X.env := by rfl) : xE X W (.Call (.Name "sorted" p) [e] [] pos) (eCB (one (dSorted2 mk)) g) :=
  xe_cb ((cr_sortedDat hu).or (cr_sortedKeys hc hu)) (cb_sorted2 m) hm (by decide +kernel) ha hg (by decide) (by decide) he rfl
end
end CF
end
section
set_option maxRecDepth 100000
set_option maxHeartbeats 1000000
namespace CF
open PySem PySem.Spec PyProof.Rows L2
def rDictP (K : PySem.W.Frag) : List V → Hp → VK → Prop := fun xs H Q => ∃ (a : Addr) (o : Obj) (ps : List Addr) (kvs : List (Key × V)), xs = [.ref a] ∧ H a = some (.frz o (.tup (ps.map V.ref))) ∧ o.dict = none ∧ Paired (fun p kv => SqT K H p [kV kv.1, kv.2]) ps kvs ∧
    ∀ p, H p = none → Q (.ref p) (upd H p (.dK (mergeK [] kvs)))
section
variable {X : Cx} {W : WX} {pos p : Pos} {e : Expr} {g : FA}
theorem call_dictT (hcalm : X.calm = true) : CallR X (.type "dict") (rDictP X.K) := by
  intro pins s σ H xs us Q I r ⟨a, o, ps, kvs, ex, hq, od, hp, q⟩
  subst ex
  obtain ⟨u, eu, rx⟩ := vals1 r
  subst eu
  cases rx
  obtain ⟨its, rv, tu, hz⟩ := I.tuple (xs := ps.map V.ref) (.inl (.inr ⟨o, hq⟩))
  have ei := refs_at rv
  subst ei
  rw [List.length_map] at hz
  obtain ⟨prs, rel, hl, hpr⟩ := pairs_of I hp
  have g := (I.hok a _ hq).1
  obtain ⟨o', ho', hc, n, hdat⟩ := tu
  rw [g] at ho'; cases ho'
  refine dict_of_tup (prs := prs) (I.ok.hd hcalm) g hc od hdat (by simp [hl]) (by rw [hl]; exact hz) (fun j q' e => ?_) fun h' tk hd' k => ?_
  · obtain ⟨b, u, e1, e2, e3⟩ := hpr j q' e
    exact ⟨b, u, by simp [e1], e2, e3⟩
  · have hm : (s.heap.objs.size == sysModules) = false := beq_eq_false_iff_ne.mpr (Nat.ne_of_gt I.big)
    have hlen : (mergeK [] kvs).length ≤ sizeLine := by
      refine Nat.le_trans (length_mergeK kvs []) ?_
      rw [List.length_nil, Nat.zero_add, rel.length, hl]
      exact hz
    exact ⟨.ref s.heap.objs.size, upd H s.heap.objs.size (.dK (mergeK [] kvs)), I.laid (t' := tk) k (Nat.le_refl _) (show ObjOk X.prog X.w _ _ _ (.dK (mergeK [] kvs)) from ⟨hlen, hm, merged [] prs, KV.merge rel .nil, hd'⟩), rfl, q _ (I.hok.fresh (Nat.le_refl _))⟩
end
end CF
end
section
set_option maxRecDepth 100000
set_option maxHeartbeats 1000000
namespace CF
open PySem PySem.Spec PyProof.Rows L2
def putD {κ : Type} [DecidableEq κ] (kds : List (κ × D)) (k : κ) (d : D) : List (κ × D) := if (kds.any fun p => decide (p.1 = k)) = true then kds.map (fun p => if p.1 = k then (p.1, d) else p) else kds ++ [(k, d)]
def mergeD {κ : Type} [DecidableEq κ] (kds more : List (κ × D)) : List (κ × D) := more.foldl (fun acc p => putD acc p.1 p.2) kds
inductive KR {κ : Type} (K : PySem.W.Frag) (Z : Hp) (r : List Addr) : List (κ × D) → List (κ × V) → Prop where
  | nil : KR K Z r [] []
  | cons {k d v ds vs} : Rep K Z r d v → KR K Z r ds vs → KR K Z r ((k, d) :: ds) ((k, v) :: vs)
section
variable {κ : Type} [DecidableEq κ] {K : PySem.W.Frag} {Z : Hp} {r : List Addr}
theorem KR.to {kds : List (κ × D)} {kvs : List (κ × V)} (h : KR K Z r kds kvs) : kds.map (·.1) = kvs.map (·.1) ∧ Reps K Z r (kds.map (·.2)) (kvs.map (·.2)) := by
  induction h with
  | nil => exact ⟨rfl, .nil⟩
  | cons x t ih => exact ⟨by simp [ih.1], .cons x ih.2⟩
theorem KR.of : ∀ {kds : List (κ × D)} {kvs : List (κ × V)}, kds.map (·.1) = kvs.map (·.1) → Reps K Z r (kds.map (·.2)) (kvs.map (·.2)) → KR K Z r kds kvs
  | [], [], _, _ => .nil
  | [], _ :: _, e, _ => by simp at e
  | _ :: _, [], e, _ => by simp at e
  | (k1, d1) :: r1, (k2, v2) :: r2, e, t => by
    simp only [List.map_cons, List.cons.injEq] at e
    obtain ⟨e1, e2⟩ := e
    subst e1
    cases t with
    | cons h t => exact .cons h (KR.of e2 t)
theorem KR.append {a b : List (κ × D)} {c d : List (κ × V)} (h : KR K Z r a c) (k : KR K Z r b d) : KR K Z r (a ++ b) (c ++ d) := by
  induction h with
  | nil => exact k
  | cons x t ih => exact .cons x ih
theorem KR.any {kds : List (κ × D)} {kvs : List (κ × V)} (h : KR K Z r kds kvs) (k : κ) : (kds.any fun p => decide (p.1 = k)) = kvs.any fun p => decide (p.1 = k) := by
  induction h with
  | nil => rfl
  | cons x t ih => rw [List.any_cons, List.any_cons, ih]
theorem KR.put {kds : List (κ × D)} {kvs : List (κ × V)} (h : KR K Z r kds kvs) (k : κ) {d : D} {v : V} (x : Rep K Z r d v) : KR K Z r (putD kds k d) (putK kvs k v) := by
  unfold putD putK
  rw [h.any k]
  by_cases c : (kvs.any fun p => decide (p.1 = k)) = true
  · rw [if_pos c, if_pos c]
    clear c
    induction h with
    | nil => exact .nil
    | @cons k1 d1 v1 ds vs y t ih =>
      rw [List.map_cons, List.map_cons]
      by_cases e : k1 = k
      · rw [if_pos e, if_pos e]; exact .cons x ih
      · rw [if_neg e, if_neg e]; exact .cons y ih
  · rw [if_neg c, if_neg c]
    exact h.append (.cons x .nil)
end
theorem KR.merge {K : PySem.W.Frag} {Z : Hp} {r : List Addr} {more : List (Key × D)} {mv : List (Key × V)} (m : KR K Z r more mv) : ∀ {kds : List (Key × D)} {kvs : List (Key × V)}, KR K Z r kds kvs → KR K Z r (mergeD kds more) (mergeK kvs mv) := by
  induction m with
  | nil => intro kds kvs h; exact h
  | cons x t ih => intro kds kvs h; exact ih (h.put _ x)
def pairD : D → Option (Key × D)
  | .tup [k, d] => (keyD k).map fun k => (k, d)
  | .pt [k, d] => (keyD k).map fun k => (k, d)
  | _ => none
def pairsD : List D → Option (List (Key × D))
  | [] => some []
  | x :: r => match pairD x, pairsD r with
    | some p, some ps => some (p :: ps)
    | _, _ => none
section
variable {K : PySem.W.Frag} {L : Lk} {G : GH} {H : Hp}
theorem pairD_rep (hr : HR K L G H) {x : D} {v : V} {k : Key} {d : D} (rx : Rep K L.Z L.r x v) (e : pairD x = some (k, d)) : ∃ p u, v = .ref p ∧ SqT K H p [kV k, u] ∧ Rep K L.Z L.r d u := by
  have go : ∀ ds, tupOf x = some ds → (∃ a, ds = [a, d] ∧ keyD a = some k) → ∃ p u, v = .ref p ∧ SqT K H p [kV k, u] ∧ Rep K L.Z L.r d u := fun ds e1 ⟨a, e2, e3⟩ => by
    subst e2
    obtain ⟨p, vs, rfl, s, t⟩ := tupOf_rep hr rx e1
    cases t with
    | cons ra t =>
      cases t with
      | cons rd t =>
        cases t
        rw [keyD_rep ra e3] at s
        exact ⟨p, _, rfl, s, rd⟩
  unfold pairD at e
  split at e
  · rename_i k0 d0
    cases q : keyD k0 with
    | none => rw [q] at e; cases e
    | some k' =>
      rw [q] at e
      cases e
      exact go _ rfl ⟨k0, rfl, q⟩
  · rename_i k0 d0
    cases q : keyD k0 with
    | none => rw [q] at e; cases e
    | some k' =>
      rw [q] at e
      cases e
      exact go _ rfl ⟨k0, rfl, q⟩
  · cases e
theorem pairsD_rep (hr : HR K L G H) : ∀ {xs : List D} {vs : List V} {kds : List (Key × D)}, Reps K L.Z L.r xs vs → pairsD xs = some kds → ∃ ps kvs, vs = ps.map V.ref ∧ Paired (fun p (kv : Key × V) => SqT K H p [kV kv.1, kv.2]) ps kvs ∧ KR K L.Z L.r kds kvs
  | [], _, kds, .nil, e => by
    cases e
    exact ⟨[], [], rfl, .nil, .nil⟩
  | x :: xs, _, kds, .cons rx t, e => by
    rw [pairsD] at e
    cases e1 : pairD x with
    | none => rw [e1] at e; cases e
    | some kd =>
      cases e2 : pairsD xs with
      | none => rw [e1, e2] at e; cases e
      | some rest =>
        rw [e1, e2] at e
        cases e
        obtain ⟨p, u, rfl, s, rd⟩ := pairD_rep hr rx e1
        obtain ⟨ps, kvs, rfl, pp, kk⟩ := pairsD_rep hr t e2
        exact ⟨p :: ps, (kd.1, u) :: kvs, rfl, .cons s pp, .cons rd kk⟩
def MkK (mk : List (Key × D) → GH → R D) : Prop := ∀ (K : PySem.W.Frag) (L : Lk) (G : GH) (H : Hp) (ds : List (Key × D)) (vs : List (Key × V)) (p : Addr) (W : WX) (σ : St) (Q : VK), HR K L G H → KR K L.Z L.r ds vs → H p = none → Sat K W L σ (repD K) (mk ds G) Q → Q (.ref p) (upd H p (.dK vs))
def mkKF : List (Key × D) → GH → R D := fun ds G => .ok (.dK ds) G
def mkKM : List (Key × D) → GH → R D := fun ds G => .ok (.ref G.length) (G ++ [.dK ds])
theorem mkKF_ok : MkK mkKF := fun K L G H ds vs p W σ Q hr r hp q => by
  have le := Lk.le_put (o := HO.dK vs) (hr.zfree hp)
  exact q _ _ _ le (hr.put hp) (.dK (by show upd L.Z p _ p = _; exact upd_same) r.to.1 (r.to.2.mono le))
def dDict (mk : List (Key × D) → GH → R D) : D → GH → R D := fun x G => match x with
  | .pt xs => (match pairsD xs with
    | some kds => mk (mergeD [] kds) G
    | none => .no)
  | x => match dKOf G x with
    | some kds => mk kds G
    | none => match (lstOf G x).bind pairsD with
      | some kds => mk (mergeD [] kds) G
      | none => .no
def rDictC (K : PySem.W.Frag) : List V → Hp → VK → Prop := fun xs H Q => (rDictP K xs H Q ∨ (∃ (a : Addr) (kvs : List (Key × V)), xs = [.ref a] ∧ Rd H a (.dK kvs) ∧ ∀ p, H p = none → Q (.ref p) (upd H p (.dK kvs)))) ∨
  ∃ (a : Addr) (ps : List Addr) (kvs : List (Key × V)), xs = [.ref a] ∧ SqL K H a (ps.map V.ref) ∧ Paired (fun p kv => SqT K H p [kV kv.1, kv.2]) ps kvs ∧ ∀ p, H p = none → Q (.ref p) (upd H p (.dK (mergeK [] kvs)))
theorem cb_dict {mk : List (Key × D) → GH → R D} (m : MkK mk) : CbD K (one (dDict mk)) (rDictC K) := cb_one fun L G H d v W σ Q hr rd q => by
  have gen : Sat K W L σ (repD K) (match dKOf G d with | some kds => mk kds G | none => match (lstOf G d).bind pairsD with | some kds => mk (mergeD [] kds) G | none => .no) Q → rDictC K [v] H Q := fun q => by
    cases e : dKOf G d with
    | some kds =>
      rw [e] at q
      obtain ⟨p, kvs, rfl, h, hk, t⟩ := dK_rep hr rd e
      exact .inl (.inr ⟨p, kvs, rfl, h, fun l hl => m K L G H _ _ l W σ Q hr (.of hk t) hl q⟩)
    | none =>
      rw [e] at q
      dsimp only at q
      cases e1 : lstOf G d with
      | none => rw [e1] at q; exact q.elim
      | some xs =>
        rw [e1, Option.bind_some] at q
        cases e2 : pairsD xs with
        | none => rw [e2] at q; exact q.elim
        | some kds =>
          rw [e2] at q
          obtain ⟨p, vs, rfl, s, t⟩ := lst_rep hr rd e1
          obtain ⟨ps, kvs, rfl, pp, kk⟩ := pairsD_rep hr t e2
          exact .inr ⟨p, ps, kvs, rfl, s, pp, fun l hl => m K L G H _ _ l W σ Q hr (kk.merge .nil) hl q⟩
  cases d with
  | pt xs =>
    have q' : Sat K W L σ (repD K) (match pairsD xs with | some kds => mk (mergeD [] kds) G | none => .no) Q := q
    cases e2 : pairsD xs with
    | none => rw [e2] at q'; exact q'.elim
    | some kds =>
      rw [e2] at q'
      have rd' : Rep K L.Z L.r (.pt xs) v := rd
      cases rd' with
      | @pt p o vs _ z k t =>
        obtain ⟨ps, kvs, rfl, pp, kk⟩ := pairsD_rep hr t e2
        exact .inl (.inl ⟨p, o, ps, kvs, rfl, (hr.z _ _ z).frz, k, pp, fun l hl => m K L G H _ _ l W σ Q hr (kk.merge .nil) hl q'⟩)
  | _ => exact gen q
end
section
variable {X : Cx} {W : WX} {pos p p2 q : Pos} {e : Expr} {g : FA} {f : FE}
theorem xe_dict1 {mk : List (Key × D) → GH → R D} (m : MkK mk) (hc : X.calm = true) (hm : X.mg "dict" = none) (ha : xA X W [e] g) (hg : Gl X "dict" := by rfl) (he : starEach [e] X.env = (false, eval e X.env) :: starEach [] X.env := by rfl) : xE X W (.Call (.Name "dict" p) [e] [] pos) (eCB (one (dDict mk)) g) :=
  xe_cty (((call_dictT hc).or call_dictD).or (call_dictP hc)) (cb_dict m) hm (by decide +kernel) ha hg (by decide) (by decide) he rfl
def sDead : FS := fun _ _ => .no
theorem xs_dead {st : Stmt} : xS X W st sDead := ⟨fun pins s σ H D I ⟨L, δ, G, hr, er, q⟩ => q.elim⟩
end
end CF
end
section
set_option maxRecDepth 100000
set_option maxHeartbeats 1000000
namespace CF
open PySem PySem.Spec PyProof.Rows L2
def strsOf : List D → Option (List Str)
  | [] => some []
  | .str x :: r => (strsOf r).map (x :: ·)
  | _ => none
@[simp] theorem strsOf_map (xs : List Str) : strsOf (xs.map D.str) = some xs := by induction xs with | nil => rfl | cons x r ih => simp [strsOf, ih]
theorem strs_rep {K : PySem.W.Frag} {Z : Hp} {r : List Addr} : ∀ {ds : List D} {vs : List V} {xs : List Str}, Reps K Z r ds vs → strsOf ds = some xs → vs = xs.map V.str
  | _, _, _, .nil, e => by cases e; rfl
  | d :: ds, _, xs, .cons h t, e => by
    cases h with
    | str x =>
      rw [strsOf] at e
      cases q : strsOf ds with
      | none => rw [q] at e; cases e
      | some ys => rw [q] at e; cases e; rw [strs_rep t q]; rfl
    | _ => simp [strsOf] at e
def eLenSet (f : FE) : FE := fun δ G => (f δ G).bind fun d G1 => match (lstOf G1 d).bind strsOf with
  | some xs => if xs.length < 4000 then .ok (.int (met xs).length) G1 else .no
  | none => .no
section
variable {X : Cx} {W : WX} {pos p p2 q : Pos} {a : Expr} {f : FE}
theorem xe_lenSet (hc : X.calm = true) (hm : X.mg "len" = none) (hm2 : X.mg "set" = none) (ha : xE X W a f) (hg : Gl X "len" := by rfl) (hg2 : Gl X "set" := by rfl) (na : starEach [a] X.env = (false, eval a X.env) :: starEach [] X.env := by rfl) :
    xE X W (.Call (.Name "len" p) [.Call (.Name "set" p2) [a] [] q] [] pos) (eLenSet f) := by
  refine ⟨fun pins s σ H Q I ⟨L, δ, G, hr, er, h⟩ => Call_ (ld_blt I hg hm boot_len (PyProof.Rows.callWith_builtin1 (PyProof.Rows.args_cons (Call_ (ld_blt I hg2 hm2 boot_set
    (PyProof.Rows.callWith_type1 (PyProof.Rows.args_cons (thn (ha.run pins s σ H (fun v H1 => ∃ (l : Addr) (xs : List Str), v = .ref l ∧ SqL X.K H1 l (xs.map V.str) ∧ xs.length < 4000 ∧ Q (.int (met xs).length) H1) I ?_)
      fun v s1 ⟨x, H1, I1, r1, q1⟩ => PyProof.Rows.args_nil ?_) na) na rfl))) rfl) rfl rfl))⟩
  · exact Sat.bind (rep' := repD X.K) hr er h fun L1 G1 H1 d v le hr1 er1 rd q1 => by
      cases e : lstOf G1 d with
      | none => rw [e] at q1; exact q1.elim
      | some ds =>
        rw [e, Option.bind_some] at q1
        cases e2 : strsOf ds with
        | none => rw [e2] at q1; exact q1.elim
        | some xs =>
          rw [e2] at q1
          dsimp only at q1
          by_cases hl : xs.length < 4000
          · rw [if_pos hl] at q1
            obtain ⟨p, vs, rfl, s, t⟩ := lst_rep hr1 rd e
            exact ⟨p, xs, rfl, by rw [← strs_rep t e2]; exact s, hl, q1 L1 H1 _ (.refl _) hr1 (.int _)⟩
          · rw [if_neg hl] at q1; exact q1.elim
  · obtain ⟨l, xs, rfl, hq, hl, q1⟩ := q1
    cases r1
    obtain ⟨its, r, pl, hz⟩ := I1.list hq
    have hlen : its.toArray.size = xs.length := by rw [List.size_toArray, ← r.length, List.length_map]
    refine set_of_strs (I1.ok.hd hc) pl.isList (by simpa using L2.strsAre_of r) (by rw [hlen]; unfold scanBound; omega) fun h' tk hS hk => PyProof.Rows.args_nil ?_
    obtain ⟨o, es, ep, t, ho, hex, hd, _, _, _, hf, hn⟩ := hS
    have I2 : Inv X pins σ H1 { s1 with heap := h', toks := tk } := I1.kept fun b o e => hk b o (Heap.lt_size e) e
    have hm : (met xs).length ≤ xs.length := by have := met_le xs xs.length; rwa [List.take_length] at this
    exact call_len_set ho hex hd hf (by rw [hn] <;> omega) ⟨.int (met xs).length, H1, I2.tok _, ⟨_, by rw [hn]⟩, q1⟩
end
end CF
end
section
set_option maxRecDepth 100000
set_option maxHeartbeats 1000000
namespace CF
open PySem PySem.Spec PyProof.Rows L2
structure Tx (K : PySem.W.Frag) (mg : Str → Option Value) (x : Str) (ps : List Str) (dvs : List V) (f : Addr) (fd : FuncData) : Prop where
  g : mg x = some (.ref f)
  k : PySem.W.keepIn K (.ref f) = true
  b : ∃ ds, Vals dvs ds ∧ Binds K fd ps ds
theorem Tx.all {K : PySem.W.Frag} {mg : Str → Option Value} {x qual : Str} {st : Stmt} {ps : List Str} {f : Addr} {fd : FuncData} (F : Fun K x qual st f fd) (g : mg x = some (.ref f)) (b : Binds K fd ps []) : Tx K mg x ps [] f fd := ⟨g, F.kp, [], .nil, b⟩
theorem FnD.mono {P : Program} {w : World} {K : PySem.W.Frag} {mg : Str → Option Value} {base : Heap} {j k : Nat} {f : Addr} {fd : FuncData} {ps : List Str} {F : List D → GH → R D} (h : FnD P w K mg base j f fd ps F) (i : j ≤ k) : FnD P w K mg base k f fd ps F :=
  ⟨fun B up s H ar us vs Q E room gd e0 bnd rel pr => h.go B up s H ar us vs Q E (room.mono i) gd e0 bnd rel pr⟩
def fNo : List D → GH → R D := fun _ _ => .no
theorem FnD.no {P : Program} {w : World} {K : PySem.W.Frag} {mg : Str → Option Value} {base : Heap} {k : Nat} {f : Addr} {fd : FuncData} {ps : List Str} : FnD P w K mg base k f fd ps fNo :=
  ⟨fun _ _ _ _ _ _ _ _ _ _ _ _ _ _ ⟨_, _, _, _, _, _, q⟩ => q.elim⟩
section
variable {P : Program} {w : World} {K : PySem.W.Frag} {mg : Str → Option Value} {base : Heap} {N : List Str} {qual : Str} {sc : Scope} {f : Addr} {cd : Value} {A : Around} {outer : List Env} {s : Shared} {H : Hp} {E : XK}
theorem tkB : Takes (cxOf (L2.CX P w) P w K mg base N qual sc f cd A outer s H E) (wE E) := takes_of rfl rfl rfl rfl
theorem psB : PassesOwn (model P w) (cxOf (L2.CX P w) P w K mg base N qual sc f cd A outer s H E).A (cxOf (L2.CX P w) P w K mg base N qual sc f cd A outer s H E).env (cxOf (L2.CX P w) P w K mg base N qual sc f cd A outer s H E).xe := passes_of rfl
end
section
variable {X : Cx} {W : WX} {pos p : Pos}
theorem xe_call {k : Nat} {f : Addr} {fd : FuncData} {ps : List Str} {F : List D → GH → R D} {dvs : List V} {dds : List D} {x : Str} {e : Expr} {es : List Expr} {g : FA} (tk : Takes X W) (hr : Room k X.A) (hgd : X.A.guards = some [])
    {n : Nat} (t : Tx X.K X.mg x ps dvs f fd) (Fn : FnD X.prog X.w X.K X.mg X.base k f fd ps F) (rd : ∀ L : Lk, Reps X.K L.Z L.r dds dvs) (hn : ps.length = n)
    (ha : xA X W (e :: es) g) (hg : Gl X x := by rfl) (hdb : (x == ("__debug__" : Str)) = false := by decide) (he : starEach (e :: es) X.env = (false, eval e X.env) :: starEach es X.env := by rfl) (hpl : (backTo pos (starEach es X.env)).any (·.1) = false := by rfl) :
    xE X W (.Call (.Name x p) (e :: es) [] pos) (eCall n F dds g) :=
  hn ▸ let ⟨ds, hd, hb⟩ := t.b
  xe_callD tk Fn hr hgd t.g t.k hb hd rd ha hg hdb he hpl
end
end CF
end
section
set_option maxRecDepth 100000
set_option maxHeartbeats 1000000
namespace CF
open PySem PySem.Spec PyProof.Rows L2
section
variable (δ : DEnv) (G : GH)
@[simp] theorem ap_eC (d : D) : eC d δ G = .ok d G := rfl
@[simp] theorem ap_eVar (i : Nat) : eVar i δ G = match δ[i]? with | some (some d) => .ok d G | _ => .no := rfl
@[simp] theorem ap_aNil : aNil δ G = .ok [] G := rfl
@[simp] theorem ap_aCons (f : FE) (g : FA) : aCons f g δ G = (f δ G).bind fun d G1 => (g δ G1).bind fun ds G2 => .ok (d :: ds) G2 := rfl
@[simp] theorem ap_eTup (g : FA) : eTup g δ G = (g δ G).bind fun ds G1 => if ds.length ≤ sizeLine then .ok (.tup ds) G1 else .no := rfl
@[simp] theorem ap_eTupP (g : FA) : eTupP g δ G = (g δ G).bind fun ds G1 => if ds.length ≤ sizeLine then .ok (.pt ds) G1 else .no := rfl
@[simp] theorem ap_eLst (g : FA) : eLst g δ G = (g δ G).bind fun ds G1 => if ds.length ≤ sizeLine then .ok (.lst ds) G1 else .no := rfl
@[simp] theorem ap_eLstM (g : FA) : eLstM g δ G = (g δ G).bind fun ds G1 => if ds.length ≤ sizeLine then .ok (.ref G1.length) (G1 ++ [.lst ds]) else .no := rfl
@[simp] theorem ap_eOp (f : F2) (a b : FE) : eOp f a b δ G = (a δ G).bind fun x G1 => (b δ G1).bind fun y G2 => f x y G2 := rfl
@[simp] theorem ap_eChain (f f' : F2) (a b c : FE) : eChain f f' a b c δ G = (a δ G).bind fun x G1 => (b δ G1).bind fun y G2 => (f x y G2).bind fun k G3 => match k with
  | .bl true => (c δ G3).bind fun z G4 => f' y z G4
  | .bl false => .ok (.bl false) G3
  | _ => .no := rfl
@[simp] theorem ap_asB (f : FE) : asB f δ G = (f δ G).bind fun d G1 => match d with | .bl b => .ok b G1 | _ => .no := rfl
@[simp] theorem ap_tAnd (f g : FT) : tAndD f g δ G = (f δ G).bind fun k G1 => if k then g δ G1 else .ok false G1 := rfl
@[simp] theorem ap_tOr (f g : FT) : tOrD f g δ G = (f δ G).bind fun k G1 => if k then .ok true G1 else g δ G1 := rfl
@[simp] theorem ap_tNot (f : FT) : tNotD f δ G = (f δ G).bind fun k G1 => .ok (!k) G1 := rfl
@[simp] theorem ap_eTru (f : FE) : eTru f δ G = (f δ G).bind fun d G1 => match truD G1 d with | some b => .ok b G1 | none => .no := rfl
@[simp] theorem ap_eIf (t : FT) (f g : FE) : eIf t f g δ G = (t δ G).bind fun k G1 => if k then f δ G1 else g δ G1 := rfl
@[simp] theorem ap_sNext : sNext δ G = .nx δ G := rfl
@[simp] theorem ap_sSeq (f g : FS) : sSeq f g δ G = (f δ G).seq g := rfl
@[simp] theorem ap_sRet (f : FE) : sRet f δ G = (f δ G).thn δ fun d G1 => .rt d G1 := rfl
@[simp] theorem ap_sRetN : sRetN δ G = .rt .non G := rfl
@[simp] theorem ap_sIf (t : FT) (f g : FS) : sIf t f g δ G = (t δ G).thn δ fun k G1 => if k then f δ G1 else g δ G1 := rfl
@[simp] theorem ap_sSet (i : Nat) (f : FE) : sSet i f δ G = (f δ G).thn δ fun d G1 => .nx (δ.set i (some d)) G1 := rfl
@[simp] theorem ap_sDrop (f : FE) : sDrop f δ G = (f δ G).thn δ fun _ G1 => .nx δ G1 := rfl
@[simp] theorem ap_sBreak : sBreak δ G = .bk δ G := rfl
@[simp] theorem ap_sCont : sCont δ G = .ct δ G := rfl
@[simp] theorem ap_gNm (i : Nat) (d : D) : gNm i d δ G = .nx (δ.set i (some d)) G := rfl
@[simp] theorem ap_gsNil : gsNil [] δ G = .nx δ G := rfl
@[simp] theorem ap_gsCons (g : FG) (k : FGs) (d : D) (r : List D) : gsCons g k (d :: r) δ G = (g d δ G).seq (k r) := rfl
@[simp] theorem ap_gTp (n : Nat) (k : FGs) (ds : List D) : gTp n k (.tup ds) δ G = if ds.length = n then k ds δ G else .no := rfl
@[simp] theorem ap_sAsg (f : FE) (g : FG) : sAsg f g δ G = (f δ G).thn δ fun d G1 => match g d δ G1 with | .nx δ' G' => .nx δ' G' | _ => .no := rfl
@[simp] theorem ap_eOne (f : FE) (k : D → GH → R D) : eOne f k δ G = (f δ G).bind k := rfl
@[simp] theorem ap_eUn (f : D → GH → R D) (a : FE) : eUn f a δ G = (a δ G).bind f := rfl
@[simp] theorem ap_eCB (f : List D → GH → R D) (g : FA) : eCB f g δ G = (g δ G).bind f := rfl
@[simp] theorem ap_one (f : D → GH → R D) (d : D) : one f [d] G = f d G := rfl
@[simp] theorem ap_eCall (n : Nat) (F : List D → GH → R D) (dds : List D) (g : FA) : eCall n F dds g δ G = (g δ G).bind fun ds G1 => if (ds ++ dds).length = n then F (ds ++ dds) G1 else .no := rfl
@[simp] theorem ap_eAnd (f g : FE) : eAnd f g δ G = (f δ G).bind fun d G1 => match truD G1 d with | some true => g δ G1 | some false => .ok d G1 | none => .no := by
  unfold eAnd
  congr 1
@[simp] theorem ap_eOr (f g : FE) : eOr f g δ G = (f δ G).bind fun d G1 => match truD G1 d with | some true => .ok d G1 | some false => g δ G1 | none => .no := by
  unfold eOr
  congr 1
@[simp] theorem ap_eNot (t : FT) : eNot t δ G = (t δ G).bind fun k G1 => .ok (.bl (!k)) G1 := rfl
@[simp] theorem ap_iSeq (f : FE) : iSeq f δ G = (f δ G).bind fun x G1 => match itsD G1 x with | some it => .ok it G1 | none => .no := rfl
@[simp] theorem ap_eLc (mk : List D → GH → R D) (fi : FI) (g : FG) (t : FT) (f : FE) (vs : List Nat) : eLc mk fi g t f vs δ G = (fi δ G).bind fun it G1 => if it.chk G1 then (lcL it.chk g t f (wipeD δ vs) it.items [] G1).bind mk else .no := rfl
@[simp] theorem ap_sFor (fi : FI) (g : FG) (body : FS) : sFor fi g body δ G = (fi δ G).thn δ fun it G1 => if it.chk G1 then sForL it.chk g body it.items δ G1 else .no := rfl
@[simp] theorem ap_mkF (ds : List D) : mkF ds G = .ok (.lst ds) G := rfl
@[simp] theorem ap_mkM (ds : List D) : mkM ds G = .ok (.ref G.length) (G ++ [.lst ds]) := rfl
@[simp] theorem ap_tYes : tYesD δ G = .ok true G := rfl
@[simp] theorem wipeD_nil : wipeD δ [] = δ := rfl
@[simp] theorem wipeD_cons (v : Nat) (vs : List Nat) : wipeD δ (v :: vs) = (wipeD δ vs).set v none := rfl
@[simp] theorem truD_bl (b : Bool) : truD G (.bl b) = some b := rfl
@[simp] theorem truD_non : truD G .non = some false := rfl
@[simp] theorem truD_int (i : Int) : truD G (.int i) = some (i != 0) := rfl
@[simp] theorem dIB_ap (f : Int → Int → Bool) (i j : Int) : dIB f (.int i) (.int j) G = .ok (.bl (f i j)) G := rfl
@[simp] theorem dI_ap (c : Int → Int → Bool) (f : Int → Int → Int) (i j : Int) : dI c f (.int i) (.int j) G = if c i j then .ok (.int (f i j)) G else .no := rfl
@[simp] theorem dNeg_ap (i : Int) : dNeg (.int i) G = .ok (.int (-i)) G := rfl
@[simp] theorem dIsi_ap (T : String) (d : D) : dIsi T d G = match tyN G d with | some t => (match isiB t T with | some b => .ok (.bl b) G | none => .no) | none => .no := rfl
end
theorem defF_ap (N : List Str) (fb : FS) (ds : List D) (G : GH) : defF N fb ds G = match fb (startD N ds) G with
  | .nx _ G' => .ok .non G'
  | .rt d G' => .ok d G'
  | .ex x _ G' => .ex x G'
  | _ => .no := rfl
section
variable (δ : DEnv) (G : GH)
theorem dIx_ref (n : Nat) (i : Int) {xs : List D} (h : G[n]? = some (.lst xs)) : dIx (.ref n) (.int i) G = match atI xs i with | some d => .ok d G | none => .no := by
  show (match lstOf G (.ref n) with | some xs => _ | none => _) = _
  rw [lstOf_ref, h] <;> rfl
@[simp] theorem dIx_tup (xs : List D) (i : Int) : dIx (.tup xs) (.int i) G = match atI xs i with | some d => .ok d G | none => .no := rfl
@[simp] theorem dIx_pt (xs : List D) (i : Int) : dIx (.pt xs) (.int i) G = match atI xs i with | some d => .ok d G | none => .no := rfl
@[simp] theorem dIx_lst (xs : List D) (i : Int) : dIx (.lst xs) (.int i) G = match atI xs i with | some d => .ok d G | none => .no := rfl
@[simp] theorem dIx_scr (xs : List D) (i : Int) : dIx (.scr xs) (.int i) G = match atI xs i with | some d => .ok d G | none => .no := rfl
@[simp] theorem atI_0 {α : Type} (x : α) (r : List α) : atI (x :: r) 0 = some x := by simp [atI, ixN]
@[simp] theorem atI_1 {α : Type} (x y : α) (r : List α) : atI (x :: y :: r) 1 = some y := by
  have h : (1 : Int) < ((x :: y :: r).length : Int) := by simp only [List.length_cons]; omega
  unfold atI ixN
  rw [if_pos (by decide), if_pos h]
  rfl
@[simp] theorem atI_2 {α : Type} (x y z : α) (r : List α) : atI (x :: y :: z :: r) 2 = some z := by
  have h : (2 : Int) < ((x :: y :: z :: r).length : Int) := by simp only [List.length_cons]; omega
  unfold atI ixN
  rw [if_pos (by decide), if_pos h]
  rfl
theorem atI_nat2 {α : Type} (xs : List α) (j : Nat) : atI xs (j : Int) = xs[j]? := by
  unfold atI ixN
  by_cases h : j < xs.length
  · have h2 : (j : Int) < (xs.length : Int) := by omega
    simp [h2]
  · have h2 : ¬ (j : Int) < (xs.length : Int) := by omega
    simp [h2, List.getElem?_eq_none (by omega : xs.length ≤ j)]
@[simp] theorem dAdd_int (mk : List D → GH → R D) (i j : Int) : dAdd mk (.int i) (.int j) G = .ok (.int (i + j)) G := rfl
@[simp] theorem dAdd_tup (mk : List D → GH → R D) (a b : List D) : dAdd mk (.tup a) (.tup b) G = if a.length + b.length ≤ sizeLine then .ok (.tup (a ++ b)) G else .no := rfl
@[simp] theorem dAdd_pt (mk : List D → GH → R D) (a b : List D) : dAdd mk (.pt a) (.pt b) G = if a.length + b.length ≤ sizeLine then .ok (.pt (a ++ b)) G else .no := rfl
@[simp] theorem dAdd_lst (mk : List D → GH → R D) (a b : List D) : dAdd mk (.lst a) (.lst b) G = if a.length + b.length ≤ sizeLine then mk (a ++ b) G else .no := rfl
@[simp] theorem dAdd_str (mk : List D → GH → R D) (a b : Str) : dAdd mk (.str a) (.str b) G = if a.length + b.length ≤ sizeLine then .ok (.str (a ++ b)) G else .no := rfl
@[simp] theorem dInt_int (i : Int) : dInt (.int i) G = .ok (.int i) G := rfl
@[simp] theorem dInt_bl (b : Bool) : dInt (.bl b) G = .ok (.int (if b then 1 else 0)) G := rfl
@[simp] theorem dStr_int (i : Int) : dStr (.int i) G = if i.natAbs.log2 < 1920 then .ok (.str (toString i)) G else .no := rfl
@[simp] theorem dStr_str (x : Str) : dStr (.str x) G = .ok (.str x) G := rfl
theorem ap_setI (fo fi f : FE) : sSetI fo fi f δ G = (f δ G).thn δ fun d G1 => (fo δ G1).thn δ fun o G2 => (fi δ G2).thn δ fun i G3 => match celL G3 o, i with
  | some (n, xs), .int z => (match ixN xs.length z with
    | some j => .nx δ (G3.set n (.lst (xs.set j d)))
    | none => .no)
  | _, _ => .no := rfl
theorem pyEq_int (i j : Int) : pyEq G (.int i) (.int j) = some (i == j) := by simp [pyEq, res, D.py, PyData.depth, PyData.eqv]
@[simp] theorem dEq_int (i j : Int) : dEq (.int i) (.int j) G = .ok (.bl (i == j)) G := by simp [dEq, pyEq_int]
@[simp] theorem dNe_int (i j : Int) : dNe (.int i) (.int j) G = .ok (.bl (!(i == j))) G := by simp [dNe, pyEq_int]
theorem pyEq_str {x y : Str} (hx : PyData.strOk x = true) (hy : PyData.strOk y = true) : pyEq G (.str x) (.str y) = some (x == y) := by simp [pyEq, res, D.py, hx, hy, PyData.depth, PyData.eqv]
theorem dEq_str {x y : Str} (hx : PyData.strOk x = true) (hy : PyData.strOk y = true) : dEq (.str x) (.str y) G = .ok (.bl (x == y)) G := by simp [dEq, pyEq_str G hx hy]
theorem dNe_str {x y : Str} (hx : PyData.strOk x = true) (hy : PyData.strOk y = true) : dNe (.str x) (.str y) G = .ok (.bl (!(x == y))) G := by simp [dNe, pyEq_str G hx hy]
@[simp] theorem dLen_lst (xs : List D) : dLen (.lst xs) G = .ok (.int xs.length) G := rfl
@[simp] theorem dLen_tup (xs : List D) : dLen (.tup xs) G = .ok (.int xs.length) G := rfl
@[simp] theorem dLen_pt (xs : List D) : dLen (.pt xs) G = .ok (.int xs.length) G := rfl
@[simp] theorem dLen_scr (xs : List D) : dLen (.scr xs) G = .ok (.int xs.length) G := rfl
theorem dLen_ref (n : Nat) {xs : List D} (h : G[n]? = some (.lst xs)) : dLen (.ref n) G = .ok (.int xs.length) G := by
  simp [dLen, lenO, h]
@[simp] theorem dIsN_non (x : D) : dIsN x .non G = .ok (.bl (isN x)) G := rfl
@[simp] theorem dNotN_non (x : D) : dNotN x .non G = .ok (.bl (!isN x)) G := rfl
end
@[simp] theorem ap_eMt (T : String) (f : FM) (o : FE) (g : FA) (δ : DEnv) (G : GH) : eMt T f o g δ G = (o δ G).bind fun d G1 => if tyM T G1 d then (g δ G1).bind fun ds G2 => f d ds G2 else .no := rfl
@[simp] theorem ap_eMt0 (T : String) (f : FM) (o : FE) (δ : DEnv) (G : GH) : eMt0 T f o δ G = (o δ G).bind fun d G1 => if tyM T G1 d then f d [] G1 else .no := rfl
theorem mPopAt_ap {G : GH} {n j : Nat} {xs : List D} {r : Int} (h : G[n]? = some (.lst xs)) (hr : r = (j : Int)) (hj : j < xs.length) (hl : xs.length < 1000000) : mPopAt (.ref n) [.int r] G = .ok xs[j] (G.set n (.lst (xs.eraseIdx j))) := by
  have e1 : ixN xs.length (j : Int) = some j := by
    unfold ixN
    rw [if_pos (by omega), if_pos (by omega)]
    simp
  have e2 : xs.length < 4611686018427387904 := by omega
  subst hr
  simp [mPopAt, h, e1, hj, e2]
noncomputable def rng1K : List D → GH → R Its := fun ds G1 => match ds with
  | [.int j] => if rngC j then .ok (rngIts 0 j.toNat) G1 else .no
  | _ => .no
@[simp] theorem ap_iRg1 (g : FA) (δ : DEnv) (G : GH) : iRg1 g δ G = (g δ G).bind rng1K := rfl
theorem rng1K_nat {n : Nat} {G : GH} (h : n < 1000000) : rng1K [.int n] G = .ok (rngIts 0 n) G := by
  have c := rngC_nat h
  simp [rng1K, c]
@[simp] theorem rngIts_items (lo : Int) (n : Nat) : (rngIts lo n).items = (List.range n).map fun i => .int (lo + (i : Nat)) := rfl
@[simp] theorem rngIts_chk (lo : Int) (n : Nat) : (rngIts lo n).chk = fun _ => true := rfl
theorem erase_map {α β : Type} (f : α → β) : ∀ (l : List α) (i : Nat), (l.map f).eraseIdx i = (l.eraseIdx i).map f
  | [], _ => rfl
  | _ :: _, 0 => rfl
  | x :: l, i + 1 => by
    rw [List.map_cons, List.eraseIdx_cons_succ, List.eraseIdx_cons_succ, List.map_cons, erase_map f l i]
theorem erase_perm {α : Type} : ∀ (l : List α) (i : Nat) (h : i < l.length), (l[i] :: l.eraseIdx i).Perm l
  | [], _, h => absurd h (Nat.not_lt_zero _)
  | x :: l, 0, _ => .refl _
  | x :: l, i + 1, h => by
    have h' : i < l.length := by simpa using h
    show (l[i] :: x :: l.eraseIdx i).Perm (x :: l)
    exact (List.Perm.swap _ _ _).trans ((erase_perm l i h').cons x)
theorem lcL_map {g : FG} {f : FE} {δ : DEnv} {G : GH} (h : D → D) (δ' : D → DEnv) : ∀ {items acc : List D}, (∀ d ∈ items, g d δ G = .nx (δ' d) G) → (∀ d ∈ items, f (δ' d) G = .ok (h d) G) → acc.length + items.length ≤ sizeLine →
    lcL (fun _ => true) g tYesD f δ items acc G = .ok (acc ++ items.map h) G
  | [], acc, _, _, _ => by simp [lcL]
  | d :: items, acc, hg, hf, hl => by
    have l1 : acc.length < sizeLine := by rw [List.length_cons] at hl; omega
    have ih := lcL_map h δ' (items := items) (acc := acc ++ [h d]) (fun d hd => hg d (.tail _ hd)) (fun d hd => hf d (.tail _ hd)) (by rw [List.length_append, List.length_singleton]; rw [List.length_cons] at hl; omega)
    unfold lcL
    simp [hg d (.head _), hf d (.head _), l1, ih]
@[simp] theorem itsD_chk_tup (G : GH) (xs : List D) : itsD G (.tup xs) = some ⟨xs, fun _ => true⟩ := rfl
@[simp] theorem lenO_str' (G : GH) (x : Str) : dLen (.str x) G = if x.length ≤ sizeLine then .ok (.int x.length) G else .no := by
  show (match (if x.length ≤ sizeLine then some x.length else none) with | some n => R.ok (D.int (n : Nat)) G | none => R.no) = _
  by_cases h : x.length ≤ sizeLine <;> simp [h]
@[simp] theorem dAll_lst (G : GH) (bs : List Bool) : dAll (.lst (bs.map D.bl)) G = .ok (.bl (bs.all id)) G := by simp [dAll]
theorem dAll_map {α : Type} (G : GH) (xs : List α) (f : α → Bool) : dAll (.lst (xs.map fun x => D.bl (f x))) G = .ok (.bl (xs.all f)) G := by
  have := dAll_lst G (xs.map f)
  rw [List.map_map] at this
  simpa [List.all_map, Function.comp_def] using this
@[simp] theorem dSum_ints (G : GH) (bs : List Int) : dSum (.lst (bs.map D.int)) G = .ok (.int bs.sum) G := by simp [dSum]
theorem fzR_ok2 {G G' J : GH} {d d' : D} (hl : G'.length = G.length) (hk : ∀ (k : Nat) (c : Cell), k < G.length → G'[k]? = some c → G[k]? = some c ∨ closedC G.length c) (e : fzD (G' ++ J) G.length d = some d') : fzR G (.ok d (G' ++ J)) = .ok d' G' := by
  have kp : kept G (G' ++ J) := ⟨by simp [hl], fun k c h e1 => by
    rw [List.getElem?_append_left (by omega)] at e1
    exact hk k c h e1⟩
  unfold fzR
  dsimp only
  rw [if_pos kp, e]
  simp [← hl]
end CF
end
section
set_option maxRecDepth 100000
set_option maxHeartbeats 1000000
namespace CF
open PySem PySem.Spec PyProof.Rows L2
abbrev XP := Ex → GH → Prop
structure Tag {α : Type} (Q : α → GH → Prop) (E : XP) : Type where
  mk ::
def R.wp {α : Type} (r : R α) (Q : α → GH → Prop) (E : XP) (_t : Tag Q E := ⟨⟩) : Prop := match r with
  | .ok a G => Q a G
  | .ex x G => E x G
  | .no => False
abbrev noX : XP := fun _ _ => False
abbrev SP := DEnv → GH → Prop
structure TagS (nx : SP) (rt : D → GH → Prop) (bk ct : SP) (ex : Ex → DEnv → GH → Prop) : Type where
  mk ::
def RS.wp (r : RS) (nx : SP) (rt : D → GH → Prop) (bk ct : SP) (ex : Ex → DEnv → GH → Prop) (_t : TagS nx rt bk ct ex := ⟨⟩) : Prop := match r with
  | .nx δ G => nx δ G
  | .rt d G => rt d G
  | .bk δ G => bk δ G
  | .ct δ G => ct δ G
  | .ex x δ G => ex x δ G
  | .no => False
theorem R.wp_mono {α : Type} {r : R α} {Q Q' : α → GH → Prop} {E E' : XP} (h : r.wp Q E) (i : ∀ a G, Q a G → Q' a G) (j : ∀ x G, E x G → E' x G) : r.wp Q' E' := by
  cases r with
  | ok a G => exact i a G h
  | ex x G => exact j x G h
  | no => exact h
theorem RS.wp_mono {r : RS} {nx nx' : SP} {rt rt' : D → GH → Prop} {bk ct bk' ct' : SP} {ex ex' : Ex → DEnv → GH → Prop} (h : r.wp nx rt bk ct ex) (i1 : ∀ δ G, nx δ G → nx' δ G) (i2 : ∀ d G, rt d G → rt' d G) (i3 : ∀ δ G, bk δ G → bk' δ G) (i4 : ∀ δ G, ct δ G → ct' δ G) (i5 : ∀ x δ G, ex x δ G → ex' x δ G) : r.wp nx' rt' bk' ct' ex' := by
  cases r with
  | nx δ G => exact i1 δ G h
  | rt d G => exact i2 d G h
  | bk δ G => exact i3 δ G h
  | ct δ G => exact i4 δ G h
  | ex x δ G => exact i5 x δ G h
  | no => exact h
theorem R.use {α : Type} {r : R α} {Q Q' : α → GH → Prop} {E : XP} (h : r.wp Q noX) (i : ∀ a G, Q a G → Q' a G) : r.wp Q' E := R.wp_mono h i fun _ _ h => h.elim
theorem R.wp_ex_iff {α : Type} {r : R α} {Q : α → GH → Prop} : r.wp Q noX ↔ ∃ a G, r = .ok a G ∧ Q a G := by
  cases r with
  | ok a G => exact ⟨fun h => ⟨a, G, rfl, h⟩, fun ⟨_, _, e, h⟩ => by cases e; exact h⟩
  | ex x G => exact ⟨fun h => h.elim, fun ⟨_, _, e, _⟩ => by cases e⟩
  | no => exact ⟨fun h => h.elim, fun ⟨_, _, e, _⟩ => by cases e⟩
theorem R.wp_of {α : Type} {r : R α} {Q : α → GH → Prop} {E : XP} {a : α} {G : GH} (e : r = .ok a G) (h : Q a G) : r.wp Q E := by rw [e]; exact h
section
variable {α β : Type} {Q : β → GH → Prop} {E : XP} {nx : SP} {rt : D → GH → Prop} {bk ct : SP} {ex : Ex → DEnv → GH → Prop} (δ : DEnv) (G : GH)
theorem wp_ok (a : α) (Q : α → GH → Prop) : (R.ok a G).wp Q E = Q a G := rfl
theorem wp_ex (x : Ex) (Q : α → GH → Prop) : (R.ex x G : R α).wp Q E = E x G := rfl
theorem wp_bind (r : R α) (k : α → GH → R β) : (r.bind k).wp Q E = r.wp (fun a G1 => (k a G1).wp Q E) E := by cases r <;> rfl
theorem wp_guard {c : Prop} [Decidable c] (r : R α) (Q : α → GH → Prop) : (if c then r else .no).wp Q E = (c ∧ r.wp Q E) := by
  by_cases h : c <;> simp [h, R.wp]
theorem wp_nox (r : R α) (Q : α → GH → Prop) : r.nox.wp Q E = r.wp Q noX := by cases r <;> rfl
theorem sp_nx : (RS.nx δ G).wp nx rt bk ct ex = nx δ G := rfl
theorem sp_rt (d : D) : (RS.rt d G).wp nx rt bk ct ex = rt d G := rfl
theorem sp_bk : (RS.bk δ G).wp nx rt bk ct ex = bk δ G := rfl
theorem sp_ct : (RS.ct δ G).wp nx rt bk ct ex = ct δ G := rfl
theorem sp_ex (x : Ex) : (RS.ex x δ G).wp nx rt bk ct ex = ex x δ G := rfl
theorem sp_seq (r : RS) (k : DEnv → GH → RS) : (r.seq k).wp nx rt bk ct ex = r.wp (fun δ1 G1 => (k δ1 G1).wp nx rt bk ct ex) rt bk ct ex := by cases r <;> rfl
theorem sp_thn (r : R α) (k : α → GH → RS) : (r.thn δ k).wp nx rt bk ct ex = r.wp (fun a G1 => (k a G1).wp nx rt bk ct ex) (fun x G1 => ex x δ G1) := by cases r <;> rfl
theorem sp_guard {c : Prop} [Decidable c] (r : RS) : (if c then r else .no).wp nx rt bk ct ex = (c ∧ r.wp nx rt bk ct ex) := by
  by_cases h : c <;> simp [h, RS.wp]
theorem wp_def (N : List Str) (fb : FS) (ds : List D) (Q : D → GH → Prop) : (defF N fb ds G).wp Q E = (fb (startD N ds) G).wp (fun _ G1 => Q .non G1) Q (fun _ _ => False) (fun _ _ => False) (fun x _ G1 => E x G1) := by
  rw [defF_ap]
  cases fb (startD N ds) G <;> rfl
end
section
variable {nx : SP} {rt : D → GH → Prop} {bk ct : SP} {ex : Ex → DEnv → GH → Prop} (δ : DEnv) (G : GH)
theorem w_sNext  : (sNext δ G).wp nx rt bk ct ex = (RS.nx δ G).wp nx rt bk ct ex := by rw [ap_sNext] <;> rfl
theorem w_sSeq (f g : FS) : (sSeq f g δ G).wp nx rt bk ct ex = ((f δ G).seq g).wp nx rt bk ct ex := by rw [ap_sSeq] <;> rfl
theorem w_sRet (f : FE) : (sRet f δ G).wp nx rt bk ct ex = ((f δ G).thn δ fun d G1 => .rt d G1).wp nx rt bk ct ex := by rw [ap_sRet] <;> rfl
theorem w_sRetN  : (sRetN δ G).wp nx rt bk ct ex = (RS.rt .non G).wp nx rt bk ct ex := by rw [ap_sRetN] <;> rfl
theorem w_sIf (t : FT) (f g : FS) : (sIf t f g δ G).wp nx rt bk ct ex = ((t δ G).thn δ fun k G1 => if k then f δ G1 else g δ G1).wp nx rt bk ct ex := by rw [ap_sIf] <;> rfl
theorem w_sSet (i : Nat) (f : FE) : (sSet i f δ G).wp nx rt bk ct ex = ((f δ G).thn δ fun d G1 => .nx (δ.set i (some d)) G1).wp nx rt bk ct ex := by rw [ap_sSet] <;> rfl
theorem w_sDrop (f : FE) : (sDrop f δ G).wp nx rt bk ct ex = ((f δ G).thn δ fun _ G1 => .nx δ G1).wp nx rt bk ct ex := by rw [ap_sDrop] <;> rfl
theorem w_sBreak  : (sBreak δ G).wp nx rt bk ct ex = (RS.bk δ G).wp nx rt bk ct ex := by rw [ap_sBreak] <;> rfl
theorem w_sCont  : (sCont δ G).wp nx rt bk ct ex = (RS.ct δ G).wp nx rt bk ct ex := by rw [ap_sCont] <;> rfl
theorem w_gNm (i : Nat) (d : D) : (gNm i d δ G).wp nx rt bk ct ex = (RS.nx (δ.set i (some d)) G).wp nx rt bk ct ex := by rw [ap_gNm] <;> rfl
theorem w_gsNil  : (gsNil [] δ G).wp nx rt bk ct ex = (RS.nx δ G).wp nx rt bk ct ex := by rw [ap_gsNil] <;> rfl
theorem w_gsCons (g : FG) (k : FGs) (d : D) (r : List D) : (gsCons g k (d :: r) δ G).wp nx rt bk ct ex = ((g d δ G).seq (k r)).wp nx rt bk ct ex := by rw [ap_gsCons] <;> rfl
theorem w_gTp (n : Nat) (k : FGs) (ds : List D) : (gTp n k (.tup ds) δ G).wp nx rt bk ct ex = (if ds.length = n then k ds δ G else RS.no).wp nx rt bk ct ex := by rw [ap_gTp] <;> rfl
theorem w_sAsg (f : FE) (g : FG) : (sAsg f g δ G).wp nx rt bk ct ex = (f δ G).wp (fun d G1 => (g d δ G1).wp nx (fun _ _ => False) (fun _ _ => False) (fun _ _ => False) (fun _ _ _ => False)) (fun x G1 => ex x δ G1) := by
  rw [ap_sAsg]
  cases f δ G with
  | ok d G1 => rw [R.thn_ok]; show _ = (g d δ G1).wp nx _ _ _ _; cases g d δ G1 <;> rfl
  | ex x G1 => rfl
  | no => rfl
theorem w_sFor (fi : FI) (g : FG) (body : FS) : (sFor fi g body δ G).wp nx rt bk ct ex = ((fi δ G).thn δ fun it G1 => if it.chk G1 then sForL it.chk g body it.items δ G1 else RS.no).wp nx rt bk ct ex := by rw [ap_sFor] <;> rfl
end
section
variable {E : XP} (δ : DEnv) (G : GH)
section
variable {Q : D → GH → Prop}
theorem w_eC (d : D) : (eC d δ G).wp Q E = (R.ok d G).wp Q E := by rw [ap_eC] <;> rfl
theorem w_eVar (i : Nat) : (eVar i δ G).wp Q E = (match δ[i]? with | some (some d) => R.ok d G | _ => R.no).wp Q E := by rw [ap_eVar] <;> rfl
theorem w_eTup (g : FA) : (eTup g δ G).wp Q E = ((g δ G).bind fun ds G1 => if ds.length ≤ sizeLine then .ok (.tup ds) G1 else .no).wp Q E := by rw [ap_eTup] <;> rfl
theorem w_eTupP (g : FA) : (eTupP g δ G).wp Q E = ((g δ G).bind fun ds G1 => if ds.length ≤ sizeLine then .ok (.pt ds) G1 else .no).wp Q E := by rw [ap_eTupP] <;> rfl
theorem w_eLst (g : FA) : (eLst g δ G).wp Q E = ((g δ G).bind fun ds G1 => if ds.length ≤ sizeLine then .ok (.lst ds) G1 else .no).wp Q E := by rw [ap_eLst] <;> rfl
theorem w_eLstM (g : FA) : (eLstM g δ G).wp Q E = ((g δ G).bind fun ds G1 => if ds.length ≤ sizeLine then .ok (.ref G1.length) (G1 ++ [.lst ds]) else .no).wp Q E := by rw [ap_eLstM] <;> rfl
theorem w_eOp (f : F2) (a b : FE) : (eOp f a b δ G).wp Q E = ((a δ G).bind fun x G1 => (b δ G1).bind fun y G2 => f x y G2).wp Q E := by rw [ap_eOp] <;> rfl
theorem w_eChain (f f' : F2) (a b c : FE) : (eChain f f' a b c δ G).wp Q E = ((a δ G).bind fun x G1 => (b δ G1).bind fun y G2 => (f x y G2).bind fun k G3 => match k with
  | .bl true => (c δ G3).bind fun z G4 => f' y z G4
  | .bl false => .ok (.bl false) G3
  | _ => .no).wp Q E := by rw [ap_eChain] <;> rfl
theorem w_eIf (t : FT) (f g : FE) : (eIf t f g δ G).wp Q E = ((t δ G).bind fun k G1 => if k then f δ G1 else g δ G1).wp Q E := by rw [ap_eIf] <;> rfl
theorem w_eOne (f : FE) (k : D → GH → R D) : (eOne f k δ G).wp Q E = ((f δ G).bind k).wp Q E := by rw [ap_eOne] <;> rfl
theorem w_eUn (f : D → GH → R D) (a : FE) : (eUn f a δ G).wp Q E = ((a δ G).bind f).wp Q E := by rw [ap_eUn] <;> rfl
theorem w_eCB (f : List D → GH → R D) (g : FA) : (eCB f g δ G).wp Q E = ((g δ G).bind f).wp Q E := by rw [ap_eCB] <;> rfl
theorem w_one (f : D → GH → R D) (d : D) : (one f [d] G).wp Q E = (f d G).wp Q E := by rw [ap_one] <;> rfl
theorem w_eCall (n : Nat) (F : List D → GH → R D) (dds : List D) (g : FA) : (eCall n F dds g δ G).wp Q E = ((g δ G).bind fun ds G1 => if (ds ++ dds).length = n then F (ds ++ dds) G1 else .no).wp Q E := by rw [ap_eCall] <;> rfl
theorem w_eAnd (f g : FE) : (eAnd f g δ G).wp Q E = ((f δ G).bind fun d G1 => match truD G1 d with | some true => g δ G1 | some false => .ok d G1 | none => .no).wp Q E := by rw [ap_eAnd] <;> rfl
theorem w_eOr (f g : FE) : (eOr f g δ G).wp Q E = ((f δ G).bind fun d G1 => match truD G1 d with | some true => .ok d G1 | some false => g δ G1 | none => .no).wp Q E := by rw [ap_eOr] <;> rfl
theorem w_eNot (t : FT) : (eNot t δ G).wp Q E = ((t δ G).bind fun k G1 => .ok (.bl (!k)) G1).wp Q E := by rw [ap_eNot] <;> rfl
theorem w_eLc (mk : List D → GH → R D) (fi : FI) (g : FG) (t : FT) (f : FE) (vs : List Nat) : (eLc mk fi g t f vs δ G).wp Q E = ((fi δ G).bind fun it G1 => if it.chk G1 then (lcL it.chk g t f (wipeD δ vs) it.items [] G1).bind mk else .no).wp Q E := by rw [ap_eLc] <;> rfl
theorem w_mkF (ds : List D) : (mkF ds G).wp Q E = (R.ok (.lst ds) G).wp Q E := by rw [ap_mkF] <;> rfl
theorem w_mkM (ds : List D) : (mkM ds G).wp Q E = (R.ok (.ref G.length) (G ++ [.lst ds])).wp Q E := by rw [ap_mkM] <;> rfl
theorem w_eMt (T : String) (f : FM) (o : FE) (g : FA) : (eMt T f o g δ G).wp Q E = ((o δ G).bind fun d G1 => if tyM T G1 d then (g δ G1).bind fun ds G2 => f d ds G2 else .no).wp Q E := by rw [ap_eMt] <;> rfl
theorem w_eMt0 (T : String) (f : FM) (o : FE) : (eMt0 T f o δ G).wp Q E = ((o δ G).bind fun d G1 => if tyM T G1 d then f d [] G1 else .no).wp Q E := by rw [ap_eMt0] <;> rfl
end
section
variable {Q : Bool → GH → Prop}
theorem w_asB (f : FE) : (asB f δ G).wp Q E = ((f δ G).bind fun d G1 => match d with | .bl b => .ok b G1 | _ => .no).wp Q E := by rw [ap_asB] <;> rfl
theorem w_tAnd (f g : FT) : (tAndD f g δ G).wp Q E = ((f δ G).bind fun k G1 => if k then g δ G1 else .ok false G1).wp Q E := by rw [ap_tAnd] <;> rfl
theorem w_tOr (f g : FT) : (tOrD f g δ G).wp Q E = ((f δ G).bind fun k G1 => if k then .ok true G1 else g δ G1).wp Q E := by rw [ap_tOr] <;> rfl
theorem w_tNot (f : FT) : (tNotD f δ G).wp Q E = ((f δ G).bind fun k G1 => .ok (!k) G1).wp Q E := by rw [ap_tNot] <;> rfl
theorem w_eTru (f : FE) : (eTru f δ G).wp Q E = ((f δ G).bind fun d G1 => match truD G1 d with | some b => .ok b G1 | none => .no).wp Q E := by rw [ap_eTru] <;> rfl
theorem w_tYes  : (tYesD δ G).wp Q E = (R.ok true G).wp Q E := by rw [ap_tYes] <;> rfl
end
section
variable {Q : List D → GH → Prop}
theorem w_aNil  : (aNil δ G).wp Q E = (R.ok ([] : List D) G).wp Q E := by rw [ap_aNil] <;> rfl
theorem w_aCons (f : FE) (g : FA) : (aCons f g δ G).wp Q E = ((f δ G).bind fun d G1 => (g δ G1).bind fun ds G2 => .ok (d :: ds) G2).wp Q E := by rw [ap_aCons] <;> rfl
end
section
variable {Q : Its → GH → Prop}
theorem w_iSeq (f : FE) : (iSeq f δ G).wp Q E = ((f δ G).bind fun x G1 => match itsD G1 x with | some it => .ok it G1 | none => .no).wp Q E := by rw [ap_iSeq] <;> rfl
theorem w_iRg1 (g : FA) : (iRg1 g δ G).wp Q E = ((g δ G).bind rng1K).wp Q E := by rw [ap_iRg1] <;> rfl
end
theorem sz_le {n : Nat} (h : n ≤ 100000) : (n ≤ sizeLine) = True := eq_true (Nat.le_trans h (by decide))
theorem sz_lt {n : Nat} (h : n < 100000) : (n < sizeLine) = True := eq_true (Nat.lt_of_lt_of_le h (by decide))
theorem nilL (P : Prop) : (P ∧ True ∧ True ∧ True) = P := by simp
end
section
variable {E : XP} {nx : SP} {rt : D → GH → Prop} {bk ct : SP} {ex : Ex → DEnv → GH → Prop} {chk : GH → Bool} {g : FG} {t : FT} {f : FE} {body : FS} {δ : DEnv} {G : GH}
abbrev fS : SP := fun _ _ => False
abbrev fX : Ex → DEnv → GH → Prop := fun _ _ _ => False
abbrev fR : D → GH → Prop := fun _ _ => False
theorem for_inv {α : Type} (enc : α → D) (xs : List α) (Inv : List α → DEnv → GH → Prop) (h0 : Inv [] δ G)
    (step : ∀ (pre : List α) (x : α) (post : List α) (δ : DEnv) (G : GH), xs = pre ++ x :: post → Inv pre δ G →
      (g (enc x) δ G).wp (fun δ1 G1 => (body δ1 G1).wp (fun δ2 G2 => chk G2 = true ∧ Inv (pre ++ [x]) δ2 G2) rt nx (fun δ2 G2 => chk G2 = true ∧ Inv (pre ++ [x]) δ2 G2) ex) fR fS fS fX)
    (fin : ∀ δ G, Inv xs δ G → nx δ G) : (sForL chk g body (xs.map enc) δ G).wp nx rt bk ct ex := by
  have key : ∀ (post pre : List α) (δ : DEnv) (G : GH), xs = pre ++ post → Inv pre δ G → (sForL chk g body (post.map enc) δ G).wp nx rt bk ct ex := by
    intro post
    induction post with
    | nil =>
      intro pre δ G e h
      rw [List.append_nil] at e
      subst e
      exact fin δ G h
    | cons x post ih =>
      intro pre δ G e h
      have s := step pre x post δ G e h
      rw [List.map_cons]
      unfold sForL
      cases e1 : g (enc x) δ G with
      | nx δ1 G1 =>
        rw [e1] at s
        have s1 : (body δ1 G1).wp (fun δ2 G2 => chk G2 = true ∧ Inv (pre ++ [x]) δ2 G2) rt nx (fun δ2 G2 => chk G2 = true ∧ Inv (pre ++ [x]) δ2 G2) ex := s
        dsimp only
        cases e2 : body δ1 G1 with
        | nx δ2 G2 => rw [e2] at s1; obtain ⟨c, i⟩ := s1; dsimp only; rw [if_pos c]; exact ih (pre ++ [x]) δ2 G2 (by rw [e]; simp) i
        | ct δ2 G2 => rw [e2] at s1; obtain ⟨c, i⟩ := s1; dsimp only; rw [if_pos c]; exact ih (pre ++ [x]) δ2 G2 (by rw [e]; simp) i
        | bk δ2 G2 => rw [e2] at s1; exact s1
        | rt d G2 => rw [e2] at s1; exact s1
        | ex x δ2 G2 => rw [e2] at s1; exact s1
        | no => rw [e2] at s1; exact s1
      | rt d G => rw [e1] at s; exact s.elim
      | bk δ1 G => rw [e1] at s; exact s.elim
      | ct δ1 G => rw [e1] at s; exact s.elim
      | ex x δ1 G => rw [e1] at s; exact s.elim
      | no => rw [e1] at s; exact s.elim
  exact key xs [] δ G rfl h0
theorem lc_inv {α : Type} {Q : List D → GH → Prop} (enc : α → D) (xs : List α) (Inv : List α → List D → GH → Prop) (h0 : Inv [] [] G) (hl : xs.length ≤ sizeLine)
    (step : ∀ (pre : List α) (x : α) (post : List α) (acc : List D) (G : GH), xs = pre ++ x :: post → Inv pre acc G →
      (g (enc x) δ G).wp (fun δ1 G1 => (t δ1 G1).wp (fun b G2 => if b = true then (f δ1 G2).wp (fun y G3 => chk G3 = true ∧ Inv (pre ++ [x]) (acc ++ [y]) G3) noX else chk G2 = true ∧ Inv (pre ++ [x]) acc G2) noX) fR fS fS fX)
    (fin : ∀ acc G, Inv xs acc G → Q acc G) : (lcL chk g t f δ (xs.map enc) [] G).wp Q E := by
  have key : ∀ (post pre : List α) (acc : List D) (G : GH), xs = pre ++ post → acc.length ≤ pre.length → Inv pre acc G → (lcL chk g t f δ (post.map enc) acc G).wp Q E := by
    intro post
    induction post with
    | nil =>
      intro pre acc G e _ h
      rw [List.append_nil] at e
      subst e
      exact fin acc G h
    | cons x post ih =>
      intro pre acc G e ha h
      have s := step pre x post acc G e h
      have lp : pre.length + (post.length + 1) ≤ sizeLine := by rw [e] at hl; simpa using hl
      rw [List.map_cons]
      unfold lcL
      cases e1 : g (enc x) δ G with
      | nx δ1 G1 =>
        rw [e1] at s
        have s1 : (t δ1 G1).wp (fun b G2 => if b = true then (f δ1 G2).wp (fun y G3 => chk G3 = true ∧ Inv (pre ++ [x]) (acc ++ [y]) G3) noX else chk G2 = true ∧ Inv (pre ++ [x]) acc G2) noX := s
        dsimp only
        rw [wp_bind, wp_nox]
        refine R.wp_mono s1 (fun b G2 s2 => ?_) (fun _ _ z => z)
        cases b with
        | true =>
          rw [if_pos rfl] at s2
          rw [if_pos rfl, wp_bind, wp_nox]
          refine R.wp_mono s2 (fun y G3 s3 => ?_) (fun _ _ z => z)
          obtain ⟨c, i⟩ := s3
          have la : acc.length < sizeLine := by omega
          rw [if_pos (by rw [c]; simpa using la)]
          exact ih (pre ++ [x]) (acc ++ [y]) G3 (by rw [e]; simp) (by simp; exact ha) i
        | false =>
          rw [if_neg Bool.false_ne_true] at s2
          obtain ⟨c, i⟩ := s2
          rw [if_neg Bool.false_ne_true, if_pos c]
          exact ih (pre ++ [x]) acc G2 (by rw [e]; simp) (by simp; omega) i
      | rt d G => rw [e1] at s; exact s.elim
      | bk δ1 G => rw [e1] at s; exact s.elim
      | ct δ1 G => rw [e1] at s; exact s.elim
      | ex x δ1 G => rw [e1] at s; exact s.elim
      | no => rw [e1] at s; exact s.elim
  exact key xs [] [] G rfl (Nat.le_refl _) h0
theorem lc_pure {α : Type} {Q : List D → GH → Prop} (enc : α → D) (xs : List α) (q : α → Bool) (h : α → D) (hl : xs.length ≤ sizeLine) (hc : chk G = true)
    (step : ∀ x ∈ xs, (g (enc x) δ G).wp (fun δ1 G1 => (t δ1 G1).wp (fun b G2 => b = q x ∧ G2 = G ∧ (q x = true → (f δ1 G).wp (fun y G3 => y = h x ∧ G3 = G) noX)) noX) fR fS fS fX)
    (fin : Q ((xs.filter q).map h) G) : (lcL chk g t f δ (xs.map enc) [] G).wp Q E := by
  refine lc_inv enc xs (fun pre acc G' => G' = G ∧ acc = (pre.filter q).map h) ⟨rfl, rfl⟩ hl (fun pre x post acc G' e ⟨i1, i2⟩ => ?_) fun acc G' ⟨i1, i2⟩ => by rw [i1, i2]; exact fin
  subst i1 i2
  have s := step x (by rw [e]; simp)
  cases e1 : g (enc x) δ G' with
  | nx δ1 G1 =>
    rw [e1] at s
    have s1 : (t δ1 G1).wp (fun b G2 => b = q x ∧ G2 = G' ∧ (q x = true → (f δ1 G').wp (fun y G3 => y = h x ∧ G3 = G') noX)) noX := s
    refine R.wp_mono s1 (fun b G2 ⟨a1, a2, a3⟩ => ?_) fun _ _ z => z
    subst a1 a2
    cases hq : q x with
    | true =>
      rw [if_pos rfl]
      refine R.wp_mono (a3 hq) (fun y G3 ⟨b1, b2⟩ => ?_) fun _ _ z => z
      subst b1 b2
      exact ⟨hc, rfl, by simp [List.filter_append, hq]⟩
    | false =>
      rw [if_neg Bool.false_ne_true]
      exact ⟨hc, rfl, by simp [List.filter_append, hq]⟩
  | rt d G => rw [e1] at s; exact s.elim
  | bk δ1 G => rw [e1] at s; exact s.elim
  | ct δ1 G => rw [e1] at s; exact s.elim
  | ex x δ1 G => rw [e1] at s; exact s.elim
  | no => rw [e1] at s; exact s.elim
end
theorem isi_NoneType_int : isiB "NoneType" "int" = some false := by decide +kernel
theorem isi_NoneType_str : isiB "NoneType" "str" = some false := by decide +kernel
theorem isi_NoneType_bool : isiB "NoneType" "bool" = some false := by decide +kernel
theorem isi_NoneType_tuple : isiB "NoneType" "tuple" = some false := by decide +kernel
theorem isi_NoneType_list : isiB "NoneType" "list" = some false := by decide +kernel
theorem isi_NoneType_dict : isiB "NoneType" "dict" = some false := by decide +kernel
theorem isi_bool_int : isiB "bool" "int" = some true := by decide +kernel
theorem isi_bool_str : isiB "bool" "str" = some false := by decide +kernel
theorem isi_bool_bool : isiB "bool" "bool" = some true := by decide +kernel
theorem isi_bool_tuple : isiB "bool" "tuple" = some false := by decide +kernel
theorem isi_bool_list : isiB "bool" "list" = some false := by decide +kernel
theorem isi_bool_dict : isiB "bool" "dict" = some false := by decide +kernel
theorem isi_int_int : isiB "int" "int" = some true := by decide +kernel
theorem isi_int_str : isiB "int" "str" = some false := by decide +kernel
theorem isi_int_bool : isiB "int" "bool" = some false := by decide +kernel
theorem isi_int_tuple : isiB "int" "tuple" = some false := by decide +kernel
theorem isi_int_list : isiB "int" "list" = some false := by decide +kernel
theorem isi_int_dict : isiB "int" "dict" = some false := by decide +kernel
theorem isi_str_int : isiB "str" "int" = some false := by decide +kernel
theorem isi_str_str : isiB "str" "str" = some true := by decide +kernel
theorem isi_str_bool : isiB "str" "bool" = some false := by decide +kernel
theorem isi_str_tuple : isiB "str" "tuple" = some false := by decide +kernel
theorem isi_str_list : isiB "str" "list" = some false := by decide +kernel
theorem isi_str_dict : isiB "str" "dict" = some false := by decide +kernel
theorem isi_tuple_int : isiB "tuple" "int" = some false := by decide +kernel
theorem isi_tuple_str : isiB "tuple" "str" = some false := by decide +kernel
theorem isi_tuple_bool : isiB "tuple" "bool" = some false := by decide +kernel
theorem isi_tuple_tuple : isiB "tuple" "tuple" = some true := by decide +kernel
theorem isi_tuple_list : isiB "tuple" "list" = some false := by decide +kernel
theorem isi_tuple_dict : isiB "tuple" "dict" = some false := by decide +kernel
theorem isi_list_int : isiB "list" "int" = some false := by decide +kernel
theorem isi_list_str : isiB "list" "str" = some false := by decide +kernel
theorem isi_list_bool : isiB "list" "bool" = some false := by decide +kernel
theorem isi_list_tuple : isiB "list" "tuple" = some false := by decide +kernel
theorem isi_list_list : isiB "list" "list" = some true := by decide +kernel
theorem isi_list_dict : isiB "list" "dict" = some false := by decide +kernel
theorem isi_dict_int : isiB "dict" "int" = some false := by decide +kernel
theorem isi_dict_str : isiB "dict" "str" = some false := by decide +kernel
theorem isi_dict_bool : isiB "dict" "bool" = some false := by decide +kernel
theorem isi_dict_tuple : isiB "dict" "tuple" = some false := by decide +kernel
theorem isi_dict_list : isiB "dict" "list" = some false := by decide +kernel
theorem isi_dict_dict : isiB "dict" "dict" = some true := by decide +kernel
theorem eSl_ap (mk : List D → GH → R D) (f : FE) (lo hi : Option FE) (δ : DEnv) (G : GH) : eSl mk f lo hi δ G = (f δ G).bind fun x G1 => (eOpt lo δ G1).bind fun l G2 => (eOpt hi δ G2).bind fun h G3 => dSl mk x l h G3 := rfl
theorem eOpt_none (δ : DEnv) (G : GH) : eOpt none δ G = .ok none G := rfl
theorem eOpt_some (f : FE) (δ : DEnv) (G : GH) : eOpt (some f) δ G = (f δ G).bind fun d G1 => match d with | .int i => .ok (some i) G1 | _ => .no := rfl
theorem dSl_tup (mk : List D → GH → R D) (xs : List D) (lo hi : Option Int) (G : GH) : dSl mk (.tup xs) lo hi G = .ok (.tup (cutD xs lo hi)) G := rfl
theorem dSl_pt (mk : List D → GH → R D) (xs : List D) (lo hi : Option Int) (G : GH) : dSl mk (.pt xs) lo hi G = .ok (.pt (cutD xs lo hi)) G := rfl
theorem dSl_lst (mk : List D → GH → R D) (xs : List D) (lo hi : Option Int) (G : GH) : dSl mk (.lst xs) lo hi G = mk (cutD xs lo hi) G := rfl
theorem dSl_scr (mk : List D → GH → R D) (xs : List D) (lo hi : Option Int) (G : GH) : dSl mk (.scr xs) lo hi G = mk (cutD xs lo hi) G := rfl
theorem dTupP_ref (G : GH) (n : Nat) {xs : List D} (h : G[n]? = some (.lst xs)) : dTupP (.ref n) G = .ok (.pt xs) G := by unfold dTupP; rw [lstOf_ref, h]
theorem tyM_ref (T : String) (G : GH) (n : Nat) : tyM T G (.ref n) = match G[n]? with | some (.lst _) => T == "list" | some (.dK _) => T == "dict" | _ => false := by
  unfold tyM
  simp only [lstOf_ref]
  cases h : G[n]? with
  | none => rfl
  | some c => cases c <;> rfl
theorem mAppend_ref (G : GH) (n : Nat) (y : D) : mAppend (.ref n) [y] G = match G[n]? with | some (.lst xs) => if xs.length < sizeLine then .ok .non (G.set n (.lst (xs ++ [y]))) else .no | _ => .no := by
  unfold mAppend
  rw [celL_ref]
  cases h : G[n]? with
  | none => rfl
  | some c => cases c <;> rfl
theorem mExtend_ref (G : GH) (n : Nat) (y : D) : mExtend (.ref n) [y] G = match G[n]? with | some (.lst xs) => (match lstX G y with | some zs => if xs.length + zs.length ≤ sizeLine then .ok .non (G.set n (.lst (xs ++ zs))) else .no | none => .no) | _ => .no := by
  unfold mExtend
  rw [celL_ref]
  cases h : G[n]? with
  | none => rfl
  | some c => cases c <;> rfl
section
variable (G : GH) (a b c x : Cell)
theorem ge1 : (G ++ [a])[G.length]? = some a := by simp
theorem ge2a : (G ++ [a] ++ [b])[G.length]? = some a := by simp
theorem ge2b : (G ++ [a] ++ [b])[G.length + 1]? = some b := by simp
theorem ge3a : (G ++ [a] ++ [b] ++ [c])[G.length]? = some a := by simp
theorem ge3b : (G ++ [a] ++ [b] ++ [c])[G.length + 1]? = some b := by simp
theorem ge3d : (G ++ [a] ++ [b] ++ [c])[G.length + 2]? = some c := by simp
theorem ge3c : (G ++ [a] ++ [b] ++ [c])[G.length + 1 + 1]? = some c := ge3d G a b c
theorem st1 : (G ++ [a]).set G.length x = G ++ [x] := by simp
theorem st2a : (G ++ [a] ++ [b]).set G.length x = G ++ [x] ++ [b] := by simp
theorem st2b : (G ++ [a] ++ [b]).set (G.length + 1) x = G ++ [a] ++ [x] := by simp
theorem st3a : (G ++ [a] ++ [b] ++ [c]).set G.length x = G ++ [x] ++ [b] ++ [c] := by simp
theorem st3b : (G ++ [a] ++ [b] ++ [c]).set (G.length + 1) x = G ++ [a] ++ [x] ++ [c] := by simp
theorem st3d : (G ++ [a] ++ [b] ++ [c]).set (G.length + 2) x = G ++ [a] ++ [b] ++ [x] := by simp
theorem st3c : (G ++ [a] ++ [b] ++ [c]).set (G.length + 1 + 1) x = G ++ [a] ++ [b] ++ [x] := st3d G a b c x
end
end CF
end
section
set_option maxRecDepth 100000
set_option maxHeartbeats 1000000
namespace CF
open PySem PySem.Spec PyProof.Rows L2
section
variable {K : PySem.W.Frag} {x qual : Str} {st : Stmt} {dvs : List V} {f : Addr} {fd : FuncData} {mg : Str → Option Value}
theorem Tx.ofN {ps : List Str} (F : FunD K x qual (defArgs st) (defBody st) (defScope st) [] [] f fd) (g : mg x = some (.ref f))
    (h : ∀ (kV doc pm : Value) (an : Option Addr) (cdv ct : Value) (us : List Value), us.length = ps.length → bindArgs (PySem.W.fnOf x qual (defArgs st) (defBody st) (defScope st) .none kV doc pm an cdv ct) ⟨us, []⟩ = pure (ps.zip us)) : Tx K mg x ps [] f fd :=
  ⟨g, F.kp, [], .nil, FunD.bindsN F h⟩
theorem Tx.ofD {ps : List Str} (n j : Nat) (F : FunD K x qual (defArgs st) (defBody st) (defScope st) dvs [] f fd) (g : mg x = some (.ref f)) (hd : dvs ≠ []) (hn : n + (dvs.length - j) = ps.length)
    (h : ∀ (T : Addr) (kV doc pm : Value) (an : Option Addr) (cdv ct : Value) (us its : List Value), us.length = n → its.length = dvs.length →
      ∃ k, bindArgs (PySem.W.fnOf x qual (defArgs st) (defBody st) (defScope st) (.ref T) kV doc pm an cdv ct) ⟨us, []⟩ = seqItems? (.ref T) >>= k ∧ k (some its.toArray) = pure (ps.zip (us ++ its.drop j))) : Tx K mg x ps (dvs.drop j) f fd :=
  ⟨g, F.kp, FunD.binds1 F n j hd hn h⟩
end
end CF
end
section
set_option maxRecDepth 100000
set_option maxHeartbeats 1000000
namespace CF
open PySem PySem.Spec PyProof.Rows L2
structure ClF (K : PySem.W.Frag) (C : Addr) (m : Str) (fI : Addr) : Prop where
  sp : PySem.W.specialIn K (.ref C) "__getattribute__" = some (some (.builtin "type.__getattribute__"))
  rd : PySem.W.readsIn K C (.type "type") = true
  fd : PySem.W.findCls K (.ref C) (.type "type") m = some (.val (.ref fI))
  hi : PySem.W.handedIn (.ref fI) = true
  kp : PySem.W.keepIn K (.ref fI) = true
section
variable {X : Cx} {CX : CXT} {k : Nat} {C fI : Addr} {sp : Sp} {E : XK} {e : Expr} {es : List Expr} {x m : Str} {p1 p2 pos : Pos} {t : TA} {pl : Sem Bool} {fd : FuncData} {ps : List Str} {ds : List Value} {dvs : List V}
theorem pe_clsF (F : FnOk X.prog X.w X.K X.mg X.base CX k fI fd ps sp) (hr : Room k X.A) (hg : Gl X x) (hm : X.mg x = some (.ref C)) (c : ClF X.K C m fI) (hb : Binds X.K fd ps ds) (hd : Vals dvs ds) (hx : Passes CX X E) (ha : PA X (e :: es) t)
    (hdb : (x == ("__debug__" : Str)) = false := by decide) (hst : starEach (e :: es) X.env = (false, eval e X.env) :: starEach es X.env := by rfl) (hpl : (backTo pos (starEach es X.env)).any (·.1) = false := by rfl)
    (ht : eval (.Call (.Attribute (.Name x p1) m p2) (e :: es) [] pos) X.env = (do
      let ov ← eval (.Name x p1) X.env
      standAt p2.atName
      let (f, first) ← holding [ov] (getMethod ov m pl)
      callWith pos f first (backTo pos (starEach (e :: es) X.env)) (backToKw pos (keywordEach [] X.env))) := by rfl) :
    PE X (.Call (.Attribute (.Name x p1) m p2) (e :: es) [] pos) (fun σ H Q => t σ H fun vs H1 => sp (vs ++ dvs) H1 Q E) := by
  refine ⟨fun pins s σ H Q I h => ?_⟩
  refine PySem.W.methodCall_KW (pl := pl) (ld_glob I hg hm ?_ hdb) ht
  refine PySem.W.method_cls I.kIn c.sp (PySem.W.cls_value I.kIn c.rd c.fd c.hi ?_)
  exact PySem.W.callWith_K (h₀ := X.base) I.ok.mod.kin c.kp (thn (ha.run pos pins _ σ H _ (I.tok _) h) fun us s1 ⟨vs, H1, I1, r, q⟩ => ⟨I1.kIn, run_fn F hr hb hd hx I1 r q⟩) hst hpl
end
structure ExI (K : PySem.W.Frag) (C : Addr) (fs : List Str) : Prop where
  oex : OexC K C
  no : ∀ f ∈ fs, PySem.W.findIn K (.ref C) f = some none
def spI (K : PySem.W.Frag) (fs : List Str) (n : Nat) (fl : List V → List (Str × V)) : Sp := fun vs H Q _ => ∃ (a C : Addr) (ws : List V), vs = .ref a :: ws ∧ ws.length = n ∧ ExI K C fs ∧ H a = some (exo a C none) ∧
  ∀ d, H d = none → d ≠ a → Q .non (upd (upd H d (exd d (fl ws))) a (exo a C (some d)))
def flB : List V → List (Str × V) := fun ws => [("why", ws.getD 0 .non)]
def flS (f : Str) (m : Str) : List V → List (Str × V) := fun ws => [(f, ws.getD 0 .non), ("why", .str m)]
theorem spI_len {K : PySem.W.Frag} {fs : List Str} {n : Nat} {fl : List V → List (Str × V)} {ps : List Str} (h : ps.length = n + 1) : ∀ vs H Q E, spI K fs n fl vs H Q E → vs.length = ps.length := fun vs H Q E ⟨a, C, ws, e, l, _⟩ => by rw [e, List.length_cons, l, h]
section
variable {K : PySem.W.Frag} {vs : List V} {H : Hp} {Q : VK} {E E' : XK} {N : List Str}
theorem base_read {n1 n2 : Str} (h : spI K ["why"] 1 flB vs H Q E) : (tSeq (tDrop (tVeI K (tCons (tVar 0) (tCons (tVar 1) tNil)))) (tSeq (tOst K "why" (tVar 0) (tVar 1)) tNext)) { nx := fun _ H' => Q .non H', rt := Q } (L2.start [n1, n2] vs) H := by
  obtain ⟨a, C, ws, e, l, x, ha, q⟩ := h
  subst e
  match ws, l with
  | [y], _ =>
    refine ⟨.ref a, rfl, y, rfl, a, C, [y], rfl, (by show 1 ≤ 1000; decide), x.oex, ha, ?_⟩
    exact ⟨y, rfl, .ref a, rfl, a, C, rfl, x.oex, x.no _ (.head _), .inl ⟨ha, fun dx h1 h2 => q dx h1 h2⟩⟩
theorem sub_read {n1 n2 f m : Str} (h : spI K [f, "why"] 1 (flS f m) vs H Q E) : (tSeq (tDrop (fun σ H Q => (tCons (tVar 0) (tCons (tC (.str m)) tNil)) σ H fun vs H1 => spI K ["why"] 1 flB (vs ++ []) H1 Q E')) (tSeq (tOst K f (tVar 0) (tVar 1)) tNext)) { nx := fun _ H' => Q .non H', rt := Q } (L2.start [n1, n2] vs) H := by
  obtain ⟨a, C, ws, e, l, x, ha, q⟩ := h
  subst e
  match ws, l with
  | [y], _ =>
    refine ⟨.ref a, rfl, a, C, [.str m], rfl, rfl, ⟨x.oex, fun g hg => x.no g (.tail _ hg)⟩, ha, fun d h1 h2 => ?_⟩
    refine ⟨y, rfl, .ref a, rfl, a, C, rfl, x.oex, x.no _ (.head _), .inr ⟨d, [("why", .str m)], upd_same, by rw [upd_ne h2, upd_same]; rfl, (by show 1 ≤ 900; decide), ?_⟩⟩
    have e : upd (upd (upd H d (exd d [("why", .str m)])) a (exo a C (some d))) d (exd d ((f, y) :: [("why", .str m)])) = upd (upd H d (exd d (flS f m [y]))) a (exo a C (some d)) := by
      funext b
      by_cases hb : b = d
      · subst hb
        rw [upd_same, upd_ne h2, upd_same]; rfl
      · rw [upd_ne hb]
        by_cases ha : b = a
        · subst ha; rw [upd_same, upd_same]
        · rw [upd_ne ha, upd_ne ha, upd_ne hb, upd_ne hb]
    show Q .non _
    first | (rw [e]; exact q d h1 h2) | (have := q d h1 h2; rw [← e] at this; exact this)
end
end CF
end
section
set_option maxRecDepth 100000
set_option maxHeartbeats 4000000
namespace CF
open PySem PySem.Spec PyProof.Rows L2
structure Cl where
  tg : Expr
  it : Expr
  ifs : List Expr
def Cl.c (c : Cl) : Comprehension := ⟨c.tg, c.it, c.ifs, 0⟩
structure Ct where
  c : Cl
  wi : TI
  g : TG
  tt : TT
  vs : List Nat
abbrev TM := St → Hp → (Hp → Prop) → Prop
def Kp (vs : List Nat) (σ σ' : St) : Prop := σ'.length = σ.length ∧ ∀ (j : Nat) (v : V), j ∉ vs → σ[j]? = some (some v) → σ'[j]? = some (some v)
theorem Kp.refl (vs : List Nat) (a : St) : Kp vs a a := ⟨rfl, fun _ _ _ e => e⟩
end CF
end
section
set_option maxRecDepth 100000
set_option maxHeartbeats 1000000
namespace CF
open PySem PySem.Spec PyProof.Rows L2
structure CD where
  fi : FI
  g : FG
  t : FT
  vs : List Nat
section
variable {α : Type}
abbrev FM1 (α : Type) := DEnv → GH → α → R α
def cmL (chk : GH → Bool) (g : FG) (t : FT) (deep : FM1 α) (δ : DEnv) : List D → α → GH → R α
  | [], acc, G => .ok acc G
  | d :: r, acc, G => match g d δ G with
    | .nx δ1 G1 => (t δ1 G1).nox.bind fun b G2 => if b then (deep δ1 G2 acc).nox.bind fun acc' G3 => (if chk G3 then cmL chk g t deep δ r acc' G3 else .no) else (if chk G2 then cmL chk g t deep δ r acc G2 else .no)
    | _ => .no
def cmD (em : FM1 α) : List CD → FM1 α
  | [] => em
  | c :: r => fun δ G acc => (c.fi δ G).nox.bind fun it G1 => if it.chk G1 then cmL it.chk c.g c.t (cmD em r) (wipeD δ c.vs) it.items acc G1 else .no
def eCm (mk : α → GH → R D) (a0 : α) (em : FM1 α) (c : CD) (r : List CD) : FE := fun δ G => (c.fi δ G).bind fun it G1 => if it.chk G1 then (cmL it.chk c.g c.t (cmD em r) (wipeD δ c.vs) it.items a0 G1).nox.bind mk else .no
structure AccOk (K : PySem.W.Frag) (AR : Lk → α → HO → Prop) : Prop where
  mono : ∀ (L L' : Lk) (a : α) (o : HO), L.cle L' → AR L a o → AR L' a o
  nofrz : ∀ (L : Lk) (a : α) (o : HO), AR L a o → ∀ od w, o ≠ .frz od w
def AS (K : PySem.W.Frag) (AR : Lk → α → HO → Prop) (D : Addr) (L : Lk) (r : R α) (N : Hp → Prop) : Prop := match r with
  | .ok a G => ∀ L' H' o, L.cle L' → L'.F = L.F → HR K (L'.prv D o) G H' → AR L' a o → N H'
  | _ => False
theorem AS.mono {K : PySem.W.Frag} {AR : Lk → α → HO → Prop} {D : Addr} {L L1 : Lk} {r : R α} {N : Hp → Prop} (h : AS K AR D L r N) (c : L.cle L1) (f : L1.F = L.F) : AS K AR D L1 r N := by
  cases r with
  | ok a G => exact fun L' H' o c1 f1 => h L' H' o (c.trans c1) (f1.trans f)
  | ex x G => exact h
  | no => exact h
section
variable {K : PySem.W.Frag} {AR : Lk → α → HO → Prop} {Dl : Addr}
theorem AS.fmono (A : AccOk K AR) {L L1 : Lk} {r : R α} {N : Hp → Prop} (h : AS K AR Dl L r N) (c : L.fle L1) : AS K AR Dl L1 r N := by
  cases r with
  | ok a G => exact fun L' H' o c1 f1 hr ra => h (L'.frm L.F) H' o ⟨fun p o e => c1.z p o (c.z p o e), fun n x e => c1.r n x (c.r n x e)⟩ rfl (HR.shrink (L := L'.prv Dl o) hr fun p u e => by
      show upd L'.F Dl o p = some u
      by_cases hp : p = Dl
      · subst hp; rw [upd_same] at e ⊢; exact e
      · rw [upd_ne hp] at e ⊢
        rw [f1]; exact c.f p u e) (A.mono L' (L'.frm L.F) _ _ ⟨fun _ _ z => z, fun _ _ z => z⟩ ra)
  | ex x G => exact h
  | no => exact h
end
end
end CF
end
section
set_option maxRecDepth 100000
set_option maxHeartbeats 1000000
namespace CF
open PySem PySem.Spec PyProof.Rows L2
def emLd (f : FE) : FM1 (List D) := fun δ G acc => (f δ G).nox.bind fun y G1 => if acc.length < sizeLine then .ok (acc ++ [y]) G1 else .no
def emKd (fk fv : FE) : FM1 (List (Key × D)) := fun δ G acc => (fk δ G).nox.bind fun x G1 => (fv δ G1).nox.bind fun y G2 => match keyD x with
  | some k => if acc.length < sizeLine then .ok (putD acc k y) G2 else .no
  | none => .no
section
variable {K : PySem.W.Frag}
theorem KR.len {Z : Hp} {r : List Addr} {κ : Type} {a : List (κ × D)} {b : List (κ × V)} (h : KR K Z r a b) : a.length = b.length := by
  induction h with
  | nil => rfl
  | cons _ _ ih => simp [ih]
theorem KR.cm {κ : Type} {L L' : Lk} (c : L.cle L') {a : List (κ × D)} {b : List (κ × V)} (h : KR K L.Z L.r a b) : KR K L'.Z L'.r a b := by
  induction h with
  | nil => exact .nil
  | cons r _ ih => exact .cons (Rep.cmono c r) ih
end
end CF
end
section
set_option maxRecDepth 100000
set_option maxHeartbeats 1000000
namespace CF
open PySem PySem.Spec PyProof.Rows L2
def celD (G : GH) : D → Option (Nat × List (Key × D))
  | .ref n => match G[n]? with
    | some (.dK kvs) => some (n, kvs)
    | _ => none
  | _ => none
@[simp] theorem celD_ref (G : GH) (n : Nat) : celD G (.ref n) = match G[n]? with | some (.dK kvs) => some (n, kvs) | _ => none := rfl
section
variable {K : PySem.W.Frag} {L : Lk} {G : GH} {H : Hp} {v : V}
theorem celD_rep (hr : HR K L G H) {d : D} (h : Rep K L.Z L.r d v) {n : Nat} {xs : List (Key × D)} (e : celD G d = some (n, xs)) : ∃ a vs, v = .ref a ∧ L.r[n]? = some a ∧ H a = some (.dK vs) ∧ KR K L.Z L.r xs vs := by
  cases h with
  | @ref m a q =>
    have e' : (match G[m]? with | some (.dK xs) => some (m, xs) | _ => none) = some (n, xs) := e
    cases k : G[m]? with
    | none => rw [k] at e'; cases e'
    | some c =>
      rw [k] at e'
      cases c with
      | dK ys =>
        cases e'
        have c := hr.cell _ a _ q k
        cases c with
        | dK h k t => exact ⟨a, _, rfl, q, h, .of k t⟩
      | _ => cases e'
  | _ => cases e
theorem HR.setD (hr : HR K L G H) {n : Nat} {a : Addr} {ys : List (Key × D)} {us : List (Key × V)} (q : L.r[n]? = some a) (t : KR K L.Z L.r ys us) : HR K L (G.set n (.dK ys)) (upd H a (.dK us)) := hr.set q (.dK upd_same t.to.1 t.to.2)
end
def putO (G : GH) (o i d : D) : Option GH := match celL G o with
  | some (n, xs) => (match i with
    | .int z => (ixN xs.length z).map fun j => G.set n (.lst (xs.set j d))
    | _ => none)
  | none => match celD G o, keyD i with
    | some (n, kvs), some k => if kvs.length < sizeLine then some (G.set n (.dK (putD kvs k d))) else none
    | _, _ => none
def rSetD : V → V → V → Hp → (Hp → Prop) → Prop := fun o i v H Q => ∃ a H', o = .ref a ∧ DPut H a i v H' ∧ Q H'
def rSetA : V → V → V → Hp → (Hp → Prop) → Prop := fun o i v H Q => rSetL o i v H Q ∨ rSetD o i v H Q
theorem set_any {X : Cx} (hu : X.A.units + 1 < cLine) : PSet X rSetA := by
  intro pins s σ H o i v ov iv u Q I ro ri rv h
  rcases h with h | ⟨a, H', e, g, q⟩
  · exact set_list pins s σ H o i v ov iv u Q I ro ri rv h
  · subst e
    cases ro
    exact d_setItem hu I g ri rv fun s' I' => ⟨H', I', q⟩
theorem putO_rep {K : PySem.W.Frag} {L : Lk} {G G2 : GH} {H : Hp} {o i d : D} {u w v : V} (hr : HR K L G H) (ro : Rep K L.Z L.r o u) (ri : Rep K L.Z L.r i w) (rd : Rep K L.Z L.r d v) (e : putO G o i d = some G2) {Q : Hp → Prop} (h : ∀ H', HR K L G2 H' → Q H') : rSetA u w v H Q := by
  unfold putO at e
  cases e1 : celL G o with
  | some nx =>
    obtain ⟨n, xs⟩ := nx
    rw [e1] at e
    cases ri with
    | int z =>
      dsimp only at e
      cases e2 : ixN xs.length z with
      | none => rw [e2] at e; cases e
      | some j =>
        rw [e2] at e; cases e
        obtain ⟨a, us, rfl, r1, r2, r3⟩ := celL_rep hr ro e1
        exact .inl ⟨a, us, z, j, rfl, rfl, r2, by rw [← r3.length]; exact e2, h _ (hr.setL r1 (r3.set rd j))⟩
    | _ => cases e
  | none =>
    rw [e1] at e
    cases e2 : celD G o with
    | none => rw [e2] at e; cases e
    | some nx =>
      obtain ⟨n, kds⟩ := nx
      cases e3 : keyD i with
      | none => rw [e2, e3] at e; cases e
      | some k =>
        rw [e2, e3] at e
        dsimp only at e
        by_cases hl : kds.length < sizeLine
        · rw [if_pos hl] at e; cases e
          obtain ⟨a, us, rfl, r1, r2, r3⟩ := celD_rep hr ro e2
          exact .inr ⟨a, _, rfl, .inl ⟨us, k, r2, keyD_rep ri e3, by rw [← r3.len]; exact hl, rfl⟩, h _ (hr.setD r1 (r3.put k rd))⟩
        · rw [if_neg hl] at e; cases e
def sPut (fo fi f : FE) : FS := fun δ G => (f δ G).thn δ fun d G1 => (fo δ G1).thn δ fun o G2 => (fi δ G2).thn δ fun i G3 => match putO G3 o i d with
  | some G4 => .nx δ G4
  | none => .no
def gPut (fo fi : FE) : FG := fun d δ G => (fo δ G).thn δ fun o G2 => (fi δ G2).thn δ fun i G3 => match putO G3 o i d with
  | some G4 => .nx δ G4
  | none => .no
section
variable {X : Cx} {W : WX} {pos apos : Pos} {o i : Expr} {fo fi f : FE} {us : List Nat}
theorem xs_put {e : Expr} (hu : X.A.units + 1 < cLine) (he : xE X W e f) (ho : xE X W o fo) (hi : xE X W i fi) (ha : ∀ v, assign (.Subscript o i apos) X.env v = (do
      let ov ← holding [v] (eval o X.env)
      let iv ← holding [v, ov] (eval i X.env)
      standAt apos
      holding [v, ov, iv] (setItem ov iv v)
      release [v, ov, iv] []) := by intro _; rfl) (hs : swapsWithSole [.Subscript o i apos] e pos.line X.env = pure false := by rfl) (hw : swappedStores [.Subscript o i apos] e X.env = pure none := by rfl)
    (h1 : (assignEach [.Subscript o i apos] X.env).map (·.2) = [assign (.Subscript o i apos) X.env] := by rfl) : xS X W (.Assign [.Subscript o i apos] e pos) (sPut fo fi f) :=
  PSimp (ps_asg he (pg_sub ho hi (set_any hu) ha) hs hw h1) fun E σ H ⟨L, δ, G, hr, er, q⟩ => Sat.thn hr er q fun L1 G1 H1 d v le hr1 er1 rd q1 =>
    Sat.thn hr1 er1 q1 fun L2 G2 H2 od ov le2 hr2 er2 ro q2 => Sat.thn hr2 er2 q2 fun L3 G3 H3 id iv le3 hr3 er3 ri q3 => by
      cases e1 : putO G3 od id d with
      | none => rw [e1] at q3; exact q3.elim
      | some G4 =>
        rw [e1] at q3
        exact putO_rep hr3 (Rep.mono le3 ro) ri (Rep.mono le3 (Rep.mono le2 rd)) e1 fun H' hr4 => q3 L3 σ H' (.refl _) hr4 er3
end
end CF
end
section
set_option maxRecDepth 100000
set_option maxHeartbeats 1000000
namespace CF
open PySem PySem.Spec PyProof.Rows L2
def enumD (n : Nat) : List D → List D
  | [] => []
  | d :: r => .tup [.int (n : Nat), d] :: enumD (n + 1) r
def zipD (xs ys : List D) : List D := List.zipWith (fun a b => D.tup [a, b]) xs ys
def tupIts : D → Option (List D)
  | .tup xs => some xs
  | .pt xs => some xs
  | _ => none
noncomputable def iEn (g : FA) : FI := fun δ G => (g δ G).bind fun ds G1 => match ds with
  | [x] => (match tupIts x, lstIts G1 x with
    | some ys, _ => .ok ⟨enumD 0 ys, fun _ => true⟩ G1
    | none, some it => .ok ⟨enumD 0 it.items, it.chk⟩ G1
    | none, none => .no)
  | _ => .no
noncomputable def iZp (g : FA) : FI := fun δ G => (g δ G).bind fun ds G1 => match ds with
  | [x, y] => (match tupIts x, tupIts y, lstIts G1 x, lstIts G1 y with
    | some xs, some ys, _, _ => .ok ⟨zipD xs ys, fun _ => true⟩ G1
    | none, none, some it, some it2 => .ok ⟨zipD it.items it2.items, fun G => it.chk G && it2.chk G⟩ G1
    | _, _, _, _ => .no)
  | _ => .no
end CF
end
section
set_option maxRecDepth 100000
set_option maxHeartbeats 1000000
namespace CF
open PySem PySem.Spec PyProof.Rows L2
def eDict0 (mk : List (Key × D) → GH → R D) : FE := fun _ G => mk [] G
section
variable {X : Cx} {W : WX} {pos p p2 p3 p4 apos cpos : Pos} {e o : Expr} {f fo : FE} {x y : Str} {T U : String} {kk : Nat} {g : FA}
theorem strs_at {us : List Value} {zs : List Str} (h : StrsAre us zs) {j : Nat} (hj : j < us.length) : ∃ z t, zs[j]? = some z ∧ us[j] = .str z t := strs_get h j us[j] (by simp [hj])
def eRev (mk : List D → GH → R D) (f : FE) : FE := fun δ G => (f δ G).bind fun x G1 => match lstOf G1 x with
  | some xs => mk xs.reverse G1
  | none => .no
def eGet2 (fo fk fx : FE) : FE := fun δ G => (fo δ G).bind fun o G1 => match dKOf G1 o with
  | some _ => (fk δ G1).bind fun k G2 => (fx δ G2).bind fun x G3 => (match dGetO G3 o k with
    | some (some d) => .ok d G3
    | some none => .ok x G3
    | none => .no)
  | none => .no
def sAugD (op : Int → Int → Int) (fo fi f : FE) : FS := fun δ G => (fo δ G).thn δ fun o G1 => (fi δ G1).thn δ fun i G2 => match dGetO G2 o i with
  | some (some (.int a)) => (f δ G2).thn δ fun y G3 => (match y, celD G3 o, keyD i with
    | .int b, some (n, kvs), some k => if kvs.length < sizeLine then .nx δ (G3.set n (.dK (putD kvs k (.int (op a b))))) else .no
    | _, _, _ => .no)
  | _ => .no
end
end CF
end
section
set_option maxRecDepth 100000
set_option maxHeartbeats 1000000
namespace CF
open PySem PySem.Spec PyProof.Rows L2
def seqD (G : GH) (x : D) : Option (List D) := match x with
  | .tup xs => some xs
  | .pt xs => some xs
  | x => lstOf G x
def eLenSet2 (f : FE) : FE := fun δ G => (f δ G).bind fun d G1 => match (seqD G1 d).bind strsOf with
  | some xs => if xs.length < 4000 then .ok (.int (met xs).length) G1 else .no
  | none => .no
def sPar2 (i j : Nat) (g : FA) : FS := fun δ G => (g δ G).thn δ fun ds G1 => match ds with
  | [a, b] => .nx ((δ.set i (some a)).set j (some b)) G1
  | _ => .no
def sPar3 (i j l : Nat) (g : FA) : FS := fun δ G => (g δ G).thn δ fun ds G1 => match ds with
  | [a, b, c] => .nx (((δ.set i (some a)).set j (some b)).set l (some c)) G1
  | _ => .no
end CF
end
section
set_option maxRecDepth 100000
set_option maxHeartbeats 1000000
namespace CF
open PySem PySem.Spec PyProof.Rows L2
def rsv (G : GH) : Nat → D → D
  | 0, d => d
  | n + 1, d => match d with
    | .ref k => (match G[k]? with
      | some (.lst xs) => .lst (xs.map (rsv G n))
      | _ => .ref k)
    | .tup xs => .tup (xs.map (rsv G n))
    | .pt xs => .pt (xs.map (rsv G n))
    | .lst xs => .lst (xs.map (rsv G n))
    | d => d
section
variable {K : PySem.W.Frag} {L : Lk} {G : GH} {H : Hp}
theorem rsv_rep (hr : HR K L G H) : ∀ (n : Nat) (x : D) (v : V) (d : PyData), Rep K L.Z L.r x v → (rsv G n x).py = some d → Dp K H v d ∧ d.canLay0 = true := by
  intro n
  induction n with
  | zero => exact fun x v d h e => py_rep hr x v d h e
  | succ n ih =>
    have all : ∀ (xs : List D) (vs : List V) (ds : List PyData), Reps K L.Z L.r xs vs → D.pyAll (xs.map (rsv G n)) = some ds → DpAll K H vs ds ∧ PyData.canLayAll0 ds = true := by
      intro xs
      induction xs with
      | nil => intro vs ds h e; cases h; rw [List.map_nil, D.pyAll] at e; cases e; exact ⟨.nil, rfl⟩
      | cons x r ihr =>
        intro vs ds h e
        cases h with
        | cons h1 h2 =>
          rw [List.map_cons, D.pyAll] at e
          cases q1 : D.py (rsv G n x) with
          | none => rw [q1] at e; cases e
          | some y =>
            cases q2 : D.pyAll (r.map (rsv G n)) with
            | none => rw [q1, q2] at e; cases e
            | some ys =>
              rw [q1, q2] at e; cases e
              obtain ⟨a, b⟩ := ih x _ y h1 q1
              obtain ⟨c, d⟩ := ihr _ ys h2 q2
              exact ⟨.cons a c, by rw [PyData.canLayAll0, b, d]; rfl⟩
    intro x v d h e
    cases x with
    | ref k =>
      rw [rsv] at e
      cases q : G[k]? with
      | none => rw [q] at e; exact py_rep hr _ _ _ h e
      | some c =>
        rw [q] at e
        cases c with
        | lst xs =>
          rw [show (match some (Cell.lst xs) with | some (Cell.lst xs) => D.lst (xs.map (rsv G n)) | _ => D.ref k) = D.lst (xs.map (rsv G n)) from rfl, D.py] at e
          cases z : D.pyAll (xs.map (rsv G n)) with
          | none => rw [z] at e; cases e
          | some ys =>
            rw [z] at e; cases e
            obtain ⟨p, vs, ev, s, t⟩ := lst_rep (ds := xs) hr h (by rw [lstOf_ref, q])
            obtain ⟨a, b⟩ := all xs vs ys t z
            rw [ev]
            exact ⟨.lst s a, by rw [PyData.canLay0]; exact b⟩
        | _ => exact py_rep hr _ _ _ h e
    | tup xs =>
      rw [rsv, D.py] at e
      cases z : D.pyAll (xs.map (rsv G n)) with
      | none => rw [z] at e; cases e
      | some ys =>
        rw [z] at e; cases e
        obtain ⟨p, vs, ev, s, t⟩ := tup_rep hr h
        obtain ⟨a, b⟩ := all xs vs ys t z
        rw [ev]
        exact ⟨.tup s a, by rw [PyData.canLay0]; exact b⟩
    | pt xs =>
      rw [rsv, D.py] at e
      cases z : D.pyAll (xs.map (rsv G n)) with
      | none => rw [z] at e; cases e
      | some ys =>
        rw [z] at e; cases e
        obtain ⟨p, vs, ev, s, t⟩ := tupOf_rep (ds := xs) hr h rfl
        obtain ⟨a, b⟩ := all xs vs ys t z
        rw [ev]
        exact ⟨.tup s a, by rw [PyData.canLay0]; exact b⟩
    | lst xs =>
      rw [rsv, D.py] at e
      cases z : D.pyAll (xs.map (rsv G n)) with
      | none => rw [z] at e; cases e
      | some ys =>
        rw [z] at e; cases e
        obtain ⟨p, vs, ev, s, t⟩ := lst_rep (ds := xs) hr h rfl
        obtain ⟨a, b⟩ := all xs vs ys t z
        rw [ev]
        exact ⟨.lst s a, by rw [PyData.canLay0]; exact b⟩
    | _ => exact py_rep hr _ _ _ h e
end
def dRepr2 : D → GH → R D := fun d G => match (rsv G 3 d).py with
  | some q => if q.showable = true ∧ q.depth ≤ 60 ∧ q.shown.length ≤ sizeLine then .ok (.str q.shown) G else .no
  | none => .no
theorem cb_repr2 {K : PySem.W.Frag} : CbD K (one dRepr2) (rRepr K) := cb_one fun L G H d v W σ Q hr rd q => by
  unfold dRepr2 at q
  cases e : (rsv G 3 d).py with
  | none => rw [e] at q; exact q.elim
  | some x =>
    rw [e] at q
    dsimp only at q
    by_cases c : x.showable = true ∧ x.depth ≤ 60 ∧ x.shown.length ≤ sizeLine
    · rw [if_pos c] at q
      obtain ⟨a, b⟩ := rsv_rep hr 3 d v x rd e
      exact ⟨v, x, rfl, a, c.1, PyData.hasDict_of_canLay _ b, c.2.1, c.2.2, q L H _ (.refl L) hr (.str _)⟩
    · rw [if_neg c] at q; exact q.elim
theorem xe_repr2 {X : Cx} {W : WX} {pos p : Pos} {e : Expr} {g : FA} (hgd : X.A.guards = some []) (hu : X.A.units + 64 < cLine) (hm : X.mg "repr" = none) (ha : xA X W [e] g) (hg : Gl X "repr" := by rfl) (he : starEach [e] X.env = (false, eval e X.env) :: starEach [] X.env := by rfl) : xE X W (.Call (.Name "repr" p) [e] [] pos) (eCB (one dRepr2) g) :=
  xe_cb (cr_repr hgd hu) cb_repr2 hm PyProof.Rows.boot_repr ha hg (by decide) (by decide) he rfl
def pyEq2 (G : GH) (x y : D) : Option Bool := match (rsv G 3 x).py, (rsv G 3 y).py with
  | some d, some e => if d.depth ≤ 64 ∧ e.depth ≤ 64 then some (PyData.eqv d e) else none
  | _, _ => none
def dEqT : F2 := fun x y G => match x, y with
  | .str a, .str b => .ok (.bl (a == b)) G
  | _, _ => .no
def dNeT : F2 := fun x y G => match x, y with
  | .str a, .str b => .ok (.bl (!(a == b))) G
  | _, _ => .no
theorem o2_neT {K : PySem.W.Frag} : Op2 K dNeT rNe := fun L G H x y v u W σ Q hr rx ry q => by
  cases rx with
  | str a =>
    cases ry with
    | str b => exact ⟨rfl, by rw [dec_str]; exact q L H _ (.refl L) hr (.bl _)⟩
    | _ => exact q.elim
  | _ => cases ry <;> exact q.elim
theorem dEqT_str (a b : Str) (G : GH) : dEqT (.str a) (.str b) G = .ok (.bl (a == b)) G := rfl
theorem dNeT_str (a b : Str) (G : GH) : dNeT (.str a) (.str b) G = .ok (.bl (!(a == b))) G := rfl
theorem tupIts_tup (xs : List D) : tupIts (.tup xs) = some xs := rfl
theorem tupIts_pt (xs : List D) : tupIts (.pt xs) = some xs := rfl
theorem tupIts_lst (xs : List D) : tupIts (.lst xs) = none := rfl
theorem tupIts_scr (xs : List D) : tupIts (.scr xs) = none := rfl
theorem tupIts_ref (n : Nat) : tupIts (.ref n) = none := rfl
theorem sz_lt' {n : Nat} (h : n < 100000) : n < sizeLine := Nat.lt_of_lt_of_le h (by decide)
theorem dTupP_lst (G : GH) (xs : List D) : dTupP (.lst xs) G = .ok (.pt xs) G := rfl
section
variable {E : XP} {nx : SP} {rt : D → GH → Prop} {bk ct : SP} {ex : Ex → DEnv → GH → Prop} (δ : DEnv) (G : GH)
theorem w_sPut (fo fi f : FE) : (sPut fo fi f δ G).wp nx rt bk ct ex = ((f δ G).thn δ fun d G1 => (fo δ G1).thn δ fun o G2 => (fi δ G2).thn δ fun i G3 => match putO G3 o i d with | some G4 => .nx δ G4 | none => .no).wp nx rt bk ct ex := rfl
theorem w_gPut (fo fi : FE) (d : D) : (gPut fo fi d δ G).wp nx rt bk ct ex = ((fo δ G).thn δ fun o G2 => (fi δ G2).thn δ fun i G3 => match putO G3 o i d with | some G4 => .nx δ G4 | none => .no).wp nx rt bk ct ex := rfl
theorem w_sPar2 (i j : Nat) (g : FA) : (sPar2 i j g δ G).wp nx rt bk ct ex = ((g δ G).thn δ fun ds G1 => match ds with | [a, b] => .nx ((δ.set i (some a)).set j (some b)) G1 | _ => .no).wp nx rt bk ct ex := rfl
theorem w_sPar3 (i j l : Nat) (g : FA) : (sPar3 i j l g δ G).wp nx rt bk ct ex = ((g δ G).thn δ fun ds G1 => match ds with | [a, b, c] => .nx (((δ.set i (some a)).set j (some b)).set l (some c)) G1 | _ => .no).wp nx rt bk ct ex := rfl
theorem w_sAugD (op : Int → Int → Int) (fo fi f : FE) : (sAugD op fo fi f δ G).wp nx rt bk ct ex = ((fo δ G).thn δ fun o G1 => (fi δ G1).thn δ fun i G2 => match dGetO G2 o i with
  | some (some (.int a)) => (f δ G2).thn δ fun y G3 => (match y, celD G3 o, keyD i with
    | .int b, some (n, kvs), some k => if kvs.length < sizeLine then .nx δ (G3.set n (.dK (putD kvs k (.int (op a b))))) else .no
    | _, _, _ => .no)
  | _ => .no).wp nx rt bk ct ex := rfl
variable {Q : D → GH → Prop}
theorem w_eDict0 (mk : List (Key × D) → GH → R D) : (eDict0 mk δ G).wp Q E = (mk [] G).wp Q E := rfl
theorem w_mkKF (ds : List (Key × D)) : (mkKF ds G).wp Q E = Q (.dK ds) G := rfl
theorem w_mkKM (ds : List (Key × D)) : (mkKM ds G).wp Q E = Q (.ref G.length) (G ++ [.dK ds]) := rfl
theorem w_eRev (mk : List D → GH → R D) (f : FE) : (eRev mk f δ G).wp Q E = ((f δ G).bind fun x G1 => match lstOf G1 x with | some xs => mk xs.reverse G1 | none => .no).wp Q E := rfl
theorem w_eGet2 (fo fk fx : FE) : (eGet2 fo fk fx δ G).wp Q E = ((fo δ G).bind fun o G1 => match dKOf G1 o with
  | some _ => (fk δ G1).bind fun k G2 => (fx δ G2).bind fun x G3 => (match dGetO G3 o k with
    | some (some d) => .ok d G3
    | some none => .ok x G3
    | none => .no)
  | none => .no).wp Q E := rfl
theorem w_eLenSet2 (f : FE) : (eLenSet2 f δ G).wp Q E = ((f δ G).bind fun d G1 => match (seqD G1 d).bind strsOf with | some xs => if xs.length < 4000 then .ok (.int (met xs).length) G1 else .no | none => .no).wp Q E := rfl
theorem w_iEn (g : FA) {Q : Its → GH → Prop} : (iEn g δ G).wp Q E = ((g δ G).bind fun ds G1 => match ds with
  | [x] => (match tupIts x, lstIts G1 x with
    | some ys, _ => .ok ⟨enumD 0 ys, fun _ => true⟩ G1
    | none, some it => .ok ⟨enumD 0 it.items, it.chk⟩ G1
    | none, none => .no)
  | _ => .no).wp Q E := rfl
theorem w_iZp (g : FA) {Q : Its → GH → Prop} : (iZp g δ G).wp Q E = ((g δ G).bind fun ds G1 => match ds with
  | [x, y] => (match tupIts x, tupIts y, lstIts G1 x, lstIts G1 y with
    | some xs, some ys, _, _ => .ok ⟨zipD xs ys, fun _ => true⟩ G1
    | none, none, some it, some it2 => .ok ⟨zipD it.items it2.items, fun G => it.chk G && it2.chk G⟩ G1
    | _, _, _, _ => .no)
  | _ => .no).wp Q E := rfl
theorem w_eCm {α : Type} (mk : α → GH → R D) (a0 : α) (em : FM1 α) (c : CD) (r : List CD) : (eCm mk a0 em c r δ G).wp Q E = ((c.fi δ G).bind fun it G1 => if it.chk G1 then (cmL it.chk c.g c.t (cmD em r) (wipeD δ c.vs) it.items a0 G1).nox.bind mk else .no).wp Q E := rfl
theorem w_cmDn {α : Type} {Q : α → GH → Prop} (em : FM1 α) (acc : α) : (cmD em [] δ G acc).wp Q E = (em δ G acc).wp Q E := rfl
theorem w_cmDc {α : Type} {Q : α → GH → Prop} (em : FM1 α) (c : CD) (r : List CD) (acc : α) : (cmD em (c :: r) δ G acc).wp Q E = ((c.fi δ G).nox.bind fun it G1 => if it.chk G1 then cmL it.chk c.g c.t (cmD em r) (wipeD δ c.vs) it.items acc G1 else .no).wp Q E := rfl
theorem w_emLd {Q : List D → GH → Prop} (f : FE) (acc : List D) : (emLd f δ G acc).wp Q E = ((f δ G).nox.bind fun y G1 => if acc.length < sizeLine then .ok (acc ++ [y]) G1 else .no).wp Q E := rfl
theorem w_emKd {Q : List (Key × D) → GH → Prop} (fk fv : FE) (acc : List (Key × D)) : (emKd fk fv δ G acc).wp Q E = ((fk δ G).nox.bind fun x G1 => (fv δ G1).nox.bind fun y G2 => match keyD x with | some k => if acc.length < sizeLine then .ok (putD acc k y) G2 else .no | none => .no).wp Q E := rfl
end
end CF
end
section
set_option maxRecDepth 100000
set_option maxHeartbeats 1000000
namespace CF
open PySem PySem.Spec PyProof.Rows L2
theorem passes_no {X : Cx} {W : WX} (tk : Takes X W) : Passes (L2.CX X.prog X.w) X (fun _ _ _ => False) := passes_call tk fun _ _ _ _ z => z.elim
structure RsC (P : Program) (w : World) (K : PySem.W.Frag) (mg : Str → Option Value) (base : Heap) (k : Nat) (x : Str) (C fI : Addr) (fd : FuncData) (ps : List Str) (dvs : List V) (fs : List Str) (n : Nat) (fl : List V → List (Str × V)) : Prop where
  g : mg x = some (.ref C)
  ei : ExI K C fs
  ini : PySem.W.findIn K (.ref C) "__init__" = some (some (.ref fI))
  ty : PySem.W.typeIn K (.ref fI) = some (.type "function")
  F : FnOk P w K mg base (L2.CX P w) k fI fd ps (spI K fs n fl)
  b : ∃ ds, Vals dvs ds ∧ Binds K fd ps ds
def sRaise (C : Addr) (ff : List D → List (Str × D)) (n : Nat) (g : FA) : FS := fun δ G => (g δ G).thn δ fun ds G1 => if ds.length = n then .ex ⟨C, ff ds⟩ δ G1 else .no
def FlR (n : Nat) (dvs : List V) (ff : List D → List (Str × D)) (fl : List V → List (Str × V)) : Prop := ∀ (K : PySem.W.Frag) (Z : Hp) (r : List Addr) (ds : List D) (vs : List V), ds.length = n → Reps K Z r ds vs → (ff ds).map (·.1) = (fl (vs ++ dvs)).map (·.1) ∧ Reps K Z r ((ff ds).map (·.2)) ((fl (vs ++ dvs)).map (·.2))
section
variable {X : Cx} {W : WX} {pos pos' p : Pos} {x : Str} {C fI : Addr} {fd : FuncData} {ps : List Str} {dvs : List V} {fs : List Str} {n m k : Nat} {fl : List V → List (Str × V)} {ff : List D → List (Str × D)} {e : Expr} {es : List Expr} {g : FA}
theorem xs_raise (hc : X.calm = true) (tk : Takes X W) (hr : Room (k + 1) X.A) (R : RsC X.prog X.w X.K X.mg X.base k x C fI fd ps dvs fs n fl) (hf : FlR m dvs ff fl) (hn : m + dvs.length = n) (hm : n ≤ 1000) (ha : xA X W (e :: es) g) (hg : Gl X x := by rfl)
    (hdb : (x == ("__debug__" : Str)) = false := by decide) (he : starEach (e :: es) X.env = (false, eval e X.env) :: starEach es X.env := by rfl) (hpl : (backTo pos (starEach es X.env)).any (·.1) = false := by rfl) :
    xS X W (.Raise (some (.Call (.Name x p) (e :: es) [] pos)) none pos') (sRaise C ff m g) := by
  obtain ⟨ds, hd, hb⟩ := R.b
  refine PSimp (ps_raise hc tk (pmk_oex R.ei.oex R.ini R.ty R.F hr hb hd (passes_no tk) hg R.g ha hdb he hpl)) fun E σ H ⟨L, δ, G, hr', er, q⟩ => ?_
  refine Sat.thn hr' er q fun L1 G1 H1 ds vs le hr1 er1 rd q1 => ?_
  have rd' : Reps X.K L1.Z L1.r ds vs := rd
  have ll := rd'.length
  by_cases hl : ds.length = m
  · rw [if_pos hl] at q1
    refine ⟨by omega, fun a ha => ⟨a, C, vs ++ dvs, rfl, by rw [List.length_append]; omega, R.ei, upd_same, fun d h1 h2 => ?_⟩⟩
    have hd1 : H1 d = none := by rwa [upd_ne h2] at h1
    refine ⟨rfl, d, fl (vs ++ dvs), upd_same, by rw [upd_ne h2, upd_same], hd1, ?_⟩
    have eH : upd (del (upd (upd (upd H1 a (exo a C none)) d (exd d (fl (vs ++ dvs)))) a (exo a C (some d))) a) d (.xd (fl (vs ++ dvs))) = upd H1 d (.xd (fl (vs ++ dvs))) := by
      funext b
      by_cases hb : b = d
      · subst hb; rw [upd_same, upd_same]
      · rw [upd_ne hb, upd_ne hb]
        by_cases hba : b = a
        · subst hba; rw [del_same, ha]
        · rw [del_ne hba, upd_ne hba, upd_ne hb, upd_ne hba]
    rw [eH]
    obtain ⟨f1, f2⟩ := hf X.K (L1.put d (.xd (fl (vs ++ dvs)))).Z (L1.put d (.xd (fl (vs ++ dvs)))).r ds vs hl (rd'.mono (Lk.le_put (hr1.zfree hd1)))
    have q2 : SatS X.K W L1 (.ex ⟨C, ff ds⟩ δ G1) E := q1
    exact q2 (L1.put d (.xd (fl (vs ++ dvs)))) σ _ (.ref C) (some d) (Lk.le_put (hr1.zfree hd1)) (hr1.put hd1) (er1.mono (Lk.le_put (hr1.zfree hd1))) ⟨rfl, d, fl (vs ++ dvs), rfl, upd_same, f1, f2⟩
  · rw [if_neg hl] at q1; exact q1.elim
end
def ffS (f m : Str) : List D → List (Str × D) := fun ds => [(f, ds.getD 0 .non), ("why", .str m)]
theorem flr_S (f m : Str) : FlR 1 [] (ffS f m) (flS f m) := fun K Z r ds vs hl h => by
  cases h with
  | nil => simp at hl
  | cons a t =>
    cases t with
    | nil => exact ⟨rfl, .cons a (.cons (.str m) .nil)⟩
    | cons => simp at hl
end CF
end
section
set_option maxRecDepth 100000
set_option maxHeartbeats 1000000
namespace CF
open PySem PySem.Spec PyProof.Rows L2
def goneS (i : Nat) : RS → RS
  | .nx δ G => .nx (δ.set i none) G
  | .bk δ G => .bk (δ.set i none) G
  | .ct δ G => .ct (δ.set i none) G
  | .rt d G => .rt d G
  | _ => .no
open Classical in
noncomputable def sSuite (i : Nat) (x : Ex) (su : Addr → Addr → Addr → FS) (δ : DEnv) (G : GH) : RS :=
  if h : ∃ r, ∀ a d, goneS i (su a d x.cls (δ.set i (some (.exc a d x.cls x.fs))) G) = r then Classical.choose h else .no
theorem sSuite_eq {i : Nat} {x : Ex} {su : Addr → Addr → Addr → FS} {δ : DEnv} {G : GH} {r : RS} (h : ∀ a d, goneS i (su a d x.cls (δ.set i (some (.exc a d x.cls x.fs))) G) = r) : sSuite i x su δ G = r := by
  have e : ∃ r, ∀ a d, goneS i (su a d x.cls (δ.set i (some (.exc a d x.cls x.fs))) G) = r := ⟨r, h⟩
  unfold sSuite
  rw [dif_pos e, ← Classical.choose_spec e 0 0]
  exact h 0 0
noncomputable def sTryAs (i : Nat) (xm : Addr → Option Bool) (body : FS) (su : Addr → Addr → Addr → FS) : FS := fun δ G => match body δ G with
  | .ex x δ1 G1 => (match xm x.cls with
    | some true => sSuite i x su δ1 G1
    | some false => .ex x δ1 G1
    | none => .no)
  | r => r
section
variable {X : Cx} {W : WX} {x n : Str} {c : Value} {i : Nat} {body suite : List Stmt} {b₀ : Stmt} {np pos pos' : Pos} {fb : FS} {su : Addr → Addr → Addr → FS} {xm : Addr → Option Bool}
theorem xs_tryAs (hs : X.stack = X.env :: X.outer) (hf : X.env.frame = some X.env.locals) (hN : X.N.Nodup) (hi : X.N[i]? = some n) (hln : X.env.kindOf n = some .local) (hc : Names X x c) (tk : Takes X W) (hxm : ∀ C b, xm C = some b → PySem.W.exmOne X.K (.ref C) c = some b)
    (hb : ∀ (V : WX) (pn : List (Addr × Obj)) (xe : Value → Shared → Prop), Takes (X.tr pn xe) V → PassesOwn (model X.prog X.w) X.A X.env xe → xSs (X.tr pn xe) V body fb)
    (hsu : ∀ (a : Addr) (oe : Obj) (C d : Addr) (pn : List (Addr × Obj)), xm C = some true → Zc (.ref C) (some d) oe → (∃ vs, oe.data = .fields vs) → xSs (X.suite a ((a, oe) :: pn)) noW (b₀ :: suite) (su a d C)) :
    xS X W (.Try body [.ExceptHandler (some (.Name x np)) (some n) (b₀ :: suite) pos'] [] [] pos) (sTryAs i xm fb su) := by
  refine PSimp (ps_try_as (tb := fun V => tS X.K V fb) (ts := fun a cls dx E σ H => ∃ C d, cls = .ref C ∧ dx = some d ∧ xm C = some true ∧ tS X.K noW (su a d C) E σ H) hs hf hN hi hln hc tk hb ?_) fun E σ H ⟨L, δ, G, hr, er, q⟩ => ⟨L, δ, G, hr, er, ?_⟩
  · intro a oe cls dx pn hz hf'
    refine ⟨fun pins s σ H D I ⟨C, d, e1, e2, hm, q⟩ => ?_⟩
    subst e1 e2
    exact (hsu a oe C d pn hm hz hf').run pins s σ H D I q
  · have q' : SatS X.K W L (match fb δ G with | .ex x δ1 G1 => (match xm x.cls with | some true => sSuite i x su δ1 G1 | some false => .ex x δ1 G1 | none => .no) | r => r) E := q
    cases e : fb δ G with
    | nx δ1 G1 => rw [e] at q'; exact q'
    | rt d G1 => rw [e] at q'; exact q'
    | bk δ1 G1 => rw [e] at q'; exact q'
    | ct δ1 G1 => rw [e] at q'; exact q'
    | no => rw [e] at q'; exact q'
    | ex x δ1 G1 =>
      rw [e] at q'
      dsimp only at q'
      intro L' σ' H' c0 dx le hr1 er1 xr
      obtain ⟨ec, d, fs, ed, hz, k1, k2⟩ := xr
      subst ec ed
      cases em : xm x.cls with
      | none => rw [em] at q'; exact q'.elim
      | some b =>
        rw [em] at q'
        refine ⟨b, hxm _ _ em, fun hb a ha => ?_, fun hb => ?_⟩
        · subst hb
          dsimp only at q'
          have re : Rep X.K L'.Z L'.r (.exc a d x.cls x.fs) (.ref a) := .exc hz k1 k2
          refine ⟨x.cls, d, rfl, rfl, em, L', δ1.set i (some (.exc a d x.cls x.fs)), G1, hr1, er1.set i re, ?_⟩
          unfold sSuite at q'
          by_cases h : ∃ r, ∀ a d, goneS i (su a d x.cls (δ1.set i (some (.exc a d x.cls x.fs))) G1) = r
          · rw [dif_pos h, ← Classical.choose_spec h a d] at q'
            cases es : su a d x.cls (δ1.set i (some (.exc a d x.cls x.fs))) G1 with
            | nx δ2 G2 => rw [es] at q'; exact fun L2 σ2 H2 le2 hr2 er2 => q' L2 _ H2 (le.trans le2) hr2 (er2.drop i)
            | bk δ2 G2 => rw [es] at q'; exact fun L2 σ2 H2 le2 hr2 er2 => q' L2 _ H2 (le.trans le2) hr2 (er2.drop i)
            | ct δ2 G2 => rw [es] at q'; exact fun L2 σ2 H2 le2 hr2 er2 => q' L2 _ H2 (le.trans le2) hr2 (er2.drop i)
            | rt d2 G2 => rw [es] at q'; exact fun L2 H2 v le2 hr2 rv => q' L2 H2 v (le.trans le2) hr2 rv
            | ex x2 δ2 G2 => rw [es] at q'; exact q'.elim
            | no => rw [es] at q'; exact q'.elim
          · rw [dif_neg h] at q'; exact q'.elim
        · subst hb
          exact q' L' σ' H' _ _ le hr1 er1 ⟨rfl, d, fs, rfl, hz, k1, k2⟩
end
def eExF (i : Nat) (a d C : Addr) (f : Str) : FE := fun δ G => match δ[i]? with
  | some (some (.exc a' d' C' fs)) => if a' = a ∧ d' = d ∧ C' = C then (match fs.lookup f with
    | some v => .ok v G
    | none => .no) else .no
  | _ => .no
theorem xf_field {K : PySem.W.Frag} {Z : Hp} {r : List Addr} {f : Str} : ∀ {fds : List (Str × D)} {fs : List (Str × V)} {d : D}, fds.map (·.1) = fs.map (·.1) → Reps K Z r (fds.map (·.2)) (fs.map (·.2)) → fds.lookup f = some d → ∃ v, fs.lookup f = some v ∧ Rep K Z r d v
  | [], _, _, _, _, h => nomatch h
  | (g, x) :: fds, [], _, k, _, _ => by simp at k
  | (g, x) :: fds, (g', y) :: fs, d, k, t, h => by
    rw [List.map_cons, List.map_cons] at k t
    injection k with k1 k2
    have k1 : g = g' := k1
    subst k1
    cases t with
    | cons r t =>
      rw [List.lookup_cons] at h ⊢
      cases e : f == g with
      | true => rw [e] at h; cases h; exact ⟨y, rfl, r⟩
      | false => rw [e] at h; exact xf_field k2 t h
section
variable {X : Cx} {W : WX} {pos p : Pos} {i : Nat} {n f : Str} {a d C : Addr} {oe : Obj} {pn : List (Addr × Obj)}
theorem xe_exF (T : XfC X.K C) (hno : PySem.W.findIn X.K (.ref C) f = some none) (hz : Zc (.ref C) (some d) oe) (hf : ∃ vs, oe.data = .fields vs) (hN : X.N[i]? = some n := by rfl)
    (hv : Vis X.env.scope n := by first | exact Or.inl rfl | exact Or.inr (Or.inl rfl) | exact Or.inr (Or.inr rfl)) (hd : (n == ("__debug__" : Str)) = false := by decide) (hcd : (n == ("__classdict__" : Str)) = false := by decide)
    (hb : attributeBase (.Name n p) f (X.suite a ((a, oe) :: pn)).env (eval (.Name n p) (X.suite a ((a, oe) :: pn)).env) = eval (.Name n p) (X.suite a ((a, oe) :: pn)).env := by rfl) :
    xE (X.suite a ((a, oe) :: pn)) W (.Attribute (.Name n p) f pos) (eExF i a d C f) := by
  refine PEimp (pe_xf T hno hz hf (pe_var (X := X.suite a ((a, oe) :: pn)) hN hv hd hcd) hb) fun σ H Q ⟨L, δ, G, hr, er, q⟩ => ?_
  unfold eExF at q
  cases e : δ[i]? with
  | none => rw [e] at q; exact q.elim
  | some o =>
    cases o with
    | none => rw [e] at q; exact q.elim
    | some x =>
      rw [e] at q
      obtain ⟨v, e1, rx⟩ := er.2 i x e
      cases rx with
      | exc z k t =>
        dsimp only at q
        rename_i a' d' C' fs fds
        by_cases c : a' = a ∧ d' = d ∧ C' = C
        · rw [if_pos c] at q
          obtain ⟨rfl, rfl, rfl⟩ := c
          cases el : fds.lookup f with
          | none => rw [el] at q; exact q.elim
          | some y =>
            rw [el] at q
            obtain ⟨u, l, ru⟩ := xf_field k t el
            exact ⟨_, e1, rfl, rfl, d', fs, u, rfl, (by have := hr.z _ _ z; exact this.xd), l, q L H u (.refl _) hr ru⟩
        · rw [if_neg c] at q; exact q.elim
      | _ => exact q.elim
end
theorem eExF_ap {i : Nat} {a d C : Addr} {f : Str} {δ : DEnv} {G : GH} {fs : List (Str × D)} {v : D} (h : δ[i]? = some (some (.exc a d C fs))) (l : fs.lookup f = some v) : eExF i a d C f δ G = .ok v G := by
  unfold eExF
  rw [h]
  dsimp only
  rw [if_pos ⟨rfl, rfl, rfl⟩, l]
end CF
end
section
set_option maxRecDepth 100000
set_option maxHeartbeats 4000000
namespace CF
open PySem PySem.Spec PyProof.Rows L2 PySem.W
section
variable {prog : Program} {w : World} {A : Around} {E : Value → Shared → Prop} {s : Shared} {K : Frag} {x D : Addr} {ox : Obj} {od : Option Obj}
theorem find_cls {c a0 : Value} {b0 : Addr} (nm : Str) (hc : (clsIn K b0).isSome = true) (h1 : findIn K (.ref b0) nm = some (some a0)) (h2 : specialIn K a0 "__get__" = some (some c)) (h3 : takesIn K a0 = some true) : findObj K b0 od nm = some (.bind c a0) := by
  obtain ⟨cd, hc⟩ := Option.isSome_iff_exists.mp hc
  unfold findObj
  rw [hc, Option.bind_some, h1, Option.bind_some]
  simp [h2, h3]
theorem exc_class (C : ExcC K D) {Q : Option Value → Shared → Prop} (kin : K.In s.heap) (I : InstAt s.heap x ox D od) (h : Q (some (.ref D)) { s with toks := s.toks + 1 }) : wpAny (model prog w) A (getAttr? (.ref x) "__class__") Q E s := by
  have hcl : (clsIn K D).isSome = true := by obtain ⟨cd, hc, _⟩ := any_some C.hd; rw [hc]; rfl
  have hf : findObj K D od "__class__" = some (.bind (.builtin "getset_descriptor.__get__") (.builtin "object.__class__")) := find_cls _ hcl C.ha C.hn C.ht
  obtain ⟨hp, g, dr, tk, os⟩ := s
  have k0 := I.type (M := model prog w)
  have k1 := looks_findIn (M := model prog w) kin C.hg
  have k2 := looks_findIn (M := model prog w) kin C.hk
  have k3 := looks_find (M := model prog w) kin I hf
  have isB : Looks (model prog w) hp (isInstance (.ref x) (.type "BaseException")) true := k0.andThen (looks_subIn kin C.hs)
  have n0 : (false && onTheHeap (Value.builtin "BaseException.__getattribute__")) = false := rfl
  have n2 : (Value.builtin "BaseException.__getattribute__" == Value.builtin "object.__getattribute__") = false := by decide +kernel
  have n1 : (onTheHeap (Value.ref D) && Value.builtin "BaseException.__getattribute__" == Value.builtin "object.__getattribute__") = false := by rw [n2]; rfl
  unfold getAttr? getAttrBy? getAttrBy
  refine wpAny_bind (wpAny_mkText (wpAny_bind (wpAny_attempt (wpAny_holding (wpAny_bind (k0.at (wpAny_bind (k1.at ?_))))))))
  show wpAny _ _ (if (onTheHeap (Value.ref D) && Value.builtin "BaseException.__getattribute__" == Value.builtin "object.__getattribute__") = true then _ else _) _ _ _
  rw [n1, if_neg Bool.false_ne_true]
  unfold getAttrByItsOwn hookBefore
  refine wpAny_bind ?_
  rw [if_pos (show onTheHeap (Value.ref D) = true from rfl)]
  refine k2.at (wpAny_bind (wpAny_attempt (wpAny_holding ?_)))
  unfold callGetattribute
  rw [n0, if_neg Bool.false_ne_true]
  unfold boundAndCalled
  rw [PySem.F.excAttr_ValueError.ga.bind (.ref x)]
  refine wpAny_bind (wpAny_pure ?_)
  show wpAny _ _ (call (.builtin "BaseException.__getattribute__") [.ref x, .str "__class__" tk]) _ _ _
  refine wpAny_call (codeAny_call_builtin PySem.F.excAttr_ValueError.ga.plain PySem.F.entry_bexc_ga ?_)
  refine @check_slot (model prog w) _ _ ⟨hp, g, dr, tk + 1, os⟩ "BaseException.__getattribute__" "BaseException" "__getattribute__" (.ref x) [.str "__class__" tk] [] _ (by decide +kernel) (by decide +kernel) isB (PySem.F.args_bexc_ga (.ref x) (.str "__class__" tk)) ?_
  unfold Builtin.«object.__getattribute__»
  refine wpAny_bind (wpAny_of_eq (a := ((Value.ref x : Value), [Value.str "__class__" tk])) (by first | rfl | (simp only [slotArgs]; rfl)) ?_)
  refine wpAny_bind (wpAny_pure (wpAny_bind (k0.at (wpAny_bind (k3.at ?_)))))
  show wpAny _ _ (holding [Value.builtin "object.__class__"] (call (.builtin "getset_descriptor.__get__") [.builtin "object.__class__", .ref x, .ref D]) >>= ret) _ _ _
  refine wpAny_bind (wpAny_holding (wpAny_call (class_get (s := ⟨hp, g, dr, tk + 1, os⟩) (ox := ox) (od := od) kin I C.hm ?_)))
  refine wpAny_pure ?_
  show wpAny _ _ (handedOut (.ref D)) _ _ _
  rw [handedOut_of (v := .ref D) rfl]
  first
    | exact wpAny_pure (wpAny_pure h)
    | exact wpAny_pure h
    | exact wpAny_pure (wpAny_bind (wpAny_pure (wpAny_pure h)))
theorem kitx_exc (C : ExcC K D) : KitX K (.ref x) (.ref D) (fun h => ∃ od, InstAt h x ox D od) where
  ty := fun _ _ _ ⟨od, I⟩ => I.type
  it := fun _ _ kin _ => by
    obtain ⟨cdD, hcD, _⟩ := any_some C.hd
    unfold clsIn at hcD
    split at hcD
    · rename_i c' d' cd' sl' ho
      intro A' Q' E' s' k q
      unfold isType loadHead
      exact wpAny_bind (wpAny_loadPart (k _ _ (kin _ _ ho)) (wpAny_pure q))
    · cases hcD
  ne := fun h tp dd its n sl kin htp => by
    obtain ⟨cdD, hcD, _⟩ := any_some C.hd
    refine Bool.eq_false_iff.mpr fun q => ?_
    have e : D = tp := Value.ref.inj (beq_iff_eq.mp q)
    subst e
    unfold clsIn at hcD
    split at hcD
    · rename_i c' d' cd' sl' ho
      have z := (kin _ _ ho).symm.trans htp
      cases z
    · cases hcD
  ca := fun kin ⟨od, I⟩ k => exc_class C kin I k
end
theorem call_isX {X : Cx} {a D d : Addr} {oe : Obj} (C : ExcC X.K D) (hz : Zc (.ref D) (some d) oe) (hf : ∃ vs, oe.data = .fields vs) (hp : (a, oe) ∈ X.pn) :
    CallR X (.builtin "isinstance") (fun xs H Q => ∃ (c : V) (cv : Value) (b : Bool) (fs : List (Str × V)), xs = [.ref a, c] ∧ H d = some (.xd fs) ∧ (∀ u, RelV c u → u = cv) ∧ PySem.W.kitOne X.K (.ref D) cv = some b ∧ Q (.bl b) H) := by
  intro pins s σ H xs us Q I r h
  obtain ⟨c, cv, b, fs, rfl, hd, hcv, e, q⟩ := h
  cases r with
  | cons rx rr =>
    cases rr with
    | cons rt rr =>
      cases rr
      cases rx
      have ec := hcv _ rt
      subst ec
      obtain ⟨hget, _⟩ := I.pin (a, oe) (List.mem_append.mpr (.inl hp))
      obtain ⟨vs, hv⟩ := hf
      obtain ⟨mA, hns, _⟩ := (show ObjOk X.prog X.w H s.heap d (.xd fs) from I.hok d _ hd)
      obtain ⟨ob, ho, _⟩ := lookIn_ns hns
      have J : ∃ od, PySem.W.InstAt s.heap a oe D od := ⟨some ob, hget, hz.1, by unfold PySem.W.notCls; rw [hv] <;> rfl, by rw [hz.2]; exact ho⟩
      exact PySem.W.kia_one (kitx_exc C) I.kIn J e (fun z => nomatch z) fun tk => ⟨.bl b, H, I.kept (t' := tk) fun _ _ z => z, rfl, q⟩
end CF
end
section
set_option maxRecDepth 100000
set_option maxHeartbeats 1000000
namespace CF
open PySem PySem.Spec PyProof.Rows L2 L2H
section
variable {X : Cx} {W : WX} {pos p pe pc : Pos} {i : Nat} {n f x : Str} {a d C : Addr} {oe : Obj} {pn : List (Addr × Obj)} {e : Expr} {te : TE}
theorem pe_fld (T : XfC X.K C) (hno : PySem.W.findIn X.K (.ref C) n = some none) (hz : Zc (.ref C) (some d) oe) (hf : ∃ vs, oe.data = .fields vs) (hp : (a, oe) ∈ X.pn) (he : PE X e te) (hb : attributeBase e n X.env (eval e X.env) = eval e X.env := by rfl) :
    PE X (.Attribute e n pos) (fun σ H Q => te σ H fun y H1 => y = .ref a ∧ ∃ (fs : List (Str × V)) (v : V), H1 d = some (.xd fs) ∧ fs.lookup n = some v ∧ Q v H1) := by
  refine ⟨fun pins s σ H Q I h => attr_of hb (thn (he.run pins s σ H _ I h) fun u s1 ⟨y, H1, I1, ry, ey, fs, v, ed, l, q⟩ => ?_)⟩
  subst ey
  obtain rfl : u = Value.ref a := ry
  obtain ⟨ha, _⟩ := I1.pin (a, oe) (List.mem_append_left _ hp)
  obtain ⟨vs, hd⟩ := hf
  obtain ⟨mA, hns, hr⟩ := (show ObjOk X.prog X.w H1 s1.heap d (.xd fs) from I1.hok d _ ed)
  obtain ⟨od, ho, hl⟩ := lookIn_ns hns
  obtain ⟨z, hu, ru⟩ := RelO.some_of (v := v) (o := mA n) (by rw [← l]; exact hr n)
  have J : PySem.W.InstAt s1.heap a oe C (some od) := ⟨ha, hz.1, by unfold PySem.W.notCls; rw [hd] <;> rfl, by rw [hz.2]; exact ho⟩
  exact HandSPX.exc_get I1.kIn J T.ga T.gg T.exC (PySem.W.findObj_own T.hdC hno rfl (by rw [hl, hu])) (handed_of ru) ⟨v, H1, I1.tok _, ru, q⟩
theorem exc_at {K : PySem.W.Frag} {L : Lk} {G : GH} {H : Hp} {δ : DEnv} {σ : St} (hr : HR K L G H) (er : ER K L δ σ) {a d C : Addr} {fds : List (Str × D)} (e : δ[i]? = some (some (.exc a d C fds))) :
    ∃ fs, σ[i]? = some (some (.ref a)) ∧ H d = some (.xd fs) ∧ fds.map (·.1) = fs.map (·.1) ∧ Reps K L.Z L.r (fds.map (·.2)) (fs.map (·.2)) := by
  obtain ⟨v, e1, rx⟩ := er.2 i _ e
  cases rx with
  | exc z k t => exact ⟨_, e1, (hr.z _ _ z).xd, k, t⟩
theorem xe_fld (T : XfC X.K C) (hno : PySem.W.findIn X.K (.ref C) f = some none) (hz : Zc (.ref C) (some d) oe) (hf : ∃ vs, oe.data = .fields vs) (hp : (a, oe) ∈ X.pn) (hN : X.N[i]? = some n := by rfl)
    (hv : Vis X.env.scope n := by first | exact Or.inl rfl | exact Or.inr (Or.inl rfl) | exact Or.inr (Or.inr rfl)) (hd : (n == ("__debug__" : Str)) = false := by decide) (hcd : (n == ("__classdict__" : Str)) = false := by decide)
    (hb : attributeBase (.Name n p) f X.env (eval (.Name n p) X.env) = eval (.Name n p) X.env := by rfl) :
    xE X W (.Attribute (.Name n p) f pos) (eExF i a d C f) := by
  refine PEimp (pe_fld T hno hz hf hp (pe_var hN hv hd hcd) hb) fun σ H Q ⟨L, δ, G, hr, er, q⟩ => ?_
  unfold eExF at q
  cases e : δ[i]? with
  | none => rw [e] at q; exact q.elim
  | some o =>
    cases o with
    | none => rw [e] at q; exact q.elim
    | some y =>
      rw [e] at q
      cases y with
      | exc a' d' C' fds =>
        dsimp only at q
        by_cases c : a' = a ∧ d' = d ∧ C' = C
        · rw [if_pos c] at q
          obtain ⟨rfl, rfl, rfl⟩ := c
          obtain ⟨fs, e1, hd', k, t⟩ := exc_at hr er e
          cases el : fds.lookup f with
          | none => rw [el] at q; exact q.elim
          | some z =>
            rw [el] at q
            obtain ⟨u, l, ru⟩ := xf_field k t el
            exact ⟨_, e1, rfl, fs, u, hd', l, q L H u (.refl _) hr ru⟩
        · rw [if_neg c] at q; exact q.elim
      | _ => exact q.elim
def eIsX (i : Nat) (a d C : Addr) (b : Option Bool) : FE := fun δ G => match δ[i]?, b with
  | some (some (.exc a' d' C' _)), some b => if a' = a ∧ d' = d ∧ C' = C then .ok (.bl b) G else .no
  | _, _ => .no
theorem xe_isX {b : Option Bool} {Cx' : Addr} (hc : ExcC X.K C) (hz : Zc (.ref C) (some d) oe) (hf : ∃ vs, oe.data = .fields vs) (hp : (a, oe) ∈ X.pn) (hm : X.mg "isinstance" = none) (hx : X.mg x = some (.ref Cx')) (hk : ∀ z, b = some z → PySem.W.kitOne X.K (.ref C) (.ref Cx') = some z) (hg : Gl X "isinstance" := by rfl) (hgx : Gl X x := by rfl)
    (hN : X.N[i]? = some n := by rfl) (hv : Vis X.env.scope n := by first | exact Or.inl rfl | exact Or.inr (Or.inl rfl) | exact Or.inr (Or.inr rfl)) (hd : (n == ("__debug__" : Str)) = false := by decide) (hcd : (n == ("__classdict__" : Str)) = false := by decide) (hdx : (x == ("__debug__" : Str)) = false := by decide)
    (n1 : starEach [.Name n p, .Name x pc] X.env = (false, eval (.Name n p) X.env) :: starEach [.Name x pc] X.env := by rfl) (n2 : starEach [.Name x pc] X.env = (false, eval (.Name x pc) X.env) :: starEach [] X.env := by rfl) (hpl : (backTo pos (starEach [.Name x pc] X.env)).any (·.1) = false := by rfl) :
    xE X W (.Call (.Name "isinstance" pe) [.Name n p, .Name x pc] [] pos) (eIsX i a d C b) := by
  refine PEimp (pe_callB (call_isX hc hz hf hp) hg hm (by decide +kernel) (pa_cons (pe_var hN hv hd hcd) (pa_cons (pe_glob hgx hx (v := .ref Cx') rfl hdx) pa_nil n2) n1) (by decide) (by decide) n1 hpl) fun σ H Q ⟨L, δ, G, hr, er, q⟩ => ?_
  unfold eIsX at q
  cases e : δ[i]? with
  | none => rw [e] at q; exact q.elim
  | some o =>
    cases o with
    | none => rw [e] at q; exact q.elim
    | some y =>
      rw [e] at q
      cases b with
      | none => cases y <;> exact q.elim
      | some z =>
        cases y with
        | exc a' d' C' fds =>
          dsimp only at q
          by_cases c : a' = a ∧ d' = d ∧ C' = C
          · rw [if_pos c] at q
            obtain ⟨rfl, rfl, rfl⟩ := c
            obtain ⟨fs, e1, hd', k, t⟩ := exc_at hr er e
            exact ⟨_, e1, .ref Cx', .ref Cx', z, fs, rfl, hd', fun u hu => hu, hk z rfl, q L H _ (.refl _) hr (.bl z)⟩
          · rw [if_neg c] at q; exact q.elim
        | _ => exact q.elim
end
end CF
end
section
set_option maxRecDepth 100000
set_option maxHeartbeats 1000000
namespace CF
open PySem PySem.Spec PyProof.Rows L2
def insOf (G : GH) : D → Option (Addr × List (Str × D))
  | .ins C fs => some (C, fs)
  | .ref n => match G[n]? with
    | some (.ins C fs) => some (C, fs)
    | _ => none
  | _ => none
@[simp] theorem insOf_ins (G : GH) (C : Addr) (fs : List (Str × D)) : insOf G (.ins C fs) = some (C, fs) := rfl
def eFld (C : Addr) (f : Str) (a : FE) : FE := fun δ G => (a δ G).bind fun d G1 => match insOf G1 d with
  | some (C', fs) => if C' = C then (match fs.lookup f with
    | some v => .ok v G1
    | none => .no) else .no
  | none => .no
section
variable {X : Cx} {W : WX} {pos apos p : Pos} {o e value : Expr} {es : List Expr} {f m : Str} {C : Addr} {fo fv : FE}
def putFD (f : Str) (v : D) : List (Str × D) → List (Str × D)
  | [] => [(f, v)]
  | (g, x) :: r => if g = f then (g, v) :: r else (g, x) :: putFD f v r
def sFldD (C : Addr) (f : Str) (fo fv : FE) : FS := fun δ G => (fv δ G).thn δ fun y G1 => (fo δ G1).thn δ fun d G2 => match d with
  | .ref n => (match G2[n]? with
    | some (.ins C' fs) => if C' = C ∧ fs.length < 1000 then .nx δ (G2.set n (.ins C' (putFD f y fs))) else .no
    | _ => .no)
  | _ => .no
def eMeth (C : Addr) (m : Str) (n : Nat) (F : List D → GH → R D) (dds : List D) (fo : FE) (g : FA) : FE := fun δ G => (fo δ G).bind fun d G1 => match insOf G1 d with
  | some (C', fs) => if C' = C ∧ fs.lookup m = none then (g δ G1).bind fun ds G2 => if (d :: (ds ++ dds)).length = n then F (d :: (ds ++ dds)) G2 else .no else .no
  | none => .no
end
end CF
end
section
set_option maxRecDepth 100000
set_option maxHeartbeats 1000000
namespace CF
open PySem PySem.Spec PyProof.Rows L2
section
variable {X : Cx} {W : WX} {pos apos kpos p : Pos} {o e value : Expr} {es : List Expr} {kws : List Keyword} {f m x : Str} {C : Addr} {fo fv : FE} {nm : Option Str} {g : FA}
def eMethK (C : Addr) (m : Str) (n nk np : Nat) (F : List D → GH → R D) (fo : FE) (g gk : FA) : FE := fun δ G => (fo δ G).bind fun d G1 => match insOf G1 d with
  | some (C', fs) => if C' = C ∧ fs.lookup m = none then (g δ G1).bind fun ds G2 => (gk δ G2).bind fun ks G3 => if (d :: ds).length = n ∧ ks.length = nk ∧ (d :: ds ++ ks).length = np then F (d :: ds ++ ks) G3 else .no else .no
  | none => .no
def eMake (C : Addr) (n : Nat) (F : List D → GH → R D) (dds : List D) (g : FA) : FE := fun δ G => (g δ G).bind fun ds G1 => if (D.ref G1.length :: (ds ++ dds)).length = n then (match F (.ref G1.length :: (ds ++ dds)) (G1 ++ [.ins C []]) with
  | .ok .non G2 => .ok (.ref G1.length) G2
  | _ => .no) else .no
end
end CF
end
section
set_option maxRecDepth 100000
set_option maxHeartbeats 1000000
namespace CF
open PySem PySem.Spec PyProof.Rows L2
structure EmpT (K : PySem.W.Frag) (a : Addr) : Prop where
  h : ∃ (o : Obj) (n : Nat), K.lookup a = some o ∧ o.cls = .type "tuple" ∧ o.data = .seq #[] n
theorem EmpT.rep {K : PySem.W.Frag} {a : Addr} (e : EmpT K a) {Z : Hp} {r : List Addr} : Rep K Z r (.tup []) (.ref a) :=
  let ⟨o, n, h1, h2, h3⟩ := e.h
  .tup (.inr ⟨o, #[], n, h1, h2, h3, Nat.zero_le _, .nil⟩) .nil
structure XcC (K : PySem.W.Frag) (mg : Str → Option Value) (x : Str) (C : Addr) : Prop where
  g : mg x = some (.ref C)
  m : PySem.W.exmOne K (.ref C) (.ref C) = some true
  f : XfC K C
def xmO (C : Addr) : Addr → Option Bool := fun D => if D = C then some true else none
theorem xm_eq {C D : Addr} (h : xmO C D = some true) : D = C := by
  unfold xmO at h
  by_cases c : D = C
  · exact c
  · rw [if_neg c] at h; cases h
theorem xm_one {K : PySem.W.Frag} {C : Addr} (h : PySem.W.exmOne K (.ref C) (.ref C) = some true) : ∀ D b, xmO C D = some b → PySem.W.exmOne K (.ref D) (.ref C) = some b := fun D b e => by
  unfold xmO at e
  by_cases c : D = C
  · rw [if_pos c] at e; cases e
    rw [c]; exact h
  · rw [if_neg c] at e; cases e
end CF
end
section
set_option maxRecDepth 100000
set_option maxHeartbeats 3200000
namespace CF
open PySem PySem.Spec PyProof.Rows L2
def rowX {κ : Type} (hash : κ → Int) (p : κ × Value) : Int × Value := (hash p.1, p.2)
structure XSet (w : World) {κ : Type} (hash : κ → Int) (tok : SetTable → List Int → Prop) (bd : Nat) (h : Heap) (a : Addr) (L : List (κ × Value)) : Prop where
  ex : ∃ o es ep t, h.get? a = some o ∧ o.ExactSet ∧ o.data = .set es ep t ∧ es.toList = L.map (rowX hash) ∧ t.fits es.size = true ∧ Ris t.place.toList ∧ (w.params.followText "set-order" = true ∨ t.led = true) ∧ tok t (L.map fun p => hash p.1)
  nd : (L.map (·.1)).Nodup
  few : L.length < bd
section
variable {P : Program} {w : World} {κ : Type} [DecidableEq κ]
theorem XSet.at {hash : κ → Int} {tok : SetTable → List Int → Prop} {bd : Nat} {h h' : Heap} {a : Addr} {L : List (κ × Value)} (R : XSet w hash tok bd h a L) (k : ∀ o, h.get? a = some o → h'.get? a = some o) : XSet w hash tok bd h' a L := by
  obtain ⟨⟨o, es, ep, t, ho, r⟩, n, f⟩ := R
  exact ⟨⟨o, es, ep, t, k o ho, r⟩, n, f⟩
theorem XSet.type {hash : κ → Int} {tok : SetTable → List Int → Prop} {bd : Nat} {s : Shared} {a : Addr} {L : List (κ × Value)} (R : XSet w hash tok bd s.heap a L) : s.TypeIs (.ref a) "set" := by
  obtain ⟨⟨o, es, ep, t, ho, hx, _⟩, _, _⟩ := R
  exact ⟨o, ho, hx.1⟩
end
end CF
end
section
set_option maxRecDepth 100000
set_option maxHeartbeats 3200000
namespace CF
open PySem PySem.Spec PyProof.Rows L2 PySem.W
section
variable {κ α : Type} [DecidableEq κ]
def stepX (acc : List (κ × α)) (p : κ × α) : List (κ × α) := if p.1 ∈ acc.map (·.1) then acc else acc ++ [p]
def dedX (ks : List (κ × α)) : List (κ × α) := ks.foldl stepX []
theorem stepX_mem {acc : List (κ × α)} {p : κ × α} {k : κ} : k ∈ (stepX acc p).map (·.1) ↔ k ∈ acc.map (·.1) ∨ k = p.1 := by
  unfold stepX
  split
  · rename_i h
    exact ⟨.inl, fun z => z.elim id fun e => e ▸ h⟩
  · simp
theorem foldX_mem : ∀ (ks acc : List (κ × α)) {k : κ}, k ∈ (ks.foldl stepX acc).map (·.1) ↔ k ∈ acc.map (·.1) ∨ k ∈ ks.map (·.1)
  | [], acc, k => by simp
  | p :: ks, acc, k => by
    rw [List.foldl_cons, foldX_mem ks, stepX_mem, List.map_cons, List.mem_cons, or_assoc]
theorem dedX_mem {ks : List (κ × α)} {k : κ} : k ∈ (dedX ks).map (·.1) ↔ k ∈ ks.map (·.1) := by
  unfold dedX; rw [foldX_mem]; simp
end
end CF
end
section
set_option maxRecDepth 100000
set_option maxHeartbeats 4000000
namespace CF
open PySem PySem.Spec PyProof.Rows L2
inductive Tr where
  | val (i : Int) | txt (x : Str) | node (m : Bool) (ps : List (Str × Tr))
def kindS (m : Bool) : Str := if m then "map" else "list"
mutual
def encT : Tr → D
  | .val i => .tup [.str "value", .int i]
  | .txt x => .tup [.str "value", .str x]
  | .node m ps => .tup [.str (kindS m), .pt (encP ps)]
def encP : List (Str × Tr) → List D
  | [] => []
  | (n, t) :: r => .tup [.str n, encT t] :: encP r
end
def encPr (p : Str × Tr) : D := .tup [.str p.1, encT p.2]
theorem encP_map : ∀ ps : List (Str × Tr), encP ps = ps.map encPr
  | [] => by rw [encP]; rfl
  | (n, t) :: r => by rw [encP, encP_map r]; rfl
theorem encT_val (i : Int) : encT (.val i) = .tup [.str "value", .int i] := by rw [encT]
theorem encT_txt (i : Str) : encT (.txt i) = .tup [.str "value", .str i] := by rw [encT]
theorem encT_node (m : Bool) (ps : List (Str × Tr)) : encT (.node m ps) = .tup [.str (kindS m), .pt (ps.map encPr)] := by rw [encT, encP_map]
def leS (a b : Str) : Bool := PySem.W.dataLe false PyData.str a b
theorem leS_def (a b : Str) : leS a b = decide (a.cps.toList ≤ b.cps.toList) := by
  unfold leS
  have e := PySem.W.dataLe_str (β := Str) id
  exact congrFun (congrFun e a) b
def plainC (c : Nat) : Bool := decide (32 ≤ c) && decide (c < 127) && !(c == 39) && !(c == 92)
def okS (x : Str) : Bool := PyData.strOk x && decide (x.length ≤ 1000) && x.cps.toList.all plainC
def okT (ns : List Str) : Nat → Tr → Prop
  | 0, _ => False
  | _ + 1, .val i => -(10 ^ 30) < i ∧ i < 10 ^ 30
  | _ + 1, .txt x => okS x = true
  | r + 1, .node m ps => (ps.map (·.1)).Nodup ∧ (∀ n ∈ ps.map (·.1), n ∈ ns) ∧ (m = true → (ps.map (·.1)).Pairwise fun a b => leS a b = true) ∧ ∀ p ∈ ps, okT ns r p.2
theorem okT_up (ns : List Str) : ∀ (r : Nat) (t : Tr), okT ns r t → okT ns (r + 1) t
  | 0, _, h => h.elim
  | _ + 1, .val _, h => h
  | _ + 1, .txt _, h => h
  | r + 1, .node m ps, ⟨h1, h2, h3, h4⟩ => ⟨h1, h2, h3, fun p hp => okT_up ns r p.2 (h4 p hp)⟩
theorem okT_mono (ns : List Str) {r s : Nat} (h : r ≤ s) {t : Tr} (k : okT ns r t) : okT ns s t := by
  induction h with
  | refl => exact k
  | step _ ih => exact okT_up ns _ t ih
mutual
def szT : Tr → Nat
  | .val _ => 0
  | .txt _ => 0
  | .node _ ps => szP ps
def szP : List (Str × Tr) → Nat
  | [] => 0
  | (_, t) :: r => 1 + szT t + szP r
end
theorem szT_node (m : Bool) (ps : List (Str × Tr)) : szT (.node m ps) = (ps.map fun p => 1 + szT p.2).sum := by
  rw [szT]
  induction ps with
  | nil => rw [szP]; rfl
  | cons p r ih => obtain ⟨n, t⟩ := p; rw [szP, ih]; rfl
def sortS (xs : List Str) : List Str := xs.mergeSort leS
theorem leS_total : PySem.W.TotalLe leS := by
  show PySem.W.TotalLe (PySem.W.dataLe false PyData.str)
  unfold PySem.W.dataLe
  exact PySem.W.sortLe_total _ _ _
theorem sortS_perm (xs : List Str) : (sortS xs).Perm xs := List.mergeSort_perm _ _
theorem sortS_sorted (xs : List Str) : (sortS xs).Pairwise fun a b => leS a b = true := PySem.W.sort_pairwise leS_total xs
theorem pyd_str {x : Str} (h : PyData.strOk x = true) : pyd (.str x) = .str x := by simp [pyd, D.py, h]
theorem pyAll_strs : ∀ {xs : List Str}, (∀ x ∈ xs, PyData.strOk x = true) → D.pyAll (xs.map D.str) = some (xs.map PyData.str)
  | [], _ => by simp [D.pyAll]
  | x :: xs, h => by
    have h1 := h x (.head _)
    have h2 := pyAll_strs (xs := xs) fun y hy => h y (.tail _ hy)
    rw [List.map_cons, D.pyAll, h2]
    simp [D.py, h1]
theorem sortOk_strs (xs : List Str) : SortOk (xs.map PyData.str) :=
  ⟨strs_alike xs, .inl (.others fun k => ⟨by simp, by simp⟩), fun d hd => by
    obtain ⟨k, _, rfl⟩ := List.mem_map.mp hd
    simp [PyData.depth]⟩
theorem sortD_strs {xs : List Str} (h : ∀ x ∈ xs, PyData.strOk x = true) : sortD (xs.map D.str) = (sortS xs).map D.str := by
  unfold sortD sortS
  rw [sort_fst D.str pyd xs]
  congr 1
  exact PySem.W.sort_congr fun a ha b hb => by
    show PySem.W.dataLe false (fun b => pyd (D.str b)) a b = PySem.W.dataLe false PyData.str a b
    rw [PySem.W.dataLe_eq, PySem.W.dataLe_eq]
    simp [pyd_str (h a ha), pyd_str (h b hb)]
theorem dSorted2_strs {xs : List Str} (h : ∀ x ∈ xs, PyData.strOk x = true) (G : GH) : dSorted2 mkF (.lst (xs.map D.str)) G = .ok (.lst ((sortS xs).map D.str)) G := by
  show dSorted mkF (.lst (xs.map D.str)) G = _
  unfold dSorted
  rw [lstOf_lst]
  dsimp only
  rw [pyAll_strs h]
  dsimp only
  rw [if_pos (sortOk_strs xs), sortD_strs h]
  rfl
theorem eqvAll_strs : ∀ xs ys : List Str, PyData.eqvAll (xs.map .str) (ys.map .str) = decide (xs = ys)
  | [], [] => by simp [PyData.eqvAll]
  | [], _ :: _ => by simp [PyData.eqvAll]
  | _ :: _, [] => by simp [PyData.eqvAll]
  | x :: xs, y :: ys => by
    rw [List.map_cons, List.map_cons, PyData.eqvAll, eqvAll_strs xs ys, PyData.eqv]
    by_cases h : x = y
    · subst h; simp
    · have : (x == y) = false := by
        cases q : x == y with
        | false => rfl
        | true => exact absurd (eq_of_beq q) h
      simp [this, h]
theorem depth_strs : ∀ xs : List Str, PyData.depthAll (xs.map .str) = 0
  | [] => by simp [PyData.depthAll]
  | x :: xs => by rw [List.map_cons, PyData.depthAll, depth_strs xs]; simp [PyData.depth]
theorem dEq_strs {xs ys : List Str} (hx : ∀ x ∈ xs, PyData.strOk x = true) (hy : ∀ x ∈ ys, PyData.strOk x = true) (G : GH) : dEq (.lst (xs.map D.str)) (.lst (ys.map D.str)) G = .ok (.bl (decide (xs = ys))) G := by
  have e1 : (D.lst (xs.map D.str)).py = some (.list (xs.map .str)) := by rw [D.py, pyAll_strs hx]
  have e2 : (D.lst (ys.map D.str)).py = some (.list (ys.map .str)) := by rw [D.py, pyAll_strs hy]
  unfold dEq pyEq
  rw [res_lst, res_lst, e1, e2]
  dsimp only
  rw [if_pos (by simp [PyData.depth, depth_strs]), PyData.eqv, eqvAll_strs]
theorem sortS_id {xs : List Str} (h : xs.Pairwise fun a b => leS a b = true) : sortS xs = xs := List.mergeSort_of_pairwise h
end CF
end
section
set_option maxRecDepth 100000
set_option maxHeartbeats 1000000
namespace CF
open PySem PySem.Spec PyProof.Rows L2 PySem.W
def keysD : List D → Option (List Key)
  | [] => some []
  | d :: r => match keyD d, keysD r with
    | some k, some ks => some (k :: ks)
    | _, _ => none
def kDd : Key → D
  | .inl i => .int i
  | .inr x => .str x
def pyK : Key → PyData
  | .inl i => .int i
  | .inr x => .str x
def dedK (ks : List Key) : List Key := (dedX (ks.map fun k => (k, ()))).map (·.1)
noncomputable def sortK (ks : List Key) : List Key := ks.mergeSort (dataLe false pyK)
theorem dedK_mem {ks : List Key} {k : Key} : k ∈ dedK ks ↔ k ∈ ks := by
  unfold dedK
  rw [dedX_mem, List.map_map]
  show k ∈ ks.map id ↔ _
  rw [List.map_id]
theorem sortK_perm (ks : List Key) : (sortK ks).Perm ks := List.mergeSort_perm _ _
end CF
end
section
set_option maxRecDepth 100000
set_option maxHeartbeats 1000000
namespace CF
open PySem PySem.Spec PyProof.Rows L2
theorem R.eqn {α : Type} {r : R α} {d : α} {G : GH} (h : r.wp (fun d' G' => d' = d ∧ G' = G) noX) : r = .ok d G := by
  obtain ⟨_, _, e, rfl, rfl⟩ := R.wp_ex_iff.mp h
  exact e
section
variable {E : XP} {nx : SP} {rt : D → GH → Prop} {bk ct : SP} {ex : Ex → DEnv → GH → Prop} (δ : DEnv) (G : GH) {Q : D → GH → Prop}
theorem w_eFld (C : Addr) (f : Str) (a : FE) : (eFld C f a δ G).wp Q E = ((a δ G).bind fun d G1 => match insOf G1 d with
  | some (C', fs) => if C' = C then (match fs.lookup f with
    | some v => .ok v G1
    | none => .no) else .no
  | none => .no).wp Q E := rfl
theorem w_eMeth (C : Addr) (m : Str) (n : Nat) (F : List D → GH → R D) (dds : List D) (fo : FE) (g : FA) : (eMeth C m n F dds fo g δ G).wp Q E = ((fo δ G).bind fun d G1 => match insOf G1 d with
  | some (C', fs) => if C' = C ∧ fs.lookup m = none then (g δ G1).bind fun ds G2 => if (d :: (ds ++ dds)).length = n then F (d :: (ds ++ dds)) G2 else .no else .no
  | none => .no).wp Q E := rfl
theorem w_eMethK (C : Addr) (m : Str) (n nk np : Nat) (F : List D → GH → R D) (fo : FE) (g gk : FA) : (eMethK C m n nk np F fo g gk δ G).wp Q E = ((fo δ G).bind fun d G1 => match insOf G1 d with
  | some (C', fs) => if C' = C ∧ fs.lookup m = none then (g δ G1).bind fun ds G2 => (gk δ G2).bind fun ks G3 => if (d :: ds).length = n ∧ ks.length = nk ∧ (d :: ds ++ ks).length = np then F (d :: ds ++ ks) G3 else .no else .no
  | none => .no).wp Q E := rfl
theorem w_eMake (C : Addr) (n : Nat) (F : List D → GH → R D) (dds : List D) (g : FA) : (eMake C n F dds g δ G).wp Q E = ((g δ G).bind fun ds G1 => if (D.ref G1.length :: (ds ++ dds)).length = n then (match F (.ref G1.length :: (ds ++ dds)) (G1 ++ [.ins C []]) with
  | .ok .non G2 => .ok (.ref G1.length) G2
  | _ => .no) else .no).wp Q E := rfl
theorem w_sFldD (C : Addr) (f : Str) (fo fv : FE) : (sFldD C f fo fv δ G).wp nx rt bk ct ex = ((fv δ G).thn δ fun y G1 => (fo δ G1).thn δ fun d G2 => match d with
  | .ref n => (match G2[n]? with
    | some (.ins C' fs) => if C' = C ∧ fs.length < 1000 then .nx δ (G2.set n (.ins C' (putFD f y fs))) else .no
    | _ => .no)
  | _ => .no).wp nx rt bk ct ex := rfl
theorem w_sRaise (C : Addr) (ff : List D → List (Str × D)) (n : Nat) (g : FA) : (sRaise C ff n g δ G).wp nx rt bk ct ex = ((g δ G).thn δ fun ds G1 => if ds.length = n then .ex ⟨C, ff ds⟩ δ G1 else .no).wp nx rt bk ct ex := rfl
theorem w_sAugE (i : Nat) (f : FE) : (sAugE i f δ G).wp nx rt bk ct ex = (match δ[i]? with
  | some (some x) => (f δ G).thn δ fun y G1 => (match celL G1 x, lstX G1 y with
    | some (n, xs), some ys => if xs.length + ys.length ≤ sizeLine then .nx (δ.set i (some x)) (G1.set n (.lst (xs ++ ys))) else .no
    | _, _ => .no)
  | _ => .no).wp nx rt bk ct ex := rfl
end
theorem putFD_nil (f : Str) (v : D) : putFD f v [] = [(f, v)] := rfl
theorem lstX_l (G : GH) (xs : List D) : lstX G (.lst xs) = some xs := rfl
end CF
end
section
set_option maxRecDepth 100000
set_option maxHeartbeats 1000000
namespace CF
open PySem PySem.Spec PyProof.Rows L2
def oexB (K : PySem.W.Frag) (C : Addr) : Bool := (match K.lookup C with
  | some ⟨.type c, _, .cls cd, sl⟩ => decide (c = "type") && (match cd.mro, sl.toList with
    | .ref C' :: bm, [_, _, _, _, some (.builtin n), _] => decide (C' = C) && (decide (n = "ValueError.__new__") && (!cd.hasDel && (cd.hasDict && PySem.HandSPX.refsVE bm)))
    | _, _ => false)
  | _ => false) && (decide (PySem.W.findIn K (.ref C) "__setattr__" = some (some (.builtin "object.__setattr__"))) && (decide (PySem.W.subIn K (.ref C) (.type "BaseException") = some true) && (decide (PySem.W.typeIn K (.ref C) = some (.type "type")) && PySem.W.keepIn K (.ref C))))
theorem oexB_ok {K : PySem.W.Frag} {C : Addr} (q : oexB K C = true) : OexC K C := by
  unfold oexB at q
  obtain ⟨q1, q⟩ := Bool.and_eq_true_iff.mp q
  obtain ⟨q2, q⟩ := Bool.and_eq_true_iff.mp q
  obtain ⟨q3, q⟩ := Bool.and_eq_true_iff.mp q
  obtain ⟨q4, q5⟩ := Bool.and_eq_true_iff.mp q
  refine ⟨?_, of_decide_eq_true q2, of_decide_eq_true q3, of_decide_eq_true q4, q5⟩
  split at q1
  · rename_i c dd cd sl ho
    obtain ⟨hc, q1⟩ := Bool.and_eq_true_iff.mp q1
    have hc := of_decide_eq_true hc
    subst hc
    split at q1
    · rename_i C' bm k0 k1 k2 k3 n k5 hm hs
      obtain ⟨_, q1⟩ := Bool.and_eq_true_iff.mp q1
      obtain ⟨e1, q1⟩ := Bool.and_eq_true_iff.mp q1
      obtain ⟨e2, q1⟩ := Bool.and_eq_true_iff.mp q1
      obtain ⟨e3, q1⟩ := Bool.and_eq_true_iff.mp q1
      obtain ⟨e4, e5⟩ := Bool.and_eq_true_iff.mp q1
      have e1 := of_decide_eq_true e1
      have e2 := of_decide_eq_true e2
      subst e1 e2
      obtain ⟨nm, bs, mro, ns, qn, hd, sn, sub, ab, col, del⟩ := cd
      dsimp only at hm e3 e4
      have e3 : del = false := by simpa using e3
      subst hm e3 e4
      have hsl : sl = #[k0, k1, k2, k3, some (.builtin "ValueError.__new__"), k5] := by
        obtain ⟨l⟩ := sl
        simp only at hs
        rw [hs]
      subst hsl
      exact ⟨nm, qn, ns, bs, bm, sn, sub, ab, col, dd, k0, k1, k2, k3, k5, ho, e5⟩
    · cases q1
  · cases q1
def clfB (K : PySem.W.Frag) (C : Addr) (m : Str) (fI : Addr) : Bool := decide (PySem.W.specialIn K (.ref C) "__getattribute__" = some (some (.builtin "type.__getattribute__"))) && (PySem.W.readsIn K C (.type "type") && ((match PySem.W.findCls K (.ref C) (.type "type") m with
  | some (.val (.ref g)) => decide (g = fI)
  | _ => false) && (PySem.W.handedIn (.ref fI) && PySem.W.keepIn K (.ref fI))))
theorem clfB_ok {K : PySem.W.Frag} {C : Addr} {m : Str} {fI : Addr} (q : clfB K C m fI = true) : ClF K C m fI := by
  unfold clfB at q
  obtain ⟨q1, q⟩ := Bool.and_eq_true_iff.mp q
  obtain ⟨q2, q⟩ := Bool.and_eq_true_iff.mp q
  obtain ⟨q3, q⟩ := Bool.and_eq_true_iff.mp q
  obtain ⟨q4, q5⟩ := Bool.and_eq_true_iff.mp q
  refine ⟨of_decide_eq_true q1, q2, ?_, q4, q5⟩
  split at q3
  · rename_i g e
    rw [e, of_decide_eq_true q3]
  · cases q3
def veB (K : PySem.W.Frag) : Bool := match PySem.W.findCls K (.type "ValueError") (.type "type") "__init__" with
  | some (.val (.builtin n)) => decide (n = "ValueError.__init__")
  | _ => false
theorem veB_ok {K : PySem.W.Frag} (q : veB K = true) : PySem.W.findCls K (.type "ValueError") (.type "type") "__init__" = some (.val (.builtin "ValueError.__init__")) := by
  unfold veB at q
  split at q
  · rename_i n e
    rw [e, of_decide_eq_true q]
  · cases q
def iniB (K : PySem.W.Frag) (C fI : Addr) : Bool := decide (PySem.W.findIn K (.ref C) "__init__" = some (some (.ref fI))) && decide (PySem.W.typeIn K (.ref fI) = some (.type "function"))
theorem iniB_ok {K : PySem.W.Frag} {C fI : Addr} (q : iniB K C fI = true) : PySem.W.findIn K (.ref C) "__init__" = some (some (.ref fI)) ∧ PySem.W.typeIn K (.ref fI) = some (.type "function") := by
  obtain ⟨q1, q2⟩ := Bool.and_eq_true_iff.mp q
  exact ⟨of_decide_eq_true q1, of_decide_eq_true q2⟩
def empB (K : PySem.W.Frag) (a : Addr) : Bool := match K.lookup a with
  | some ⟨.type c, _, .seq its _, _⟩ => decide (c = "tuple") && its.isEmpty
  | _ => false
theorem empB_ok {K : PySem.W.Frag} {a : Addr} (q : empB K a = true) : EmpT K a := by
  unfold empB at q
  split at q
  · rename_i c dd its n sl ho
    obtain ⟨q1, q2⟩ := Bool.and_eq_true_iff.mp q
    have q1 := of_decide_eq_true q1
    have q2 := Array.isEmpty_iff.mp q2
    subst q1 q2
    exact ⟨_, n, ho, rfl, rfl⟩
  · cases q
theorem fnI {P : Program} {w : World} {K : PySem.W.Frag} {mg : Str → Option Value} {base : Heap} {x qual : Str} {st : Stmt} {f : Addr} {fd : FuncData} {N ps : List Str} {k : Nat} {sp : Sp} (F : FnAt K x qual st f fd) (S : FnScope N ps (defScope st))
    (len : ∀ vs H Q E, sp vs H Q E → vs.length = ps.length)
    (h : ∀ (cdv : Value) (A : Around) (outer : List Env) (s : Shared) (H : Hp) (vs : List V) (Q : VK) (E : XK), Room k (A.deeper (envOfC qual (defScope st) s.heap.objs.size f cdv)) → sp vs H Q E →
      ∃ t, PSs (cxOf (L2.CX P w) P w K mg base N qual (defScope st) f cdv A outer s H E) (defBody st) t ∧ t { nx := fun _ H' => Q .non H', rt := Q } (L2.start N vs) H) : FnOk P w K mg base (L2.CX P w) (k + 1) f fd ps sp := by
  obtain ⟨oc, od, dV, kV, doc, pm, an, cdv, ct, osl, rfl, lk, hcd⟩ := F.ex
  exact fn_of lk hcd S len fun A outer s H vs Q E hr hsp => h cdv A outer s H vs Q E hr hsp
theorem xvP {X : Cx} {pos : Pos} (i : Nat) {x : Str} (hN : X.N[i]? = some x := by rfl) (hv : Vis X.env.scope x := by first | exact Or.inl rfl | exact Or.inr (Or.inl rfl) | exact Or.inr (Or.inr rfl)) (hd : (x == ("__debug__" : Str)) = false := by decide)
    (hcd : (x == ("__classdict__" : Str)) = false := by decide) : PE X (.Name x pos) (tVar i) := pe_var hN hv hd hcd
section
variable {K : PySem.W.Frag} {x qual : Str} {st : Stmt} {f : Addr} {fd : FuncData} {C : Addr} {m : Str} {mg : Str → Option Value}
theorem bnN {ps : List Str} {kws : List (Str × V)} (F : FunD K x qual (defArgs st) (defBody st) (defScope st) [] kws f fd)
    (h : ∀ (kV doc pm : Value) (an : Option Addr) (cdv ct : Value) (us : List Value), us.length = ps.length → bindArgs (PySem.W.fnOf x qual (defArgs st) (defBody st) (defScope st) .none kV doc pm an cdv ct) ⟨us, []⟩ = pure (ps.zip us)) : ∃ ds, Vals ([] : List V) ds ∧ Binds K fd ps ds :=
  ⟨[], .nil, FunD.bindsN F h⟩
end
def obsC (n : Nat) (fa : List He.Fa) (fn : List He.DefD) (ex : PySem.W.Frag → Bool) (g : Addr → Option Obj) : He.AlD × Bool := (He.obsD fa fn (He.frG g (He.asD g n ++ [cStatics])), ex (He.frG g (He.asD g n ++ [cStatics])))
def hookC (n : Nat) (fa : List He.Fa) (fn : List He.DefD) (ex : PySem.W.Frag → Bool) : PySem.W.Hook where
  α := He.AlD × Bool
  obs := fun s => obsC n fa fn ex s.heap.get?
  val := fun _ => (He.valD fn, true)
  says := fun _ h => ∃ K : PySem.W.Frag, K.In h ∧ He.SaysD fa fn K ∧ ex K = true
  of := fun _ _ e => ⟨_, He.frG_in, congrArg Prod.fst e, congrArg Prod.snd e⟩
  keeps := fun _ _ _ ⟨K, hK, c⟩ k => ⟨K, PySem.W.Frag.In.keeps hK k, c⟩
theorem obsC_eq {n : Nat} {fa : List He.Fa} {fn : List He.DefD} {ex : PySem.W.Frag → Bool} {g : Addr → Option Obj} {s : Shared} (h : ∀ a, g a = s.heap.get? a) : obsC n fa fn ex g = (hookC n fa fn ex).obs s := by
  have e : g = s.heap.get? := funext h
  rw [e] <;> rfl
theorem law_endX {l : PySem.W.OpenLaw} {n k : Nat} {q : Program} {loose : List Str} {XP : (Str → Option Value) → Heap → Prop} {YP : World → Heap → Prop} {d : DefRec} {x : Str}
    (hn : l.most = some n) (hn2 : n ≤ sizeLine) (hdf : d.params.defaults = []) (room : Room k callerA)
    (Fn : ∀ (w : World) (mg : Str → Option Value) (fa : Addr) (h : Heap), YP w h → h.Ns mainGlobals mg → mg d.name = some (.ref fa) →
      ∃ (K : PySem.W.Frag) (fd : FuncData) (F : List D → GH → R D), K.In h ∧ (∀ (s : Shared) (u : Value), BindsTo s fd ⟨[u], []⟩ [(x, u)]) ∧ (∀ base : Heap, K.In base → base.Ns mainGlobals mg → FnD l.prog w K mg base k fa fd [x] F) ∧
        ∀ (ns : List Int), ns.length ≤ n → (∀ i ∈ ns, Builtin.Int.intBits i ≤ 1048576) → ∃ G', F [.scr (ns.map D.int)] [] = .ok (.bl true) G') :
    PySem.W.WalkO q loose XP YP l.row.toRowW d [] (fun f vs => PySem.call f vs) := by
  refine Att.attach_callB hn hdf fun w s₀ s₁ mg mb fa o pm cd doc a vs ns G Y ho hd hcd hmg hobj hints hlen hbits hg => ?_
  obtain ⟨K, fd, F, KX, b, f, hF⟩ := Fn w mg fa _ Y G.T.g hmg
  exact law_runs KX G.T.g G.T.b G.T.builtins G.T.nolimit hg hobj hints (Nat.le_trans hlen hn2) room f b (hF ns hlen hbits)
end CF
end
section
set_option maxRecDepth 100000
set_option maxHeartbeats 2000000
namespace CF
open PySem PySem.Spec PyProof.Rows L2
def ZSt (z TI TO i1 i2 l1 l2 S : Addr) (xs ys : Array Value) (i : Nat) (h : Heap) : Prop :=
  IsPair h TI (.ref i1) (.ref i2) ∧ h.IsListIter i1 l1 i ∧ h.IsListIter i2 l2 i ∧ h.IsList l1 xs ∧ h.IsList l2 ys ∧
    ((IsZip h z TI TO .none ∧ ∃ a b, IsPair h TO a b) ∨ ∃ T f oT, IsZipHeld h z TI TO T f ∧ h.get? T = some oT ∧ T ≠ z ∧ T ≠ i1 ∧ T ≠ i2 ∧ T ≠ S)
structure ZOff (z TI TO i1 i2 l1 l2 S : Addr) : Prop where
  z : z < S
  ti : TI < S
  to : TO < S
  i1 : i1 < S
  i2 : i2 < S
  l1 : l1 < S
  l2 : l2 < S
structure ZpG (xs ys : Array Value) (lo : Addr) (h : Heap) (as : List Addr) : Prop where
  rise : as.Pairwise (· < ·)
  above : ∀ a ∈ as, lo < a
  pairs : ∀ (j : Nat) (a : Addr), as[j]? = some a → ∃ x y, xs[j]? = some x ∧ ys[j]? = some y ∧ h.get? a = some { cls := .type "tuple", data := .seq #[x, y] }
theorem ZpG.there {xs ys : Array Value} {lo : Addr} {h : Heap} {as : List Addr} (g : ZpG xs ys lo h as) {a : Addr} (ha : a ∈ as) : a < h.objs.size := by
  obtain ⟨j, hj⟩ := List.mem_iff_getElem?.mp ha
  obtain ⟨_, _, _, _, e⟩ := g.pairs j a hj
  exact Heap.lt_size e
section
variable {prog : Program} {w : World} {A : Around} {E : Value → Shared → Prop} {s : Shared} {z TI TO i1 i2 l1 l2 S : Addr} {xs ys : Array Value}
theorem ZSt.keep {i : Nat} {h h' : Heap} (O : ZOff z TI TO i1 i2 l1 l2 S) (x : ZSt z TI TO i1 i2 l1 l2 S xs ys i h) (hk : ∀ b o, b ≠ S → h.get? b = some o → h'.get? b = some o) : ZSt z TI TO i1 i2 l1 l2 S xs ys i h' := by
  obtain ⟨hTI, h1, h2, hl1, hl2, hz⟩ := x
  have n : ∀ {b : Addr}, b < S → b ≠ S := fun h => Nat.ne_of_lt h
  refine ⟨hk _ _ (n O.ti) hTI, h1.at fun o e => hk _ o (n O.i1) e, h2.at fun o e => hk _ o (n O.i2) e, hl1.at fun o e => hk _ o (n O.l1) e, hl2.at fun o e => hk _ o (n O.l2) e, ?_⟩
  rcases hz with ⟨hz, a, b, hTO⟩ | ⟨T, f, oT, hz, hT, r1, r2, r3, r4⟩
  · exact .inl ⟨hk _ _ (n O.z) hz, a, b, hk _ _ (n O.to) hTO⟩
  · exact .inr ⟨T, f, oT, hk _ _ (n O.z) hz, hk _ _ r4 hT, r1, r2, r3, r4⟩
end
end CF
end
section
set_option maxRecDepth 100000
set_option maxHeartbeats 1000000
namespace CF
open PySem PySem.Spec PySem.SeqAt PySem.W PyProof.Rows L2 SeqAt
def TabH (H : Hp) (P : Addr) (q : Str) (ps : Array Value) : Prop :=
  H P = some (.tbl ps) ∧ TriplesOk ps.toList ∧ ∀ (pos : Pos) (cv : Value), codeAmong pos ps.toList = some cv → ∃ c, cv = .ref c ∧ H c = some (codO c q)
def TabStep (H : Hp) (P : Addr) (q : Str) (ps : Array Value) (H1 : Hp) : Prop :=
  H1 = H ∨ ∃ (c : Addr) (more : Array Value), H c = none ∧ H1 = upd (upd H P (.tbl (ps ++ more))) c (codO c q) ∧ TriplesOk (ps ++ more).toList ∧
    ∀ (pos : Pos) (cv : Value), codeAmong pos (ps ++ more).toList = some cv → codeAmong pos ps.toList = some cv ∨ cv = .ref c
theorem TabStep.keeps {H H1 : Hp} {P : Addr} {q : Str} {ps : Array Value} (t : TabStep H P q ps H1) (hP : H P = some (.tbl ps)) : ∀ b o, H b = some o → b ≠ P → H1 b = some o := fun b o e n => by
  rcases t with rfl | ⟨c, more, e1, rfl, _, _⟩
  · exact e
  · rw [upd_ne (ne_of_none e e1), upd_ne n]
    exact e
end CF
end
section
set_option maxRecDepth 100000
set_option maxHeartbeats 1000000
namespace CF
open PySem PySem.Spec PySem.SeqAt PySem.W PyProof.Rows L2 SeqAt
section
variable {X : Cx} {pins : List (Addr × Obj)} {σ : St} {H : Hp} {s : Shared}
theorem HR.tab {K : PySem.W.Frag} {L : Lk} {G : GH} {H H1 : Hp} {n : Nat} {P : Addr} {q : Str} {ps : Array Value} (hr : HR K L G H) (hn : G[n]? = some (.tab P q)) (hP : L.r[n]? = some P) (T : TabH H P q ps) (hZ : ∀ (pos : Pos) (cv : Value), codeAmong pos ps.toList = some cv → ∃ c, cv = .ref c ∧ L.Z c = some (codO c q)) (t : TabStep H P q ps H1) : ∃ L', L.le L' ∧ HR K L' G H1 := by
  rcases t with rfl | ⟨c, more, e1, rfl, h1, h2⟩
  · exact ⟨L, .refl L, hr⟩
  · have hcP : c ≠ P := fun z => by rw [z, T.1] at e1; cases e1
    have hr1 := hr.put (o := codO c q) e1
    have le := Lk.le_put (o := codO c q) (hr.zfree e1)
    have hs := hr1.set (n := n) (p := P) (o := .tbl (ps ++ more)) (c := .tab P q) hP (.tab upd_same h1 fun pos cv hc => by
      rcases h2 pos cv hc with z | z
      · obtain ⟨c0, q1, q2⟩ := hZ pos cv z
        exact ⟨c0, q1, le.z _ _ q2⟩
      · exact ⟨c, z, upd_same⟩)
    have eG : G.set n (.tab P q) = G := by
      apply List.ext_getElem?
      intro i
      by_cases hi : n = i
      · subst hi
        rw [List.getElem?_set_self (List.getElem?_eq_some_iff.mp hn).1, hn]
      · rw [List.getElem?_set_ne hi]
    rw [eG] at hs
    have eH : upd (upd H c (codO c q)) P (.tbl (ps ++ more)) = upd (upd H P (.tbl (ps ++ more))) c (codO c q) := by
      funext b
      by_cases hb : b = P
      · subst hb; rw [upd_same, upd_ne hcP.symm, upd_same]
      · by_cases hb2 : b = c
        · subst hb2; rw [upd_ne hb, upd_same, upd_same]
        · rw [upd_ne hb, upd_ne hb2, upd_ne hb2, upd_ne hb]
    rw [eH] at hs
    exact ⟨_, le, hs⟩
end
end CF
end
section
set_option maxRecDepth 100000
set_option maxHeartbeats 1000000
namespace CF
open PySem PySem.Spec PyProof.Rows L2
theorem Reps.rep {K : PySem.W.Frag} {Z : Hp} {r : List Addr} {ds : List D} {vs : List V} (h : Reps K Z r ds vs) : ∀ n : Nat, Reps K Z r (List.replicate n ds).flatten (List.replicate n vs).flatten
  | 0 => .nil
  | n + 1 => by
    rw [List.replicate_succ, List.replicate_succ, List.flatten_cons, List.flatten_cons]
    exact h.append (h.rep n)
end CF
end
section
set_option maxRecDepth 100000
set_option maxHeartbeats 2000000
namespace CF
open PySem PySem.Spec PyProof.Rows L2
def KRel (T : Addr → List V → Prop) (p : List Key × V) (q : List Key × Addr × Value) : Prop := p.1 = q.1 ∧ T q.2.1 (p.1.map kV) ∧ RelV p.2 q.2.2
structure DxAt (K : PySem.W.Frag) (H : Hp) (pw : Program × World) (a : Addr) (o : Obj) (kvs : List (List Key × V)) : Prop where
  here : H a = some (DXo a o)
  len : kvs.length ≤ sizeLine
  sys : (a == sysModules) = false
  ex : o.ExactDict
  ent : ∃ es ep xs, o.data = .dict es ep ∧ es.toList = xs.map (entryOfKey (tupleKind (mixKind pw.1 pw.2))) ∧ (xs.map (·.1)).Nodup ∧ Paired (KRel (SqT K H)) kvs xs
structure DxT (T : Addr → List V → Prop) (pw : Program × World) (a : Addr) (o : Obj) (kvs : List (List Key × V)) : Prop where
  len : kvs.length ≤ sizeLine
  sys : (a == sysModules) = false
  ex : o.ExactDict
  ent : ∃ es ep xs, o.data = .dict es ep ∧ es.toList = xs.map (entryOfKey (tupleKind (mixKind pw.1 pw.2))) ∧ (xs.map (·.1)).Nodup ∧ Paired (KRel T) kvs xs
theorem krel_mono {T T' : Addr → List V → Prop} (h : ∀ a ys, T a ys → T' a ys) {kvs : List (List Key × V)} {xs : List (List Key × Addr × Value)} (r : Paired (KRel T) kvs xs) : Paired (KRel T') kvs xs :=
  Paired.mapP r fun _ _ z => ⟨z.1, h _ _ z.2.1, z.2.2⟩
theorem DxT.mono {T T' : Addr → List V → Prop} (h : ∀ a ys, T a ys → T' a ys) {pw : Program × World} {a : Addr} {o : Obj} {kvs : List (List Key × V)} (g : DxT T pw a o kvs) : DxT T' pw a o kvs :=
  ⟨g.len, g.sys, g.ex, let ⟨es, ep, xs, h1, h2, h3, h4⟩ := g.ent; ⟨es, ep, xs, h1, h2, h3, krel_mono h h4⟩⟩
theorem DxT.at_ {K : PySem.W.Frag} {H : Hp} {pw : Program × World} {a : Addr} {o : Obj} {kvs : List (List Key × V)} (g : DxT (SqT K H) pw a o kvs) (h : H a = some (DXo a o)) : DxAt K H pw a o kvs := ⟨h, g.len, g.sys, g.ex, g.ent⟩
theorem _root_.CF.DXat.t {K : PySem.W.Frag} {Z : Hp} {pw : Program × World} {a : Addr} {o : Obj} {kvs : List (List Key × V)} (g : DXat K Z pw a o kvs) : DxT (TupAt K Z) pw a o kvs := ⟨g.len, g.sys, g.ex, g.ent⟩
theorem DxT.x {K : PySem.W.Frag} {Z : Hp} {pw : Program × World} {a : Addr} {o : Obj} {kvs : List (List Key × V)} (g : DxT (TupAt K Z) pw a o kvs) : DXat K Z pw a o kvs := ⟨g.len, g.sys, g.ex, g.ent⟩
theorem krel_get {T : Addr → List V → Prop} : ∀ {kvs : List (List Key × V)} {xs : List (List Key × Addr × Value)} {i : Nat} {p : List Key × V}, Paired (KRel T) kvs xs → kvs[i]? = some p → ∃ q, xs[i]? = some q ∧ KRel T p q
  | _, _, _, _, .nil, e => by simp at e
  | _, _, 0, _, .cons x t, e => by simp at e; subst e; exact ⟨_, rfl, x⟩
  | _, _, i + 1, p, .cons x t, e => by
    obtain ⟨q, h1, h2⟩ := krel_get (i := i) (p := p) t (by simpa using e)
    exact ⟨q, by simpa using h1, h2⟩
section
variable {X : Cx} {pins : List (Addr × Obj)} {σ : St} {H : Hp} {s : Shared} {a b : Addr} {o : Obj} {kvs : List (List Key × V)} {k : List Key}
theorem DxAt.obj (g : DxAt X.K H (X.prog, X.w) a o kvs) (I : Inv X pins σ H s) : s.heap.get? a = some o := (show ObjOk X.prog X.w H s.heap a (DXo a o) from I.hok a _ g.here).1
theorem tupKeyX (I : Inv X pins σ H s) (h : SqT X.K H b (k.map kV)) : (tupleKind (mixKind X.prog X.w)).is s.heap k b := by
  obtain ⟨its, r, ⟨ot, e, c, n, d⟩, z⟩ := I.tuple h
  exact ⟨ot, its.toArray, n, e, c, d, by simpa using items_are r⟩
theorem DxAt.dict (g : DxAt X.K H (X.prog, X.w) a o kvs) (I : Inv X pins σ H s) : ∃ xs, Paired (KRel (SqT X.K H)) kvs xs ∧ s.heap.DictOfH (tupleKind (mixKind X.prog X.w)) a xs := by
  obtain ⟨es, ep, xs, h1, h2, h3, h4⟩ := g.ent
  refine ⟨xs, h4, o, es, ep, g.obj I, g.ex, h1, h2, fun x hx => ?_, h3⟩
  have all : ∀ {l : List (List Key × V)} {m : List (List Key × Addr × Value)}, Paired (KRel (SqT X.K H)) l m → ∀ x ∈ m, (tupleKind (mixKind X.prog X.w)).is s.heap x.1 x.2.1 := by
    intro l m q
    induction q with
    | nil => intro x hx; cases hx
    | @cons p q _ _ hq _ ih =>
      intro x hx
      rcases List.mem_cons.mp hx with rfl | hx
      · have := tupKeyX I hq.2.1
        rw [hq.1] at this
        exact this
      · exact ih x hx
  exact all h4 x hx
end
end CF
end
section
set_option maxRecDepth 100000
set_option maxHeartbeats 2000000
namespace CF
open PySem PySem.Spec PyProof.Rows L2
def KeyAdrs (o : Obj) (bs : List Addr) : Prop := ∃ es ep, o.data = .dict es ep ∧ es.toList.map (·.key) = bs.map Value.ref
theorem KeyAdrs.of {pw : Program × World} {o : Obj} {es : Array DictEntry} {ep : Nat} {xs : List (List Key × Addr × Value)} (h1 : o.data = .dict es ep) (h2 : es.toList = xs.map (entryOfKey (tupleKind (mixKind pw.1 pw.2)))) : KeyAdrs o (xs.map fun x => x.2.1) :=
  ⟨es, ep, h1, by rw [h2, List.map_map, List.map_map]; rfl⟩
theorem ref_inj : ∀ {as bs : List Addr}, as.map Value.ref = bs.map Value.ref → as = bs
  | [], [], _ => rfl
  | [], _ :: _, h => by simp at h
  | _ :: _, [], h => by simp at h
  | a :: as, b :: bs, h => by
    simp only [List.map_cons, List.cons.injEq] at h
    cases h.1
    rw [ref_inj h.2]
theorem KeyAdrs.inj {o : Obj} {as bs : List Addr} (h : KeyAdrs o as) (k : KeyAdrs o bs) : as = bs := by
  obtain ⟨es, ep, h1, h2⟩ := h
  obtain ⟨es', ep', k1, k2⟩ := k
  rw [h1] at k1
  cases k1
  exact ref_inj (h2.symm.trans k2)
end CF
end
section
set_option maxRecDepth 100000
set_option maxHeartbeats 2000000
namespace CF
open PySem PySem.Spec PyProof.Rows L2
abbrev PW := Program × World
def keysTD : List D → Option (List Key)
  | [] => some []
  | d :: r => match keyD d, keysTD r with
    | some k, some ks => some (k :: ks)
    | _, _ => none
def keyT : D → Option (List Key)
  | .tup ds => keysTD ds
  | _ => none
@[simp] theorem keyT_tup (ds : List D) : keyT (.tup ds) = keysTD ds := rfl
section
variable {K : PySem.W.Frag} {L : Lk} {G : GH} {H : Hp} {d : D} {v : V} {pw : PW}
theorem DXat.at_ {kvs : List (List Key × V)} {a : Addr} {o : Obj} (g : DXat K L.Z pw a o kvs) (hr : HR K L G H) (h : H a = some (DXo a o)) : DxAt K H pw a o kvs := (g.t.mono fun _ _ z => tupAt_sq hr z).at_ h
end
def eDict0X (pw : PW) : FE := fun _ G => .ok (.ref G.length) (G ++ [.dT pw none []])
open Classical in
noncomputable def putX (pw : PW) (G : GH) (o i d : D) : Option GH := match o with
  | .ref n => (match G[n]? with
    | some (.dT p none kds) => if p = pw ∧ kds.length < sizeLine then (keyT i).map fun k => G.set n (.dT pw none (putD kds k d)) else none
    | _ => none)
  | _ => none
noncomputable def sPutX (pw : PW) (fo fi f : FE) : FS := fun δ G => (f δ G).thn δ fun d G1 => (fo δ G1).thn δ fun o G2 => (fi δ G2).thn δ fun i G3 => match putX pw G3 o i d with
  | some G4 => .nx δ G4
  | none => .no
open Classical in
noncomputable def itsX (pw : PW) (G : GH) : D → Option Its
  | .dT p kds => if p = pw then some ⟨kds.map fun q => .tup (q.1.map kD), fun _ => true⟩ else none
  | .ref n => match G[n]? with
    | some (.dT p (some o) kds) => if p = pw then some ⟨kds.map fun q => .tup (q.1.map kD), fun G' => decide (G'[n]? = some (.dT p (some o) kds))⟩ else none
    | _ => none
  | _ => none
noncomputable def iKyX (pw : PW) (f : FE) : FI := fun δ G => (f δ G).bind fun x G1 => match itsX pw G1 x with
  | some it => .ok it G1
  | none => .no
section
variable {X : Cx} {W : WX} {tg : Expr}
theorem kD_repsT {K : PySem.W.Frag} {Z : Hp} {r : List Addr} : ∀ k : List Key, Reps K Z r (k.map kD) (k.map kV)
  | [] => .nil
  | k :: ks => .cons (kD_rep k) (kD_repsT ks)
theorem DXat.key {K : PySem.W.Frag} {L : Lk} {pw : PW} {a : Addr} {o : Obj} {kvs : List (List Key × V)} {kds : List (List Key × D)} (g : DXat K L.Z pw a o kvs) (hk : kds.map (·.1) = kvs.map (·.1)) {i : Nat} {x : D} (e : (kds.map fun q => D.tup (q.1.map kD))[i]? = some x)
    {q : List Key × Addr × Value} {es : Array DictEntry} {ep : Nat} {xs : List (List Key × Addr × Value)} (h1 : o.data = .dict es ep) (h2 : es.toList = xs.map (entryOfKey (tupleKind (mixKind pw.1 pw.2)))) (hq : xs[i]? = some q) : Rep K L.Z L.r x (.ref q.2.1) := by
  obtain ⟨es', ep', xs', g1, g2, g3, rel⟩ := g.ent
  rw [h1] at g1
  cases g1
  have e2 : (kvs.map (·.1))[i]?.map (fun k => D.tup (k.map kD)) = some x := by rw [← hk, ← List.getElem?_map, List.map_map]; exact e
  cases z : kvs[i]? with
  | none => rw [List.getElem?_map, z] at e2; cases e2
  | some kv =>
    rw [List.getElem?_map, z] at e2
    cases e2
    obtain ⟨q', hq', kr⟩ := krel_get rel z
    have ek : (es.toList.map (·.key))[i]? = some (.ref q.2.1) := by rw [h2, List.map_map, List.getElem?_map, hq]; rfl
    have ek' : (es.toList.map (·.key))[i]? = some (.ref q'.2.1) := by rw [g2, List.map_map, List.getElem?_map, hq']; rfl
    rw [ek] at ek'
    have : q.2.1 = q'.2.1 := by injection ek' with ek'; injection ek'
    rw [this]
    exact .tup kr.2.1 (kD_repsT _)
end
end CF
end
section
set_option maxRecDepth 100000
set_option maxHeartbeats 2000000
namespace CF
open PySem PySem.Spec PyProof.Rows L2
def keysOfX (kds : List (List Key × D)) : List D := kds.map fun q => D.tup (q.1.map kD)
section
variable {X : Cx} {mk : List D → GH → R D}
theorem DXat.keys {K : PySem.W.Frag} {L : Lk} {pw : PW} {a : Addr} {o : Obj} {kvs : List (List Key × V)} {kds : List (List Key × D)} (g : DXat K L.Z pw a o kvs) (hk : kds.map (·.1) = kvs.map (·.1)) :
    ∃ as, KeyAdrs o as ∧ Reps K L.Z L.r (keysOfX kds) (as.map V.ref) := by
  obtain ⟨es, ep, xs, g1, g2, g3, rel⟩ := g.ent
  refine ⟨_, KeyAdrs.of (pw := pw) g1 g2, ?_⟩
  have e : keysOfX kds = kvs.map fun q => D.tup (q.1.map kD) := by
    have h1 : keysOfX kds = (kds.map (·.1)).map fun k => D.tup (k.map kD) := by unfold keysOfX; rw [List.map_map]; rfl
    rw [h1, hk, List.map_map]
    rfl
  rw [e]
  have all : ∀ {l : List (List Key × V)} {m : List (List Key × Addr × Value)}, Paired (KRel (TupAt K L.Z)) l m → Reps K L.Z L.r (l.map fun q => D.tup (q.1.map kD)) ((m.map fun x => x.2.1).map V.ref) := by
    intro l m q
    induction q with
    | nil => exact .nil
    | @cons p q _ _ hq _ ih => exact .cons (.tup hq.2.1 (kD_repsT _)) ih
  exact all rel
end
def eDispP : List (Str × FE) → DEnv → GH → R (List (Key × D))
  | [], _, G => .ok [] G
  | (x, f) :: r, δ, G => (f δ G).bind fun d G1 => (eDispP r δ G1).bind fun ds G2 => .ok ((.inr x, d) :: ds) G2
inductive xPs (X : Cx) (W : WX) : List (Option Expr) → List Expr → List (Str × FE) → Prop
  | nil : xPs X W [] [] []
  | cons {x : Str} {j : Nat} {p : Pos} {ks : List (Option Expr)} {v : Expr} {vs : List Expr} {f : FE} {r : List (Str × FE)} : xE X W v f → xPs X W ks vs r → xPs X W (some (.Constant (.str x) j p) :: ks) (v :: vs) ((x, f) :: r)
def repP (K : PySem.W.Frag) : Lk → List (Key × D) → List (Key × V) → Prop := fun L d v => KR K L.Z L.r d v
section
variable {X : Cx} {W : WX} {pos : Pos}
theorem xPs.imp {ks : List (Option Expr)} {vs : List Expr} {ps : List (Str × FE)} (h : xPs X W ks vs ps) : ∃ trs, (∀ pos, PPs X pos ks vs trs) ∧ ks.all (·.isSome) = true ∧ ks.length = vs.length ∧ ks.length = ps.length ∧
    ∀ (σ : St) (H : Hp) (N : List (V × V) → Hp → Prop) (L : Lk) (δ : DEnv) (G : GH), HR X.K L G H → ER X.K L δ σ → Sat X.K W L σ (repP X.K) (eDispP ps δ G) (fun kvs H' => N (kvs.map fun kv => (kV kv.1, kv.2)) H') → tPairs trs σ H N := by
  induction h with
  | nil => exact ⟨[], fun _ => pps_nil, rfl, rfl, rfl, fun σ H N L δ G hr er q => q L H [] (.refl L) hr .nil⟩
  | @cons x j p ks v vs f r hv _ ih =>
    obtain ⟨trs, h1, h2, h3, h5, h4⟩ := ih
    refine ⟨(_, _) :: trs, fun pos => pps_cons (pe_str (x := x)) hv (h1 pos), by simpa using h2, by simp [h3], by simp [h5], fun σ H N L δ G hr er q => ?_⟩
    have q' : Sat X.K W L σ (repP X.K) ((f δ G).bind fun d G1 => (eDispP r δ G1).bind fun ds G2 => .ok ((.inr x, d) :: ds) G2) (fun kvs H' => N (kvs.map fun kv => (kV kv.1, kv.2)) H') := q
    refine Sat.bind (rep := repD X.K) (rep' := repP X.K) hr er q' fun L1 G1 H1 d u le hr1 er1 rd q1 => ?_
    refine h4 σ H1 _ L1 δ G1 hr1 er1 ?_
    cases e : eDispP r δ G1 with
    | no => rw [e] at q1; exact q1.elim
    | ex x G2 => rw [e] at q1; exact q1
    | ok ds G2 =>
      rw [e] at q1
      intro L2 H2 us le2 hr2 rds
      exact q1 L2 H2 ((.inr x, u) :: us) le2 hr2 (.cons (Rep.mono le2 rd) rds)
end
end CF
end
section
set_option maxRecDepth 100000
set_option maxHeartbeats 2000000
namespace CF
open PySem PySem.Spec PyProof.Rows L2
section
variable {δ : DEnv} {G : GH}
theorem w_sPutX {nx : DEnv → GH → Prop} {rt : D → GH → Prop} {bk ct : DEnv → GH → Prop} {ex : Ex → DEnv → GH → Prop} (pw : PW) (fo fi f : FE) : (sPutX pw fo fi f δ G).wp nx rt bk ct ex = ((f δ G).thn δ fun d G1 => (fo δ G1).thn δ fun o G2 => (fi δ G2).thn δ fun i G3 => match putX pw G3 o i d with | some G4 => .nx δ G4 | none => .no).wp nx rt bk ct ex := rfl
theorem w_eDict0X {Q : D → GH → Prop} {E : Ex → GH → Prop} (pw : PW) : (eDict0X pw δ G).wp Q E = Q (.ref G.length) (G ++ [.dT pw none []]) := rfl
theorem w_iKyX {Q : Its → GH → Prop} {E : Ex → GH → Prop} (pw : PW) (f : FE) : (iKyX pw f δ G).wp Q E = ((f δ G).bind fun x G1 => match itsX pw G1 x with | some it => .ok it G1 | none => .no).wp Q E := rfl
end
theorem itsX_dT (pw : PW) (G : GH) (kds : List (List Key × D)) : itsX pw G (.dT pw kds) = some ⟨keysOfX kds, fun _ => true⟩ := by
  unfold itsX; dsimp only; rw [if_pos rfl]; rfl
end CF
end
section
set_option maxRecDepth 100000
set_option maxHeartbeats 2000000
namespace CF
open PySem PySem.Spec PyProof.Rows L2
def exFlds : List Str := ["why", "path", "limit", "found", "at", "line", "writer"]
structure ClsX (K : PySem.W.Frag) (C : Addr) : Prop where
  ex : ExcC K C
  xf : XfC K C
  no : ∀ f ∈ exFlds, PySem.W.findIn K (.ref C) f = some none
def clsXB (K : PySem.W.Frag) (D : Addr) : Bool := decide (PySem.W.findIn K (.ref D) "__getattribute__" = some (some (.builtin "BaseException.__getattribute__"))) && (decide (PySem.W.findIn K (.ref D) "__getattr__" = some none) &&
  (decide (PySem.W.subIn K (.ref D) (.type "BaseException") = some true) && (PySem.W.hasDictIn K D && (decide (PySem.W.findIn K (.ref D) "__class__" = some (some (.builtin "object.__class__"))) &&
  (decide (PySem.W.specialIn K (.builtin "object.__class__") "__get__" = some (some (.builtin "getset_descriptor.__get__"))) && (decide (PySem.W.takesIn K (.builtin "object.__class__") = some true) &&
  (decide (PySem.W.mroIn K D (.type "object") = some true) && exFlds.all fun f => decide (PySem.W.findIn K (.ref D) f = some none))))))))
theorem clsXB_ok {K : PySem.W.Frag} {D : Addr} (q : clsXB K D = true) : ClsX K D := by
  unfold clsXB at q
  simp only [Bool.and_eq_true, decide_eq_true_eq, List.all_eq_true] at q
  obtain ⟨q1, q2, q3, q4, q5, q6, q7, q8, q9⟩ := q
  exact ⟨⟨q1, q2, q3, q4, q5, q6, q7, q8⟩, ⟨q1, q2, q3, q4⟩, q9⟩
def kitK (K : PySem.W.Frag) (C D : Addr) : Option Bool := PySem.W.kitOne K (.ref C) (.ref D)
def kitB (K : PySem.W.Frag) (C D : Addr) (b : Bool) : Bool := decide (kitK K C D = some b)
theorem kitB_ok {K : PySem.W.Frag} {C D : Addr} {b : Bool} (h : kitB K C D b = true) : kitK K C D = some b := of_decide_eq_true h
theorem roomS {k : Nat} {A : Around} {x : Option Value} (r : Room k A) : L2H.RoomH k (A.mark x) := ⟨r.dp, r.un⟩
theorem unitsH {k : Nat} {A : Around} (r : L2H.RoomH k A) : A.units + 64 < cLine := by have := r.un; omega
theorem hu1H {k : Nat} {A : Around} (r : L2H.RoomH k A) : A.units + 1 < cLine := by have := r.un; omega
structure FnDH (P : Program) (w : World) (K : PySem.W.Frag) (mg : Str → Option Value) (base : Heap) (k : Nat) (f : Addr) (fd : FuncData) (ps : List Str) (F : Addr → Addr → Addr → List D → GH → R D) : Prop where
  go : ∀ (B : Around) (up : List Env) (s : Shared) (H : Hp) (ar : Args) (us : List Value) (vs : List V) (Q : VK) (E : XK) (a d C : Addr) (oe : Obj), L2H.RoomH k B → B.guards = some [] → L2H.PinOk up H s (a, oe) → Zc (.ref C) (some d) oe → (∃ vs, oe.data = .fields vs) → ClsX K C →
    Env0 P w K mg base B up s H → BindsTo s fd ar (ps.zip us) → Vals vs us → spD K ps.length (F a d C) vs H Q E → codeAny (model P w) B (.call (.ref f) ar) (CR (L2.CX P w) up P w H s Q E) s
section
variable {P : Program} {w : World} {K : PySem.W.Frag} {mg : Str → Option Value} {base : Heap}
theorem fnDH {x qual : Str} {st : Stmt} {f : Addr} {fd : FuncData} {N ps : List Str} {k : Nat} {fb : Addr → Addr → Addr → FS} (F : FnAt K x qual st f fd) (S : FnScope N ps (defScope st))
    (h : ∀ (cdv : Value) (A : Around) (outer : List Env) (s : Shared) (H : Hp) (E : XK) (a d C : Addr) (oe : Obj), L2H.RoomH k (A.deeper (envOfC qual (defScope st) s.heap.objs.size f cdv)) → A.guards = some [] → Zc (.ref C) (some d) oe → (∃ vs, oe.data = .fields vs) → ClsX K C →
      xSs (L2H.cxH (L2.CX P w) P w K mg base N qual (defScope st) f cdv A outer s H E (a, oe)) (wE E) (defBody st) (fb a d C)) : FnDH P w K mg base (k + 1) f fd ps (fun a d C => defF N (fb a d C)) := by
  obtain ⟨oc, od, dV, kV, doc, pm, an, cdv, ct, osl, rfl, lk, hcd⟩ := F.ex
  refine ⟨fun B up s H ar us vs Q E a d C oe room gd pin hz hf hC e0 bnd rel prom => ?_⟩
  obtain ⟨nv, L, ds, G, hr0, rd, q⟩ := prom
  have KI : K.In s.heap := e0.mod.kin.keeps fun b o z => (e0.bs b o z).1
  have NL : s.heap.NoLimit := e0.mod.nolimit.keeps fun b o z => (e0.bs b o z).1
  refine codeAny_call_function room.depth (KI _ _ lk) rfl S.co S.gen rfl (PySem.W.codeRec_of KI hcd) (bnd _ _ _ _ ?_)
  refine wpAny_newFunctionEnv_cells S.kind (fun ⟨nm, _⟩ hy => (S.par nm (List.of_mem_zip hy).1).imp id fun z => ⟨z, PySem.W.cellsFrom_some _ _ _ (.inl z)⟩) fun env ee s1 inC => ?_
  subst ee
  refine ⟨NL.keeps inC.toInCall.keep, codeAny_func ?_⟩
  have I : Inv (L2H.cxH (L2.CX P w) P w K mg base N qual (defScope st) f cdv B up s H E (a, oe)) [] (L2.start N vs) H s1 := L2H.inv_startH S pin e0 nv rel inC
  have body := h cdv B up s H E a d C oe (room.deeper _) gd hz hf hC
  have qs : tS K (wE E) (fb a d C) { nx := fun _ H' => Q .non H', rt := Q } (L2.start N vs) H := by
    refine ⟨L, startD N ds, G, hr0, er_start rd, ?_⟩
    have q' : Sat K (fun c dx _ H' => E c dx H') L [] (repD K) (defF N (fb a d C) ds G) Q := q
    unfold defF at q'
    cases e : fb a d C (startD N ds) G with
    | nx δ G' => rw [e] at q'; exact fun L' σ' H' le hr2 _ => q' L' H' .non le hr2 .non
    | rt d G' => rw [e] at q'; exact q'
    | ex x δ G' => rw [e] at q'; exact fun L' σ' H' c dx le hr2 _ xr => q' L' H' c dx le hr2 xr
    | bk δ G' => rw [e] at q'; exact q'.elim
    | ct δ G' => rw [e] at q'; exact q'.elim
    | no => rw [e] at q'; exact q'.elim
  refine wpAny_mono (body.run [] s1 (L2.start N vs) H _ I qs) (fun fl s' z => ?_) fun _ _ z => z
  cases fl with
  | ret u =>
    obtain ⟨v, _, H', J, rv, z⟩ := z
    exact ⟨v, H', J.os, J.bare, J.base, J.hok, rv, z⟩
  | next =>
    obtain ⟨_, H', J, z⟩ := z
    exact ⟨.non, H', J.os, J.bare, J.base, J.hok, rfl, z⟩
  | brk => obtain ⟨_, _, _, z⟩ := z; exact z.elim
  | cont => obtain ⟨_, _, _, z⟩ := z; exact z.elim
end
theorem FnDH.mono {P : Program} {w : World} {K : PySem.W.Frag} {mg : Str → Option Value} {base : Heap} {j k : Nat} {f : Addr} {fd : FuncData} {ps : List Str} {F : Addr → Addr → Addr → List D → GH → R D} (h : FnDH P w K mg base j f fd ps F) (i : j ≤ k) : FnDH P w K mg base k f fd ps F :=
  ⟨fun B up s H ar us vs Q E a d C oe room gd pin hz hf hC e0 bnd rel pr => h.go B up s H ar us vs Q E a d C oe ⟨by have := room.dp; omega, by have := room.un; omega⟩ gd pin hz hf hC e0 bnd rel pr⟩
section
variable {X : Cx} {W : WX} {pos p : Pos}
theorem xe_callH {k : Nat} {f : Addr} {fd : FuncData} {ps : List Str} {F : Addr → Addr → Addr → List D → GH → R D} {dvs : List V} {dds : List D} {x : Str} {e : Expr} {es : List Expr} {g : FA} {a d C : Addr} {oe : Obj} {n : Nat} (tk : Takes X W)
    (hr : L2H.RoomH k X.A) (hgd : X.A.guards = some []) (hp : (a, oe) ∈ X.pn) (hz : Zc (.ref C) (some d) oe) (hf : ∃ vs, oe.data = .fields vs) (hC : ClsX X.K C) (T : Tx X.K X.mg x ps dvs f fd) (Fn : FnDH X.prog X.w X.K X.mg X.base k f fd ps F) (rd : ∀ L : Lk, Reps X.K L.Z L.r dds dvs) (hn : ps.length = n)
    (ha : xA X W (e :: es) g) (hg : Gl X x := by rfl) (hdb : (x == ("__debug__" : Str)) = false := by decide) (he : starEach (e :: es) X.env = (false, eval e X.env) :: starEach es X.env := by rfl) (hpl : (backTo pos (starEach es X.env)).any (·.1) = false := by rfl) :
    xE X W (.Call (.Name x p) (e :: es) [] pos) (eCall n (F a d C) dds g) := by
  subst hn
  obtain ⟨ds, hd, hb⟩ := T.b
  refine ⟨fun pins s σ H Q I h => wpAny_Call_Name_kw (ld_glob I hg T.g ?_ hdb)⟩
  obtain ⟨L, δ, G, hr', er, q⟩ := h
  refine PySem.W.callWith_K (h₀ := X.base) I.ok.mod.kin T.k (thn (ha.run pos pins s σ H (fun vs H1 => spD X.K ps.length (F a d C) (vs ++ dvs) H1 Q (fun c d H => W c d σ H)) I
    (Sat.bind (rep' := repD X.K) hr' er q fun L1 G1 H1 as vs le hr1 er1 ra q1 => by
      have t : Reps X.K L1.Z L1.r (as ++ dds) (vs ++ dvs) := Reps.append ra (rd L1)
      by_cases hl : (as ++ dds).length = ps.length
      · rw [if_pos hl] at q1
        exact ⟨by rw [← t.length]; exact hl, L1, as ++ dds, G1, hr1, t, Sat.w q1 fun _ _ _ h => h⟩
      · rw [if_neg hl] at q1; exact q1.elim)) fun us s1 ⟨vs, H1, I1, r, pr⟩ => ⟨I1.kIn, ?_⟩) he hpl
  have rall : Vals (vs ++ dvs) (us ++ ds) := r.append hd
  have hl : (us ++ ds).length = ps.length := by rw [← rall.length]; exact pr.1
  have P1 := I1.pin (a, oe) (List.mem_append_left _ hp)
  have pin : L2H.PinOk X.stack H1 s1 (a, oe) := ⟨P1.1, P1.2.1, fun hm => (List.mem_cons.mp (I1.stkSub a hm)).elim P1.2.2.1 P1.2.2.2.1, P1.2.2.2.2⟩
  refine wpAny_call (codeAny_mono (Fn.go X.A X.stack s1 H1 ⟨us, []⟩ (us ++ ds) (vs ++ dvs) Q _ a d C oe hr hgd pin hz hf hC I1.env0 (hb s1 us I1.kIn hl) rall pr) fun out s' z => ?_)
  match out, z with
  | .error e, z => exact passAt tk σ pins H1 s1 e s' I1 z
  | .ok (.ret u), z => exact I1.after z
  | .ok .next, z => exact False.elim z
  | .ok .brk, z => exact False.elim z
  | .ok .cont, z => exact False.elim z
end
section
variable {X : Cx}
def rCountB (K : PySem.W.Frag) : V → List V → Hp → VK → Prop := fun x xs H Q => ∃ (a : Addr) (bs : List Bool) (k : Bool), x = V.ref a ∧ xs = [.bl k] ∧ SqL K H a (bs.map V.bl) ∧ Q (.int ((bs.count k : Nat) : Int)) H
theorem countIn_bools (k : Bool) : ∀ bs : List Bool, countIn (.bool k) (bs.map PyData.bool) = ((bs.count k : Nat) : Int)
  | [] => rfl
  | b :: bs => by
    rw [List.map_cons, countIn, countIn_bools k bs, List.count_cons]
    simp only [same]
    cases b <;> cases k <;> simp <;> omega
theorem reads_bools {h : Heap} : ∀ {bs : List Bool} {us : List Value}, Vals (bs.map V.bl) us → ∃ as, ReadsAll h us (bs.map PyData.bool) as
  | [], _, .nil => ⟨_, .nil⟩
  | b :: bs, _, .cons r t => by
    obtain ⟨as, k⟩ := reads_bools (h := h) t
    cases r
    exact ⟨_, .cons (.bool b) k⟩
theorem mt_countB : MtR X "list.count" (rCountB X.K) := by
  intro pins s σ H x xs v us Q I rx rxs h
  obtain ⟨a, bs, k, rfl, rfl, hs, q⟩ := h
  cases rx
  cases rxs with
  | cons ry rt =>
    rename_i uy ut
    cases rt
    cases ry
    obtain ⟨its, rv, hl, hlen⟩ := I.list hs
    obtain ⟨as, ra⟩ := reads_bools (h := s.heap) rv
    refine count_list_bools (xs := bs.map PyData.bool) hl.isList ra ?_ ?_
    · rw [List.all_eq_true]
      intro d hd
      obtain ⟨b, _, rfl⟩ := List.mem_map.mp hd
      rfl
    · rw [countIn_bools]
      exact ⟨.int (bs.count k : Nat), H, I.tok _, ⟨_, rfl⟩, q⟩
def boolsOf : List D → Option (List Bool)
  | [] => some []
  | .bl b :: r => match boolsOf r with
    | some bs => some (b :: bs)
    | none => none
  | _ :: _ => none
theorem bools_rep {K : PySem.W.Frag} {Z : Hp} {r : List Addr} : ∀ {ds : List D} {vs : List V} {bs : List Bool}, Reps K Z r ds vs → boolsOf ds = some bs → vs = bs.map V.bl
  | [], _, _, .nil, e => by rw [boolsOf] at e; cases e; rfl
  | d :: ds, _, bs, .cons h t, e => by
    cases h with
    | bl b =>
      rw [boolsOf] at e
      cases q : boolsOf ds with
      | none => rw [q] at e; cases e
      | some cs =>
        rw [q] at e; cases e
        rw [bools_rep t q]; rfl
    | _ => exact nomatch (show none = some bs from e)
def mCountB : FM := fun d ds G => match lstOf G d, ds with
  | some xs, [.bl k] => (match boolsOf xs with
    | some bs => .ok (.int ((bs.count k : Nat) : Int)) G
    | none => .no)
  | _, _ => .no
theorem md_countB {K : PySem.W.Frag} : MtD K mCountB (rCountB K) := fun L G H d v ds vs W σ Q hr rd rds q => by
  unfold mCountB at q
  cases e : lstOf G d with
  | none => rw [e] at q; exact q.elim
  | some xs =>
    rw [e] at q
    cases rds with
    | nil => exact q.elim
    | @cons a u ds us ra t =>
      cases ra with
      | bl k =>
        cases t with
        | cons _ _ => exact q.elim
        | nil =>
          dsimp only at q
          obtain ⟨b, ws, rfl, s, t⟩ := lst_rep hr rd e
          cases e2 : boolsOf xs with
          | none => rw [e2] at q; exact q.elim
          | some bs =>
            rw [e2] at q
            have ew := bools_rep t e2
            subst ew
            exact ⟨b, bs, k, rfl, rfl, s, q L H _ (.refl _) hr (.int _)⟩
      | _ => cases t <;> exact q.elim
end
section
variable {X : Cx} {W : WX} {apos cpos : Pos} {o e : Expr} {fo : FE} {g : FA}
theorem xe_countB (ho : xE X W o fo) (ha : xA X W [e] g) (hbase : attributeBase o "count" X.env (eval o X.env) = eval o X.env := by rfl)
    (hfew : ((backTo cpos (starEach [e] X.env)).all (fun x => !x.1) && (backToKw cpos (keywordEach [] X.env)).all (fun x => x.1.isSome) && decide ([e].length + ([] : List Keyword).length + (if ([] : List Keyword).isEmpty then 0 else 1) < 30)) = true := by rfl)
    (hline : (apos.endLine == cpos.line) = true := by rfl) (hs : starEach [e] X.env = (false, eval e X.env) :: starEach [] X.env := by rfl) : xE X W (.Call (.Attribute o "count" apos) [e] [] cpos) (eMt "list" mCountB fo g) :=
  xe_mt PySem.F.plainAttrs_list PySem.F.slot_list_count PySem.F.type_list_count mt_countB md_countB ho ha hbase hfew hline hs rfl
end
end CF
end
section
set_option maxRecDepth 100000
set_option maxHeartbeats 0
namespace CF
namespace K01
open PySem PySem.Spec PyProof.Rows L2
def top (i : Nat) : Stmt := PySem.Challenge.pw_claimfield_k01_whole_trees_and_paths.main.body.getD i (.Pass ⟨0, 0, 0, 0⟩)
abbrev s_is_integer : Stmt := top 16
abbrev s_is_name : Stmt := top 17
abbrev s_is_pairs : Stmt := top 18
abbrev s_is_tree : Stmt := top 19
abbrev s_count_of : Stmt := top 20
abbrev s_check_tree : Stmt := top 21
abbrev s_check_path : Stmt := top 22
abbrev s_all_nodes : Stmt := top 23
abbrev s_fields : Stmt := top 24
abbrev s_find_node : Stmt := top 25
abbrev s_node_at : Stmt := top 26
abbrev s_cut : Stmt := top 27
abbrev s_without_R : Stmt := top 28
abbrev s__law_cell_at : Stmt := top 30
abbrev s__law_well : Stmt := top 31
abbrev s__law_draw : Stmt := top 32
abbrev s__law_one : Stmt := top 33
abbrev s__law_names : Stmt := top 34
abbrev s__law_tree : Stmt := top 35
abbrev s__law_nodes : Stmt := top 37
abbrev s__law_classes_of : Stmt := top 38
abbrev s__law_pruned : Stmt := top 39
abbrev s__law_refused : Stmt := top 40
abbrev s_law : Stmt := top 41
abbrev s_ClaimError___init__ : Stmt := inClass (top 1) 0
abbrev s_BadPath___init__ : Stmt := inClass (top 3) 0
def dd_is_integer : He.DefD := ⟨("is_integer", none), "is_integer", "is_integer", defArgs s_is_integer, defBody s_is_integer, defScope s_is_integer, [], []⟩
def dd_is_name : He.DefD := ⟨("is_name", none), "is_name", "is_name", defArgs s_is_name, defBody s_is_name, defScope s_is_name, [], []⟩
def dd_is_pairs : He.DefD := ⟨("is_pairs", none), "is_pairs", "is_pairs", defArgs s_is_pairs, defBody s_is_pairs, defScope s_is_pairs, [], []⟩
def dd_is_tree : He.DefD := ⟨("is_tree", none), "is_tree", "is_tree", defArgs s_is_tree, defBody s_is_tree, defScope s_is_tree, [.int 6], []⟩
def dd_count_of : He.DefD := ⟨("count_of", none), "count_of", "count_of", defArgs s_count_of, defBody s_count_of, defScope s_count_of, [], []⟩
def dd_check_tree : He.DefD := ⟨("check_tree", none), "check_tree", "check_tree", defArgs s_check_tree, defBody s_check_tree, defScope s_check_tree, [], []⟩
def dd_check_path : He.DefD := ⟨("check_path", none), "check_path", "check_path", defArgs s_check_path, defBody s_check_path, defScope s_check_path, [], []⟩
def dd_all_nodes : He.DefD := ⟨("all_nodes", none), "all_nodes", "all_nodes", defArgs s_all_nodes, defBody s_all_nodes, defScope s_all_nodes, [.adr (He.dflAt ("all_nodes", none) 0)], []⟩
def dd_fields : He.DefD := ⟨("fields", none), "fields", "fields", defArgs s_fields, defBody s_fields, defScope s_fields, [], []⟩
def dd_find_node : He.DefD := ⟨("find_node", none), "find_node", "find_node", defArgs s_find_node, defBody s_find_node, defScope s_find_node, [], []⟩
def dd_node_at : He.DefD := ⟨("node_at", none), "node_at", "node_at", defArgs s_node_at, defBody s_node_at, defScope s_node_at, [], []⟩
def dd_cut : He.DefD := ⟨("cut", none), "cut", "cut", defArgs s_cut, defBody s_cut, defScope s_cut, [], []⟩
def dd_without_R : He.DefD := ⟨("without", none), "without", "without", defArgs s_without_R, defBody s_without_R, defScope s_without_R, [], []⟩
def dd__law_cell_at : He.DefD := ⟨("_law_cell_at", none), "_law_cell_at", "_law_cell_at", defArgs s__law_cell_at, defBody s__law_cell_at, defScope s__law_cell_at, [], []⟩
def dd__law_well : He.DefD := ⟨("_law_well", none), "_law_well", "_law_well", defArgs s__law_well, defBody s__law_well, defScope s__law_well, [], []⟩
def dd__law_draw : He.DefD := ⟨("_law_draw", none), "_law_draw", "_law_draw", defArgs s__law_draw, defBody s__law_draw, defScope s__law_draw, [], []⟩
def dd__law_one : He.DefD := ⟨("_law_one", none), "_law_one", "_law_one", defArgs s__law_one, defBody s__law_one, defScope s__law_one, [], []⟩
def dd__law_names : He.DefD := ⟨("_law_names", none), "_law_names", "_law_names", defArgs s__law_names, defBody s__law_names, defScope s__law_names, [], []⟩
def dd__law_tree : He.DefD := ⟨("_law_tree", none), "_law_tree", "_law_tree", defArgs s__law_tree, defBody s__law_tree, defScope s__law_tree, [], []⟩
def dd__law_nodes : He.DefD := ⟨("_law_nodes", none), "_law_nodes", "_law_nodes", defArgs s__law_nodes, defBody s__law_nodes, defScope s__law_nodes, [], []⟩
def dd__law_classes_of : He.DefD := ⟨("_law_classes_of", none), "_law_classes_of", "_law_classes_of", defArgs s__law_classes_of, defBody s__law_classes_of, defScope s__law_classes_of, [], []⟩
def dd__law_pruned : He.DefD := ⟨("_law_pruned", none), "_law_pruned", "_law_pruned", defArgs s__law_pruned, defBody s__law_pruned, defScope s__law_pruned, [], []⟩
def dd__law_refused : He.DefD := ⟨("_law_refused", none), "_law_refused", "_law_refused", defArgs s__law_refused, defBody s__law_refused, defScope s__law_refused, [], []⟩
def dd_law : He.DefD := ⟨("law", none), "law", "law", defArgs s_law, defBody s_law, defScope s_law, [], []⟩
def dd_ClaimError___init__ : He.DefD := ⟨("ClaimError", some "__init__"), "__init__", "ClaimError.__init__", defArgs s_ClaimError___init__, defBody s_ClaimError___init__, defScope s_ClaimError___init__, [.str "invalid"], []⟩
def dd_BadPath___init__ : He.DefD := ⟨("BadPath", some "__init__"), "__init__", "BadPath.__init__", defArgs s_BadPath___init__, defBody s_BadPath___init__, defScope s_BadPath___init__, [], []⟩
def fnL : List He.DefD := [dd_is_integer, dd_is_name, dd_is_pairs, dd_is_tree, dd_count_of, dd_check_tree, dd_check_path, dd_all_nodes, dd_fields, dd_find_node, dd_node_at, dd_cut, dd_without_R, dd__law_cell_at, dd__law_well, dd__law_draw, dd__law_one, dd__law_names, dd__law_tree, dd__law_nodes, dd__law_classes_of, dd__law_pruned, dd__law_refused, dd_law, dd_ClaimError___init__, dd_BadPath___init__]
def faL : List He.Fa := [.glo "is_integer", .glo "is_name", .glo "is_pairs", .glo "is_tree", .glo "count_of", .glo "check_tree", .glo "check_path", .glo "all_nodes", .glo "fields", .glo "find_node", .glo "node_at", .glo "cut", .glo "without", .glo "_law_cell_at", .glo "_law_well", .glo "_law_draw", .glo "_law_one", .glo "_law_names", .glo "_law_tree", .glo "_law_nodes", .glo "_law_classes_of", .glo "_law_pruned", .glo "_law_refused", .glo "law", .free "all", .free "bool", .free "dict", .free "int", .free "isinstance", .free "len", .free "max", .free "range", .free "repr", .free "set", .free "sorted", .free "str", .free "sum", .free "tuple", .int "BOUND" (1000000000000000000000000000000), .str "LETTERS" "abcdefghijklmnopqrstuvwxyz", .int "MOST_LETTERS" (8), .int "MOST_NODES" (320), .noat "BadPath" "path", .glo "BadPath", .exm "BadPath" "BadPath" true, .glo "BadText", .glo "BadStep", .glo "BadOrders", .glo "TooMany", .glo "Refused", .glo "BadWriter", .glo "BadTree", .glo "ClaimError", .free "ValueError", .noat "BadPath" "why"]
def exL (K : PySem.W.Frag) : Bool := xfB K (He.ga K "BadPath") && (clsXB K (He.ga K "BadPath") && (kitB K (He.ga K "BadPath") (He.ga K "BadOrders") false && (kitB K (He.ga K "BadPath") (He.ga K "BadPath") true && (kitB K (He.ga K "BadPath") (He.ga K "BadStep") false && (kitB K (He.ga K "BadPath") (He.ga K "BadText") false && (kitB K (He.ga K "BadPath") (He.ga K "BadTree") false && (kitB K (He.ga K "BadPath") (He.ga K "BadWriter") false && (kitB K (He.ga K "BadPath") (He.ga K "Refused") false && (kitB K (He.ga K "BadPath") (He.ga K "TooMany") false && (kitB K (He.ga K "BadPath") (He.ga K "ClaimError") true && (empB K (He.dflAt ("all_nodes", none) 0 K) && (veB K && (clfB K (He.ga K "ClaimError") "__init__" (He.ma K (He.ga K "ClaimError") "__init__") && (oexB K (He.ga K "BadPath") && (iniB K (He.ga K "BadPath") (He.ma K (He.ga K "BadPath") "__init__"))))))))))))))))
abbrev RW : PySem.W.OpenRow := PySem.W.OpenLaw.row PySem.Challenge.rw_claimfield_k01_whole_trees_and_paths
abbrev hkL : PySem.W.Hook := hookC 4 faL fnL exL
def obL (s : PySem.W.SharedT) : He.AlD × Bool := obsC 4 faL fnL exL (HandSHeadRun.getT s)
theorem obL_eq (s : PySem.W.SharedT) : obL s = hkL.obs s.abs := obsC_eq (HandSHeadRun.getT_eq s)
def nmL : List Str := (["ClaimError", "BadTree", "BadPath", "BadOrders", "BadWriter", "TooMany", "Refused", "BadText", "BadStep", "LETTERS", "MOST_LETTERS", "MOST_DEEP", "BOUND", "MOST_NODES", "is_integer", "is_name", "is_pairs", "is_tree", "count_of", "check_tree"] : List Str) ++ (["check_path", "all_nodes", "fields", "find_node", "node_at", "cut", "without", "_law_cell_at", "_law_well", "_law_draw", "_law_one", "_law_names", "_law_tree", "_law_wish", "_law_nodes", "_law_classes_of", "_law_pruned", "_law_refused"] : List Str)
theorem runL (w : World) : HandSHeadRun.RunEq RW (PySem.W.view RW.prog [41]) hkL obL 6000 nmL w := by
  intro os
  kernel_rfl
end K01
end CF
end
section
set_option maxRecDepth 100000
set_option maxHeartbeats 1000000
namespace CF
open PySem PySem.Spec PyProof.Rows L2 PySem.W
def tupK : D → Option (List Key)
  | .tup ds => keysD ds
  | _ => none
def tupsK : List D → Option (List (List Key))
  | [] => some []
  | d :: r => match tupK d, tupsK r with
    | some k, some ks => some (k :: ks)
    | _, _ => none
def tupD (ks : List Key) : D := .tup (ks.map kDd)
def pyT (ks : List Key) : PyData := .tuple (ks.map pyK)
def dedT (kss : List (List Key)) : List (List Key) := (dedX (kss.map fun k => (k, ()))).map (·.1)
def textT (kss : List (List Key)) : Bool := kss.all fun ks => !ks.isEmpty && ks.all Sum.isRight
noncomputable def sortT (kss : List (List Key)) : List (List Key) := kss.mergeSort (dataLe false pyT)
noncomputable def kSortT (mk : List D → GH → R D) (ds : List D) (G : GH) : R D := match tupsK ds with
  | some kss => if kss.length < 64 ∧ textT kss = true then mk ((sortT (dedT kss)).map tupD) G else .no
  | none => .no
noncomputable def eSortSetT (mk : List D → GH → R D) (f : FE) : FE := fun δ G => (f δ G).bind fun d G1 => match lstOf G1 d with
  | some ds => kSortT mk ds G1
  | none => .no
theorem keyAll_inj : ∀ {a b : List Key}, (∀ k ∈ a, k.isRight = true) → (∀ k ∈ b, k.isRight = true) → keyToksAll (a.map pyK) = keyToksAll (b.map pyK) → a = b
  | [], [], _, _, _ => rfl
  | [], y :: ys, _, _, h => by simp [keyToksAll] at h
  | x :: xs, [], _, _, h => by simp [keyToksAll] at h
  | x :: xs, y :: ys, ha, hb, h => by
    cases x with
    | inl i => have := ha _ (.head _); simp at this
    | inr x =>
      cases y with
      | inl i => have := hb _ (.head _); simp at this
      | inr y =>
        simp only [List.map_cons, keyToksAll, pyK, keyToks, List.cons_append, List.nil_append, List.cons.injEq, Sum.inr.injEq, true_and] at h
        rw [str_of_cps h.1, keyAll_inj (fun k hk => ha k (.tail _ hk)) (fun k hk => hb k (.tail _ hk)) h.2]
theorem tupLe_anti {a b : List Key} (ha : ∀ k ∈ a, k.isRight = true) (hb : ∀ k ∈ b, k.isRight = true) (h1 : dataLe false pyT a b = true) (h2 : dataLe false pyT b a = true) : a = b := by
  rw [dataLe_eq] at h1 h2
  simp only [cond_false, pyT, dataLt_tuple, Bool.not_eq_true'] at h1 h2
  exact keyAll_inj ha hb (lex_total (O := itemOrd) _ _ h2 h1)
theorem tupLe_total : TotalLe (dataLe false pyT) := by
  unfold dataLe
  exact sortLe_total _ _ _
@[simp] theorem w_eSortSetT {mk : List D → GH → R D} {f : FE} {δ : DEnv} {G : GH} : eSortSetT mk f δ G = (f δ G).bind fun d G1 => match lstOf G1 d with
  | some ds => kSortT mk ds G1
  | none => .no := rfl
end CF
end
section
set_option maxRecDepth 100000
set_option maxHeartbeats 1000000
namespace CF
open PySem PySem.Spec PyProof.Rows L2 PySem.W
noncomputable def eListRg (mk : List D → GH → R D) (f : FE) : FE := fun δ G => (f δ G).bind fun d G1 => match d with
  | .int n => if 0 ≤ n ∧ n ≤ 4000 then mk ((List.range n.toNat).map fun i => .int (i : Nat)) G1 else .no
  | _ => .no
@[simp] theorem w_eListRg {mk : List D → GH → R D} {f : FE} {δ : DEnv} {G : GH} : eListRg mk f δ G = (f δ G).bind fun d G1 => match d with
  | .int n => if 0 ≤ n ∧ n ≤ 4000 then mk ((List.range n.toNat).map fun i => .int (i : Nat)) G1 else .no
  | _ => .no := rfl
def inDD (G : GH) (x y : D) : Option Bool := match (rsv G 3 x).py, (rsv G 3 y).py with
  | some d, some (.list ds) => if d.depth ≤ 60 then some (ds.any fun z => PyData.eqv z d) else none
  | _, _ => none
def dInD : F2 := fun x y G => match inDD G x y with
  | some b => .ok (.bl b) G
  | none => .no
def dNotInD : F2 := fun x y G => match inDD G x y with
  | some b => .ok (.bl (!b)) G
  | none => .no
def rInE (K : PySem.W.Frag) (neg : Bool) : R2 := fun x y H Q => ∃ d ds, Dp K H x d ∧ Dp K H y (.list ds) ∧ d.canLay0 = true ∧ (PyData.list ds).canLay0 = true ∧ d.depth ≤ 60 ∧ Q (.bl (if neg then !ds.any (fun z => PyData.eqv z d) else ds.any fun z => PyData.eqv z d)) H
theorem op_notInE {X : Cx} (hu : X.A.units + 64 < cLine) : OpR X (compareOp .NotIn) (rInE X.K true) := by
  intro pins s σ H x y v u Q I rx ry h
  obtain ⟨d, ds, hd, he, sd, se, dp, q⟩ := h
  obtain ⟨as, r1⟩ := Dp.reads I d x v hd rx
  obtain ⟨bs, r2⟩ := Dp.reads I (.list ds) y u he ry
  refine SeqAt.notIn_list_reads r2 r1 (by simpa [PyData.canLay0] using se) sd ?_ ⟨.bl _, H, I, rfl, q⟩
  have := Nat.min_le_right (PyData.depthAll ds) d.depth
  omega
theorem inDD_rep {K : PySem.W.Frag} {L : Lk} {G : GH} {H : Hp} (hr : HR K L G H) {x y : D} {v u : V} {b : Bool} (rx : Rep K L.Z L.r x v) (ry : Rep K L.Z L.r y u) (e : inDD G x y = some b) :
    ∃ d ds, Dp K H v d ∧ Dp K H u (.list ds) ∧ d.canLay0 = true ∧ (PyData.list ds).canLay0 = true ∧ d.depth ≤ 60 ∧ b = ds.any fun z => PyData.eqv z d := by
  unfold inDD at e
  cases q1 : (rsv G 3 x).py with
  | none => rw [q1] at e; cases e
  | some d =>
    cases q2 : (rsv G 3 y).py with
    | none => rw [q1, q2] at e; cases e
    | some p =>
      rw [q1, q2] at e
      cases p with
      | list ds =>
        dsimp only at e
        by_cases c : d.depth ≤ 60
        · rw [if_pos c] at e
          obtain ⟨a1, a2⟩ := rsv_rep hr 3 x v d rx q1
          obtain ⟨b1, b2⟩ := rsv_rep hr 3 y u _ ry q2
          exact ⟨d, ds, a1, b1, a2, b2, c, (Option.some.inj e).symm⟩
        · rw [if_neg c] at e; cases e
      | _ => cases e
theorem o2_notInE {K : PySem.W.Frag} : Op2 K dNotInD (rInE K true) := fun L G H x y v u W σ Q hr rx ry q => by
  unfold dNotInD at q
  cases e : inDD G x y with
  | none => rw [e] at q; exact q.elim
  | some b =>
    rw [e] at q
    obtain ⟨d, ds, h1, h2, h3, h4, h5, rfl⟩ := inDD_rep hr rx ry e
    exact ⟨d, ds, h1, h2, h3, h4, h5, q L H _ (.refl L) hr (.bl _)⟩
def pyP (p : Str × Str) : PyData := .tuple [.str p.1, .str p.2]
end CF
end
section
set_option maxRecDepth 100000
set_option maxHeartbeats 4000000
namespace CF
namespace BB
open PySem PySem.Spec PyProof.Rows L2
noncomputable def b_is_integer  : FS :=
    (sRet (eAnd (eOne (eVar 0) (dIsi "int")) (eNot (eTru (eOne (eVar 0) (dIsi "bool"))))))
noncomputable def b_is_name  : FS :=
    (sSeq (sIf (tOrD (tNotD (eTru (eOne (eVar 0) (dIsi "str")))) (tNotD (asB (eChain dLe dLe (eC (.int 1)) (eCB (one dLen) (aCons (eVar 0) aNil)) (eC (.int (8))))))) (sRet (eC (.bl false))) sNext)
    (sRet (eCB (one dAll) (aCons (eLc mkF (iSeq (eVar 0)) (gNm 1) tYesD (eOp dIn (eVar 1) (eC (.str "abcdefghijklmnopqrstuvwxyz"))) [1]) aNil))))
noncomputable def b_is_pairs (f_is_name : List D → GH → R D) (f_is_tree : List D → GH → R D) : FS :=
    (sSeq (sIf (tOrD (tNotD (eTru (eOne (eVar 0) (dIsi "tuple")))) (tNotD (eTru (eCB (one dAll) (aCons (eLc mkF (iSeq (eVar 0)) (gNm 2) tYesD (eAnd (eOne (eVar 2) (dIsi "tuple")) (eOp dEq (eCB (one dLen) (aCons (eVar 2) aNil)) (eC (.int 2)))) [2]) aNil))))) (sRet (eC (.bl false))) sNext)
    (sSeq (sSet 3 (eLc mkF (iSeq (eVar 0)) (gNm 2) tYesD (eOp dIx (eVar 2) (eC (.int 0))) [2]))
    (sSeq (sIf (tOrD (tNotD (eTru (eCB (one dAll) (aCons (eLc mkF (iSeq (eVar 3)) (gNm 4) tYesD (eCall 1 f_is_name [] (aCons (eVar 4) aNil)) [4]) aNil)))) (asB (eOp dNe (eLenSet (eVar 3)) (eCB (one dLen) (aCons (eVar 3) aNil))))) (sRet (eC (.bl false))) sNext)
    (sRet (eCB (one dAll) (aCons (eLc mkF (iSeq (eVar 0)) (gNm 2) tYesD (eCall 2 f_is_tree [] (aCons (eOp dIx (eVar 2) (eC (.int 1))) (aCons (eVar 1) aNil))) [2]) aNil))))))
noncomputable def b_is_tree (f_is_integer : List D → GH → R D) (f_is_pairs : List D → GH → R D) : FS :=
    (sSeq (sIf (tOrD (asB (eOp dEq (eVar 1) (eC (.int 0)))) (tOrD (tNotD (eTru (eOne (eVar 0) (dIsi "tuple")))) (asB (eOp dNe (eCB (one dLen) (aCons (eVar 0) aNil)) (eC (.int 2)))))) (sRet (eC (.bl false))) sNext)
    (sSeq (sIf (asB (eOp dEq (eOp dIx (eVar 0) (eC (.int 0))) (eC (.str "value")))) (sSeq (sIf (eTru (eCall 1 f_is_integer [] (aCons (eOp dIx (eVar 0) (eC (.int 1))) aNil))) (sRet (eChain dLt dLt (eUn dNeg (eC (.int (1000000000000000000000000000000)))) (eOp dIx (eVar 0) (eC (.int 1))) (eC (.int (1000000000000000000000000000000))))) sNext)
    (sRet (eOne (eOp dIx (eVar 0) (eC (.int 1))) (dIsi "str")))) sNext)
    (sSeq (sIf (tOrD (asB (eOp dNotIn (eOp dIx (eVar 0) (eC (.int 0))) (eTup (aCons (eC (.str "map")) (aCons (eC (.str "list")) aNil))))) (tNotD (eTru (eCall 2 f_is_pairs [] (aCons (eOp dIx (eVar 0) (eC (.int 1))) (aCons (eOp dSub (eVar 1) (eC (.int 1))) aNil)))))) (sRet (eC (.bl false))) sNext)
    (sSeq (sSet 2 (eLc mkF (iSeq (eOp dIx (eVar 0) (eC (.int 1)))) (gTp 2 (gsCons (gNm 3) (gsCons (gNm 4) gsNil))) tYesD (eVar 3) [3, 4]))
    (sRet (eOr (eOp dEq (eOp dIx (eVar 0) (eC (.int 0))) (eC (.str "list"))) (eOp dEq (eVar 2) (eCB (one (dSorted2 mkF)) (aCons (eVar 2) aNil)))))))))
noncomputable def b_count_of (f_count_of : List D → GH → R D) : FS :=
    (sSeq (sIf (asB (eOp dEq (eOp dIx (eVar 0) (eC (.int 0))) (eC (.str "value")))) (sRet (eC (.int 0))) sNext)
    (sRet (eCB (one dSum) (aCons (eLc mkF (iSeq (eOp dIx (eVar 0) (eC (.int 1)))) (gTp 2 (gsCons (gNm 1) (gsCons (gNm 2) gsNil))) tYesD (eOp (dAdd mkF) (eC (.int 1)) (eCall 1 f_count_of [] (aCons (eVar 2) aNil))) [1, 2]) aNil))))
noncomputable def b_check_tree (f_is_tree : List D → GH → R D) (f_count_of : List D → GH → R D) : FS :=
    (sSeq (sIf (tNotD (eTru (eCall 2 f_is_tree (.int 6 :: []) (aCons (eVar 0) aNil)))) sDead sNext)
    (sIf (asB (eOp dGt (eCall 1 f_count_of [] (aCons (eVar 0) aNil)) (eC (.int (320))))) sDead sNext))
noncomputable def b_check_path (f_is_name : List D → GH → R D) : FS :=
    (sIf (tOrD (tNotD (eTru (eOne (eVar 0) (dIsi "tuple")))) (tNotD (eTru (eCB (one dAll) (aCons (eLc mkF (iSeq (eVar 0)) (gNm 1) tYesD (eCall 1 f_is_name [] (aCons (eVar 1) aNil)) [1]) aNil))))) sDead sNext)
noncomputable def b_all_nodes (f_all_nodes : List D → GH → R D) : FS :=
    (sSeq (sSet 2 (eLstM (aCons (eTup (aCons (eVar 1) (aCons (eVar 0) aNil))) aNil)))
    (sSeq (sIf (asB (eOp dNe (eOp dIx (eVar 0) (eC (.int 0))) (eC (.str "value")))) (sFor (iSeq (eOp dIx (eVar 0) (eC (.int 1)))) (gTp 2 (gsCons (gNm 3) (gsCons (gNm 4) gsNil))) (sAugE 2 (eCall 2 f_all_nodes [] (aCons (eVar 4) (aCons (eOp (dAdd mkF) (eVar 1) (eTup (aCons (eVar 3) aNil))) aNil))))) sNext)
    (sRet (eVar 2))))
noncomputable def b_find_node  : FS :=
    (sSeq (sFor (iSeq (eVar 1)) (gNm 2) (sSeq (sIf (tOrD (asB (eOp dEq (eOp dIx (eVar 0) (eC (.int 0))) (eC (.str "value")))) (asB (eOp dNotIn (eVar 2) (eCB (one (dDict mkKF)) (aCons (eOp dIx (eVar 0) (eC (.int 1))) aNil))))) (sRet (eC .non)) sNext)
    (sSet 0 (eOp dIx (eCB (one (dDict mkKF)) (aCons (eOp dIx (eVar 0) (eC (.int 1))) aNil)) (eVar 2)))))
    (sRet (eVar 0)))
noncomputable def b_cut (f_cut : List D → GH → R D) : FS :=
    (sSeq (sSet 2 (eLstM aNil))
    (sSeq (sFor (iSeq (eOp dIx (eVar 0) (eC (.int 1)))) (gTp 2 (gsCons (gNm 3) (gsCons (gNm 4) gsNil))) (sIf (asB (eOp dNe (eVar 3) (eOp dIx (eVar 1) (eC (.int 0))))) (sDrop (eMt "list" mAppend (eVar 2) (aCons (eTup (aCons (eVar 3) (aCons (eVar 4) aNil))) aNil))) (sIf (asB (eOp dGt (eCB (one dLen) (aCons (eVar 1) aNil)) (eC (.int 1)))) (sDrop (eMt "list" mAppend (eVar 2) (aCons (eTup (aCons (eVar 3) (aCons (eCall 2 f_cut [] (aCons (eVar 4) (aCons (eSl mkF (eVar 1) (some (eC (.int 1))) none) aNil))) aNil))) aNil))) sNext)))
    (sRet (eTup (aCons (eOp dIx (eVar 0) (eC (.int 0))) (aCons (eCB (one dTupP) (aCons (eVar 2) aNil)) aNil))))))
end BB
end CF
end
section
set_option maxRecDepth 100000
set_option maxHeartbeats 2000000
namespace CF
open PySem PySem.Spec PyProof.Rows L2
abbrev Tbs := List (Addr × Addr × Str)
def Tbs.at_ (ts : Tbs) : List Addr := ts.map fun p => p.2.1
abbrev tbO : Obj := { cls := .none, data := .fields #[] }
structure CdT (fd : FuncData) (h : Heap) (c P : Addr) : Prop where
  code : fd.code = .ref c
  head : PySem.W.CodeHd h c P
  tab : h.get? P = some tbO
theorem CdT.of {K : PySem.W.Frag} {mg : Str → Option Value} {h : Heap} {x qual : Str} {st : Stmt} {f : Addr} {fd : FuncData} (KI : K.In h) (F : FnAt K x qual st f fd) (hm : mg x = some (.ref f))
    (t : ∃ a o fd c P, mg x = some (.ref a) ∧ h.get? a = some o ∧ o.data = .func fd ∧ fd.code = .ref c ∧ h.IsCode c P #[] ∧ h.TableAt c P #[]) : ∃ c P, CdT fd h c P := by
  obtain ⟨a, o, fd', c, P, h1, h2, h3, h4, h5, h6⟩ := t
  obtain ⟨oc, od, dV, kV, doc, pm, an, cdv, ct, osl, rfl, lk, _⟩ := F.ex
  rw [hm] at h1; cases h1
  rw [KI _ _ lk] at h2; cases h2
  cases h3
  exact ⟨c, P, h4, PySem.W.CodeHd.of h5 h6, h6.2⟩
end CF
end
section
set_option maxRecDepth 100000
set_option maxHeartbeats 4000000
namespace CF
namespace BB
open PySem PySem.Spec PyProof.Rows L2
noncomputable def bd__law_cell_at  : FS :=
    (sSeq (sIf (asB (eOp dLt (eVar 1) (eCB (one dLen) (aCons (eVar 0) aNil)))) (sRet (eOp dIx (eVar 0) (eVar 1))) sNext)
    (sRet (eC (.int 0))))
noncomputable def bd__law_well  : FS :=
    (sRet (eLstM (aCons (eOp dIx (eLst (aCons (eC (.int 0)) (aCons (eVar 0) aNil))) (eCB (one dInt) (aCons (eOp dGe (eVar 0) (eOp dPow (eC (.int 10)) (eC (.int 18)))) aNil))) (aCons (eVar 0) (aCons (eC (.int 0)) aNil)))))
noncomputable def bd__law_draw  : FS :=
    (sSeq (sIf (asB (eOp dGt (eOp dIx (eVar 0) (eC (.int 0))) (eC (.int 0)))) (sSeq (sSet 2 (eOp dMod (eOp dIx (eVar 0) (eC (.int 0))) (eVar 1)))
    (sSeq (sPut (eVar 0) (eC (.int 0)) (eOp dDiv (eOp dIx (eVar 0) (eC (.int 0))) (eVar 1)))
    (sRet (eVar 2)))) sNext)
    (sSeq (sPut (eVar 0) (eC (.int 2)) (eOp (dAdd mkF) (eOp dIx (eVar 0) (eC (.int 2))) (eC (.int 1))))
    (sSeq (sSet 3 (eOp dMod (eOp dDiv (eOp dIx (eVar 0) (eC (.int 1))) (eC (.int 2147483629))) (eC (.int 65521))))
    (sSeq (sSet 4 (eOp dMod (eOp dPow (eOp (dAdd mkF) (eOp (dAdd mkF) (eOp (dAdd mkF) (eOp dMod (eOp dIx (eVar 0) (eC (.int 1))) (eC (.int 2147483629))) (eOp dMulI (eC (.int 7919)) (eOp dIx (eVar 0) (eC (.int 2))))) (eVar 3)) (eC (.int 1))) (eC (.int 5))) (eC (.int 2147483647))))
    (sSeq (sSet 4 (eOp dMod (eOp dMulI (eVar 4) (eOp (dAdd mkF) (eOp (dAdd mkF) (eOp dDiv (eVar 4) (eC (.int 1009))) (eC (.int 69621))) (eOp dIx (eVar 0) (eC (.int 2))))) (eC (.int 2147483629))))
    (sRet (eOp dMod (eOp dMod (eOp dMulI (eVar 4) (eOp (dAdd mkF) (eOp dDiv (eVar 4) (eC (.int 2003))) (eC (.int 40692)))) (eC (.int 2147483399))) (eVar 1))))))))
noncomputable def bd__law_one (f__law_draw : List D → GH → R D) : FS :=
    (sRet (eOp dIx (eVar 1) (eCall 2 f__law_draw [] (aCons (eVar 0) (aCons (eCB (one dLen) (aCons (eVar 1) aNil)) aNil)))))
end BB
end CF
end
section
set_option maxRecDepth 100000
set_option maxHeartbeats 4000000
namespace CF
namespace BB
open PySem PySem.Spec PyProof.Rows L2
noncomputable def b_node_at (f_check_tree : List D → GH → R D) (f_check_path : List D → GH → R D) (f_find_node : List D → GH → R D) : FS :=
    (sSeq (sDrop (eCall 1 f_check_tree [] (aCons (eVar 0) aNil)))
    (sSeq (sDrop (eCall 1 f_check_path [] (aCons (eVar 1) aNil)))
    (sRet (eCall 2 f_find_node [] (aCons (eVar 0) (aCons (eVar 1) aNil))))))
end BB
end CF
end
section
set_option maxRecDepth 100000
set_option maxHeartbeats 4000000
namespace CF
namespace BB
open PySem PySem.Spec PyProof.Rows L2
noncomputable def b_fields (f_check_tree : List D → GH → R D) (f_all_nodes : List D → GH → R D) : FS :=
    (sSeq (sDrop (eCall 1 f_check_tree [] (aCons (eVar 0) aNil)))
    (sRet (eSl mkM (eCB (one (dSorted2 mkF)) (aCons (eLc mkF (iSeq (eCall 2 f_all_nodes (.tup [] :: []) (aCons (eVar 0) aNil))) (gTp 2 (gsCons (gNm 1) (gsCons (gNm 2) gsNil))) tYesD (eVar 1) [1, 2]) aNil)) (some (eC (.int 1))) none)))
noncomputable def b_without_R (C_BadPath : Addr) (f_node_at : List D → GH → R D) (f_cut : List D → GH → R D) : FS :=
    (sSeq (sIf (tOrD (asB (eOp dIsN (eCall 2 f_node_at [] (aCons (eVar 0) (aCons (eVar 1) aNil))) (eC .non))) (asB (eOp dEq (eVar 1) (eTup aNil)))) (sRaise C_BadPath (ffS "path" "path") 1 (aCons (eVar 1) aNil)) sNext)
    (sRet (eCall 2 f_cut [] (aCons (eVar 0) (aCons (eVar 1) aNil)))))
noncomputable def be__law_cell_at  : FS :=
    (sSeq (sIf (asB (eOp dLt (eVar 1) (eCB (one dLen) (aCons (eVar 0) aNil)))) (sRet (eOp dIx (eVar 0) (eVar 1))) sNext)
    (sRet (eC (.int 0))))
noncomputable def be__law_well  : FS :=
    (sRet (eLstM (aCons (eOp dIx (eLst (aCons (eC (.int 0)) (aCons (eVar 0) aNil))) (eCB (one dInt) (aCons (eOp dGe (eVar 0) (eOp dPow (eC (.int 10)) (eC (.int 18)))) aNil))) (aCons (eVar 0) (aCons (eC (.int 0)) aNil)))))
noncomputable def be__law_draw  : FS :=
    (sSeq (sIf (asB (eOp dGt (eOp dIx (eVar 0) (eC (.int 0))) (eC (.int 0)))) (sSeq (sSet 2 (eOp dMod (eOp dIx (eVar 0) (eC (.int 0))) (eVar 1)))
    (sSeq (sPut (eVar 0) (eC (.int 0)) (eOp dDiv (eOp dIx (eVar 0) (eC (.int 0))) (eVar 1)))
    (sRet (eVar 2)))) sNext)
    (sSeq (sPut (eVar 0) (eC (.int 2)) (eOp (dAdd mkF) (eOp dIx (eVar 0) (eC (.int 2))) (eC (.int 1))))
    (sSeq (sSet 3 (eOp dMod (eOp dDiv (eOp dIx (eVar 0) (eC (.int 1))) (eC (.int 2147483629))) (eC (.int 65521))))
    (sSeq (sSet 4 (eOp dMod (eOp dPow (eOp (dAdd mkF) (eOp (dAdd mkF) (eOp (dAdd mkF) (eOp dMod (eOp dIx (eVar 0) (eC (.int 1))) (eC (.int 2147483629))) (eOp dMulI (eC (.int 7919)) (eOp dIx (eVar 0) (eC (.int 2))))) (eVar 3)) (eC (.int 1))) (eC (.int 5))) (eC (.int 2147483647))))
    (sSeq (sSet 4 (eOp dMod (eOp dMulI (eVar 4) (eOp (dAdd mkF) (eOp (dAdd mkF) (eOp dDiv (eVar 4) (eC (.int 1009))) (eC (.int 69621))) (eOp dIx (eVar 0) (eC (.int 2))))) (eC (.int 2147483629))))
    (sRet (eOp dMod (eOp dMod (eOp dMulI (eVar 4) (eOp (dAdd mkF) (eOp dDiv (eVar 4) (eC (.int 2003))) (eC (.int 40692)))) (eC (.int 2147483399))) (eVar 1))))))))
noncomputable def be__law_one (f__law_draw : List D → GH → R D) : FS :=
    (sRet (eOp dIx (eVar 1) (eCall 2 f__law_draw [] (aCons (eVar 0) (aCons (eCB (one dLen) (aCons (eVar 1) aNil)) aNil)))))
noncomputable def be__law_names (f__law_draw : List D → GH → R D) : FS :=
    (sSeq (sSet 2 (eLstM (aCons (eC (.str "a")) (aCons (eC (.str "aa")) (aCons (eC (.str "ab")) (aCons (eC (.str "b")) (aCons (eC (.str "ba")) aNil)))))))
    (sRet (eLc mkF (iRg1 (aCons (eCall 2 f__law_draw [] (aCons (eVar 0) (aCons (eOp (dAdd mkF) (eVar 1) (eC (.int 1))) aNil))) aNil)) (gNm 3) tYesD (eMt "list" mPopAt (eVar 2) (aCons (eCall 2 f__law_draw [] (aCons (eVar 0) (aCons (eCB (one dLen) (aCons (eVar 2) aNil)) aNil))) aNil)) [3])))
noncomputable def be__law_tree (f__law_draw : List D → GH → R D) (f__law_one : List D → GH → R D) (f__law_names : List D → GH → R D) (f__law_tree : List D → GH → R D) : FS :=
    (sSeq (sSet 3 (eCall 2 f__law_draw [] (aCons (eVar 0) (aCons (eC (.int 5)) aNil))))
    (sSeq (sIf (tOrD (tAndD (asB (eOp dLe (eVar 1) (eC (.int 1)))) (asB (eOp dGt (eVar 3) (eC (.int 1))))) (asB (eOp dEq (eVar 3) (eC (.int 0))))) (sRet (eTup (aCons (eC (.str "value")) (aCons (eCall 2 f__law_one [] (aCons (eVar 0) (aCons (eLst (aCons (eC (.int 0)) (aCons (eC (.int 1)) (aCons (eUn dNeg (eC (.int 7))) (aCons (eC (.str "")) (aCons (eC (.str "x")) (aCons (eC (.str "a b")) (aCons (eOp dPow (eC (.int 10)) (eC (.int 20))) aNil)))))))) aNil))) aNil)))) sNext)
    (sSeq (sIf (asB (eOp dLe (eVar 1) (eC (.int 1)))) (sRet (eTup (aCons (eCall 2 f__law_one [] (aCons (eVar 0) (aCons (eLst (aCons (eC (.str "map")) (aCons (eC (.str "list")) aNil))) aNil))) (aCons (eTupP aNil) aNil)))) sNext)
    (sSeq (sSet 4 (eCall 2 f__law_names [] (aCons (eVar 0) (aCons (eVar 2) aNil))))
    (sSeq (sIf (asB (eOp dEq (eVar 3) (eC (.int 1)))) (sRet (eTup (aCons (eC (.str "list")) (aCons (eCB (one dTupP) (aCons (eLc mkF (iSeq (eVar 4)) (gNm 5) tYesD (eTup (aCons (eVar 5) (aCons (eCall 3 f__law_tree [] (aCons (eVar 0) (aCons (eOp dSub (eVar 1) (eC (.int 1))) (aCons (eCB dMax2 (aCons (eC (.int 1)) (aCons (eOp dSub (eVar 2) (eC (.int 1))) aNil))) aNil)))) aNil))) [5]) aNil)) aNil)))) sNext)
    (sRet (eTup (aCons (eC (.str "map")) (aCons (eCB (one dTupP) (aCons (eLc mkF (iSeq (eCB (one (dSorted2 mkF)) (aCons (eVar 4) aNil))) (gNm 5) tYesD (eTup (aCons (eVar 5) (aCons (eCall 3 f__law_tree [] (aCons (eVar 0) (aCons (eOp dSub (eVar 1) (eC (.int 1))) (aCons (eCB dMax2 (aCons (eC (.int 1)) (aCons (eOp dSub (eVar 2) (eC (.int 1))) aNil))) aNil)))) aNil))) [5]) aNil)) aNil)))))))))
noncomputable def be__law_nodes (f__law_nodes : List D → GH → R D) : FS :=
    (sSeq (sSet 2 (eLst (aCons (eTup (aCons (eVar 1) (aCons (eVar 0) aNil))) aNil)))
    (sSeq (sIf (asB (eOp dNe (eOp dIx (eVar 0) (eC (.int 0))) (eC (.str "value")))) (sFor (iSeq (eOp dIx (eVar 0) (eC (.int 1)))) (gTp 2 (gsCons (gNm 3) (gsCons (gNm 4) gsNil))) (sSet 2 (eOp (dAdd mkF) (eVar 2) (eCall 2 f__law_nodes [] (aCons (eVar 4) (aCons (eOp (dAdd mkF) (eVar 1) (eTup (aCons (eVar 3) aNil))) aNil)))))) sNext)
    (sRet (eVar 2))))
noncomputable def be__law_classes_of (C_BadText : Addr) (C_BadStep : Addr) (C_BadPath : Addr) (C_BadOrders : Addr) (C_TooMany : Addr) (C_Refused : Addr) (C_BadWriter : Addr) (C_BadTree : Addr) (C_ClaimError : Addr) (kit : Addr → Addr → Option Bool) (a d C : Addr) : FS :=
    (sSeq (sSet 1 (eLst (aCons (eIsX 0 a d C (kit C C_BadOrders)) (aCons (eIsX 0 a d C (kit C C_BadPath)) (aCons (eIsX 0 a d C (kit C C_BadStep)) (aCons (eIsX 0 a d C (kit C C_BadText)) aNil))))))
    (sSeq (sSet 1 (eOp (dAdd mkF) (eVar 1) (eLst (aCons (eIsX 0 a d C (kit C C_BadTree)) (aCons (eIsX 0 a d C (kit C C_BadWriter)) (aCons (eIsX 0 a d C (kit C C_Refused)) (aCons (eIsX 0 a d C (kit C C_TooMany)) aNil)))))))
    (sRet (eOp (dAdd mkF) (eOp (dAdd mkF) (eMt "list" mCountB (eVar 1) (aCons (eC (.bl true)) aNil)) (eCB (one dInt) (aCons (eNot (eTru (eIsX 0 a d C (kit C C_ClaimError)))) aNil))) (eCB (one dInt) (aCons (eNot (eTru (eOne (eExF 0 a d C "why") (dIsi "str")))) aNil))))))
noncomputable def be__law_pruned (f__law_pruned : List D → GH → R D) : FS :=
    (sSeq (sIf (asB (eOp dEq (eOp dIx (eVar 0) (eC (.int 0))) (eC (.str "value")))) (sRet (eVar 0)) sNext)
    (sSeq (sSet 3 (eLc mkF (iSeq (eOp dIx (eVar 0) (eC (.int 1)))) (gTp 2 (gsCons (gNm 4) (gsCons (gNm 5) gsNil))) (asB (eOp dNe (eOp (dAdd mkF) (eVar 1) (eTup (aCons (eVar 4) aNil))) (eVar 2))) (eTup (aCons (eVar 4) (aCons (eCall 3 f__law_pruned [] (aCons (eVar 5) (aCons (eOp (dAdd mkF) (eVar 1) (eTup (aCons (eVar 4) aNil))) (aCons (eVar 2) aNil)))) aNil))) [4, 5]))
    (sRet (eTup (aCons (eOp dIx (eVar 0) (eC (.int 0))) (aCons (eCB (one dTupP) (aCons (eVar 3) aNil)) aNil))))))
noncomputable def be__law_refused (C_BadPath : Addr) (f_without_R : List D → GH → R D) (f__law_classes_of : Addr → Addr → Addr → List D → GH → R D) : FS :=
    (sTryAs 2 (xmO C_BadPath) (sRet (eCall 2 f_without_R [] (aCons (eVar 0) (aCons (eVar 1) aNil)))) (fun a d C => (sRet (eTup (aCons (eCB (one dRepr2) (aCons (eExF 2 a d C "path") aNil)) (aCons (eCall 1 (f__law_classes_of a d C) [] (aCons (eVar 2) aNil)) aNil))))))
noncomputable def be_law (f__law_cell_at : List D → GH → R D) (f__law_well : List D → GH → R D) (f__law_tree : List D → GH → R D) (f__law_draw : List D → GH → R D) (f__law_nodes : List D → GH → R D) (f_fields : List D → GH → R D) (f_node_at : List D → GH → R D) (f_without_R : List D → GH → R D) (f__law_pruned : List D → GH → R D) (f__law_one : List D → GH → R D) (f__law_refused : List D → GH → R D) : FS :=
    (sSeq (sFor (iSeq (eOp (dAdd mkF) (eLst (aCons (eCall 2 f__law_cell_at [] (aCons (eVar 0) (aCons (eC (.int 0)) aNil))) aNil)) (eSl mkF (eVar 0) (some (eC (.int 1))) (some (eC (.int 6)))))) (gNm 1) (sSeq (sSet 2 (eCall 1 f__law_well [] (aCons (eVar 1) aNil)))
    (sSeq (sSet 3 (eCall 3 f__law_tree [] (aCons (eVar 2) (aCons (eOp (dAdd mkF) (eC (.int 1)) (eCall 2 f__law_draw [] (aCons (eVar 2) (aCons (eC (.int 6)) aNil)))) (aCons (eC (.int 3)) aNil)))))
    (sSeq (sSet 4 (eCall 2 f__law_nodes [] (aCons (eVar 3) (aCons (eTup aNil) aNil))))
    (sSeq (sSet 5 (eCall 1 f_fields [] (aCons (eVar 3) aNil)))
    (sSeq (sIf (asB (eOp dNe (eVar 5) (eSl mkF (eCB (one (dSorted2 mkF)) (aCons (eLc mkF (iSeq (eVar 4)) (gTp 2 (gsCons (gNm 6) (gsCons (gNm 7) gsNil))) tYesD (eVar 6) [6, 7]) aNil)) (some (eC (.int 1))) none))) (sRet (eC (.bl false))) sNext)
    (sSeq (sDrop (eMt "list" mAppend (eVar 5) (aCons (eC (.int 7)) aNil)))
    (sSeq (sIf (asB (eOp dNe (eCall 1 f_fields [] (aCons (eVar 3) aNil)) (eSl mkF (eCB (one (dSorted2 mkF)) (aCons (eLc mkF (iSeq (eVar 4)) (gTp 2 (gsCons (gNm 6) (gsCons (gNm 7) gsNil))) tYesD (eVar 6) [6, 7]) aNil)) (some (eC (.int 1))) none))) (sRet (eC (.bl false))) sNext)
    (sSeq (sFor (iSeq (eVar 4)) (gTp 2 (gsCons (gNm 6) (gsCons (gNm 7) gsNil))) (sSeq (sIf (asB (eOp dNeT (eCB (one dRepr2) (aCons (eCall 2 f_node_at [] (aCons (eVar 3) (aCons (eVar 6) aNil))) aNil)) (eCB (one dRepr2) (aCons (eVar 7) aNil)))) (sRet (eC (.bl false))) sNext)
    (sIf (tAndD (asB (eOp dNe (eVar 6) (eTup aNil))) (asB (eOp dNeT (eCB (one dRepr2) (aCons (eCall 2 f_without_R [] (aCons (eVar 3) (aCons (eVar 6) aNil))) aNil)) (eCB (one dRepr2) (aCons (eCall 3 f__law_pruned [] (aCons (eVar 3) (aCons (eTup aNil) (aCons (eVar 6) aNil)))) aNil))))) (sRet (eC (.bl false))) sNext)))
    (sSeq (sSet 8 (eLc mkF (iSeq (eVar 4)) (gTp 2 (gsCons (gNm 6) (gsCons (gNm 7) gsNil))) tYesD (eVar 6) [6, 7]))
    (sSeq (sFor (iRg1 (aCons (eC (.int 4)) aNil)) (gNm 9) (sSeq (sSet 6 (eOp (dAdd mkF) (eCall 2 f__law_one [] (aCons (eVar 2) (aCons (eVar 8) aNil))) (eTup (aCons (eCall 2 f__law_one [] (aCons (eVar 2) (aCons (eLst (aCons (eC (.str "a")) (aCons (eC (.str "aa")) (aCons (eC (.str "ab")) (aCons (eC (.str "b")) (aCons (eC (.str "ba")) (aCons (eC (.str "zz")) aNil))))))) aNil))) aNil))))
    (sSeq (sSet 6 (eOp dIx (eLst (aCons (eVar 6) (aCons (eOp (dAdd mkF) (eVar 6) (eTup (aCons (eC (.str "a")) aNil))) aNil))) (eCall 2 f__law_draw [] (aCons (eVar 2) (aCons (eC (.int 2)) aNil)))))
    (sIf (asB (eOp dNotInD (eVar 6) (eVar 8))) (sIf (tOrD (asB (eOp dNotN (eCall 2 f_node_at [] (aCons (eVar 3) (aCons (eVar 6) aNil))) (eC .non))) (asB (eOp dNe (eCall 2 f__law_refused [] (aCons (eVar 3) (aCons (eVar 6) aNil))) (eTup (aCons (eCB (one dRepr2) (aCons (eVar 6) aNil)) (aCons (eC (.int 1)) aNil)))))) (sRet (eC (.bl false))) sNext) sNext))))
    (sIf (asB (eOp dNe (eCall 2 f__law_refused [] (aCons (eVar 3) (aCons (eTup aNil) aNil))) (eTup (aCons (eC (.str "()")) (aCons (eC (.int 1)) aNil))))) (sRet (eC (.bl false))) sNext))))))))))))
    (sRet (eC (.bl true))))
end BB
end CF
end
section
set_option maxRecDepth 100000
set_option maxHeartbeats 4000000
namespace CF
namespace K01
open PySem PySem.Spec PyProof.Rows L2 BB
structure Top (K : PySem.W.Frag) (mg : Str → Option Value) : Prop where
  z_all : mg "all" = none
  z_bool : mg "bool" = none
  z_dict : mg "dict" = none
  z_int : mg "int" = none
  z_isinstance : mg "isinstance" = none
  z_len : mg "len" = none
  z_max : mg "max" = none
  z_range : mg "range" = none
  z_repr : mg "repr" = none
  z_set : mg "set" = none
  z_sorted : mg "sorted" = none
  z_str : mg "str" = none
  z_sum : mg "sum" = none
  z_tuple : mg "tuple" = none
  c_BOUND : ∃ t, mg "BOUND" = some (.int (1000000000000000000000000000000) t)
  c_LETTERS : ∃ t, mg "LETTERS" = some (.str "abcdefghijklmnopqrstuvwxyz" t)
  c_MOST_LETTERS : ∃ t, mg "MOST_LETTERS" = some (.int (8) t)
  c_MOST_NODES : ∃ t, mg "MOST_NODES" = some (.int (320) t)
theorem sc_is_integer : FnScope ["value"] ["value"] (defScope s_is_integer) := ⟨rfl, rfl, rfl, by decide +kernel, rfl, by decide +kernel, by decide +kernel⟩
theorem ok_is_integer {P : Program} {w : World} {K : PySem.W.Frag} {mg : Str → Option Value} {base : Heap} {k : Nat} {f : Addr} {fd : FuncData} (T : Top K mg) (F : FnAt K "is_integer" "is_integer" s_is_integer f fd)
     :
    FnD P w K mg base (k + 1) f fd ["value"] (defF ["value"] (b_is_integer )) :=
  fnD F sc_is_integer fun cdv A outer s H E hr gd => by
    have sc := sc_is_integer
    have hu := hr.units
    have hu1 := hu_of hr
    exact
      (xs_one (xs_ret (xe_and (xe_isi (T := "int") (by decide) (by decide +kernel) T.z_isinstance T.z_int (by decide) (by decide) (xv 0)) (xe_one (xe_not (xe_isi (T := "bool") (by decide) (by decide +kernel) T.z_isinstance T.z_bool (by decide) (by decide) (xv 0)))))))
theorem sc_is_name : FnScope ["value", "sign"] ["value"] (defScope s_is_name) := ⟨rfl, rfl, rfl, by decide +kernel, rfl, by decide +kernel, by decide +kernel⟩
theorem ok_is_name {P : Program} {w : World} {K : PySem.W.Frag} {mg : Str → Option Value} {base : Heap} {k : Nat} {f : Addr} {fd : FuncData} (T : Top K mg) (F : FnAt K "is_name" "is_name" s_is_name f fd)
     :
    FnD P w K mg base (k + 1) f fd ["value"] (defF ["value", "sign"] (b_is_name )) :=
  fnD F sc_is_name fun cdv A outer s H E hr gd => by
    have sc := sc_is_name
    have hu := hr.units
    have hu1 := hu_of hr
    exact
      (xs_cons (xs_if (xt_w (xw_or (xt_not (xt_tru (xe_isi (T := "str") (by decide) (by decide +kernel) T.z_isinstance T.z_str (by decide) (by decide) (xv 0)))) (xw_or1 (xt_not (xt_chain L2.op_le o2_intB L2.op_le o2_intB xe_int (xe_len T.z_len (xa_cons (xv 0) xa_nil)) (xe_gint T.c_MOST_LETTERS)))))) (xs_one (xs_ret xe_bl)) xs_nil)
      (xs_one (xs_ret (xe_all rfl T.z_all (xa_cons (xe_lc (own := [("sign", 1)]) mkF_ok rfl sc.nd (xi_seq (xv 0)) (blkOk_by (by kernel_rfl)) (fun _ _ _ _ _ => (xg_name (i := 1) (vs := [1]) sc.nd rfl (by first | exact .inl rfl | exact .inr rfl) (by decide))) (fun _ _ _ _ _ => xts_nil) (fun _ _ _ _ _ => (xe_cmp (opr_in hu1) o2_in (xv 1) (xe_gstr T.c_LETTERS) (by rfl)))) xa_nil)))))
theorem sc_is_pairs : FnScope ["pairs", "room", "pair", "names", "name"] ["pairs", "room"] (defScope s_is_pairs) := ⟨rfl, rfl, rfl, by decide +kernel, rfl, by decide +kernel, by decide +kernel⟩
theorem ok_is_pairs {P : Program} {w : World} {K : PySem.W.Frag} {mg : Str → Option Value} {base : Heap} {k : Nat} {f : Addr} {fd : FuncData} (T : Top K mg) (F : FnAt K "is_pairs" "is_pairs" s_is_pairs f fd)
    {a_is_name : Addr} {d_is_name : FuncData} {f_is_name : List D → GH → R D}
    (t_is_name : Tx K mg "is_name" ["value"] [] a_is_name d_is_name)
    (g_is_name : FnD P w K mg base k a_is_name d_is_name ["value"] f_is_name)
    {a_is_tree : Addr} {d_is_tree : FuncData} {f_is_tree : List D → GH → R D}
    (t_is_tree : Tx K mg "is_tree" ["value", "room"] [] a_is_tree d_is_tree)
    (g_is_tree : FnD P w K mg base k a_is_tree d_is_tree ["value", "room"] f_is_tree) :
    FnD P w K mg base (k + 1) f fd ["pairs", "room"] (defF ["pairs", "room", "pair", "names", "name"] (b_is_pairs f_is_name f_is_tree)) :=
  fnD F sc_is_pairs fun cdv A outer s H E hr gd => by
    have sc := sc_is_pairs
    have hu := hr.units
    have hu1 := hu_of hr
    exact
      (xs_cons (xs_if (xt_w (xw_or (xt_not (xt_tru (xe_isi (T := "tuple") (by decide) (by decide +kernel) T.z_isinstance T.z_tuple (by decide) (by decide) (xv 0)))) (xw_or1 (xt_not (xt_tru (xe_all rfl T.z_all (xa_cons (xe_lc (own := [("pair", 2)]) mkF_ok rfl sc.nd (xi_seq (xv 0)) (blkOk_by (by kernel_rfl)) (fun _ _ _ _ _ => (xg_name (i := 2) (vs := [2]) sc.nd rfl (by first | exact .inl rfl | exact .inr rfl) (by decide))) (fun _ _ _ _ _ => xts_nil) (fun _ _ _ _ _ => (xe_and (xe_isi (T := "tuple") (by decide) (by decide +kernel) T.z_isinstance T.z_tuple (by decide) (by decide) (xv 2)) (xe_one (xe_cmp (L2.op_eqD hu) o2_eq (xe_len T.z_len (xa_cons (xv 2) xa_nil)) xe_int (by rfl)))))) xa_nil))))))) (xs_one (xs_ret xe_bl)) xs_nil)
      (xs_cons (xs_setLc (own := [("pair", 2)]) (i := 3) mkF_ok rfl sc.nd rfl rfl (sw_true rfl rfl rfl (by decide +kernel)) (xi_seq (xv 0)) (blkOk_by (by kernel_rfl)) (fun _ _ _ _ _ => (xg_name (i := 2) (vs := [2]) sc.nd rfl (by first | exact .inl rfl | exact .inr rfl) (by decide))) (fun _ _ _ _ _ => xts_nil) (fun _ _ _ _ _ => (xe_ix hu1 (xv 2) xe_int)))
      (xs_cons (xs_if (xt_w (xw_or (xt_not (xt_tru (xe_all rfl T.z_all (xa_cons (xe_lc (own := [("name", 4)]) mkF_ok rfl sc.nd (xi_seq (xv 3)) (blkOk_by (by kernel_rfl)) (fun _ _ _ _ _ => (xg_name (i := 4) (vs := [4]) sc.nd rfl (by first | exact .inl rfl | exact .inr rfl) (by decide))) (fun _ _ _ _ _ => xts_nil) (fun _ _ _ _ _ => (xe_call takes0 hr gd t_is_name g_is_name (fun _ => Reps.nil) rfl (xa_cons (xv 4) xa_nil)))) xa_nil)))) (xw_or1 (xt_cmp (L2.op_neD hu) o2_ne (xe_lenSet rfl T.z_len T.z_set (xv 3)) (xe_len T.z_len (xa_cons (xv 3) xa_nil)) (by rfl))))) (xs_one (xs_ret xe_bl)) xs_nil)
      (xs_one (xs_ret (xe_all rfl T.z_all (xa_cons (xe_lc (own := [("pair", 2)]) mkF_ok rfl sc.nd (xi_seq (xv 0)) (blkOk_by (by kernel_rfl)) (fun _ _ _ _ _ => (xg_name (i := 2) (vs := [2]) sc.nd rfl (by first | exact .inl rfl | exact .inr rfl) (by decide))) (fun _ _ _ _ _ => xts_nil) (fun _ _ _ _ _ => (xe_call takes0 hr gd t_is_tree g_is_tree (fun _ => Reps.nil) rfl (xa_cons (xe_ix hu1 (xv 2) xe_int) (xa_cons (xv 1) xa_nil))))) xa_nil)))))))
theorem sc_is_tree : FnScope ["value", "room", "names", "name", "node"] ["value", "room"] (defScope s_is_tree) := ⟨rfl, rfl, rfl, by decide +kernel, rfl, by decide +kernel, by decide +kernel⟩
theorem ok_is_tree {P : Program} {w : World} {K : PySem.W.Frag} {mg : Str → Option Value} {base : Heap} {k : Nat} {f : Addr} {fd : FuncData} (T : Top K mg) (F : FnAt K "is_tree" "is_tree" s_is_tree f fd)
    {a_is_integer : Addr} {d_is_integer : FuncData} {f_is_integer : List D → GH → R D}
    (t_is_integer : Tx K mg "is_integer" ["value"] [] a_is_integer d_is_integer)
    (g_is_integer : FnD P w K mg base k a_is_integer d_is_integer ["value"] f_is_integer)
    {a_is_pairs : Addr} {d_is_pairs : FuncData} {f_is_pairs : List D → GH → R D}
    (t_is_pairs : Tx K mg "is_pairs" ["pairs", "room"] [] a_is_pairs d_is_pairs)
    (g_is_pairs : FnD P w K mg base k a_is_pairs d_is_pairs ["pairs", "room"] f_is_pairs) :
    FnD P w K mg base (k + 1) f fd ["value", "room"] (defF ["value", "room", "names", "name", "node"] (b_is_tree f_is_integer f_is_pairs)) :=
  fnD F sc_is_tree fun cdv A outer s H E hr gd => by
    have sc := sc_is_tree
    have hu := hr.units
    have hu1 := hu_of hr
    exact
      (xs_cons (xs_if (xt_w (xw_or (xt_cmp (L2.op_eqD hu) o2_eq (xv 1) xe_int (by rfl)) (xw_or (xt_not (xt_tru (xe_isi (T := "tuple") (by decide) (by decide +kernel) T.z_isinstance T.z_tuple (by decide) (by decide) (xv 0)))) (xw_or1 (xt_cmp (L2.op_neD hu) o2_ne (xe_len T.z_len (xa_cons (xv 0) xa_nil)) xe_int (by rfl)))))) (xs_one (xs_ret xe_bl)) xs_nil)
      (xs_cons (xs_if (xt_cmp (L2.op_eqD hu) o2_eq (xe_ix hu1 (xv 0) xe_int) xe_str (by rfl)) (xs_cons (xs_if (xt_tru (xe_call tkB hr gd t_is_integer g_is_integer (fun _ => Reps.nil) rfl (xa_cons (xe_ix hu1 (xv 0) xe_int) xa_nil))) (xs_one (xs_ret (xe_chain L2.op_lt o2_intB L2.op_lt o2_intB (xe_neg (xe_gint T.c_BOUND)) (xe_ix hu1 (xv 0) xe_int) (xe_gint T.c_BOUND)))) xs_nil)
      (xs_one (xs_ret (xe_isi (T := "str") (by decide) (by decide +kernel) T.z_isinstance T.z_str (by decide) (by decide) (xe_ix hu1 (xv 0) xe_int))))) xs_nil)
      (xs_cons (xs_if (xt_w (xw_or (xt_cmp (opr_notIn hu1) o2_notIn (xe_ix hu1 (xv 0) xe_int) (xe_tup (xa_cons xe_str (xa_cons xe_str xa_nil))) (by rfl)) (xw_or1 (xt_not (xt_tru (xe_call tkB hr gd t_is_pairs g_is_pairs (fun _ => Reps.nil) rfl (xa_cons (xe_ix hu1 (xv 0) xe_int) (xa_cons (xe_op opr_sub o2_sub (xv 1) xe_int) xa_nil)))))))) (xs_one (xs_ret xe_bl)) xs_nil)
      (xs_cons (xs_setLc (own := [("name", 3), ("node", 4)]) (i := 2) mkF_ok rfl sc.nd rfl rfl (sw_true rfl rfl rfl (by decide +kernel)) (xi_seq (xe_ix hu1 (xv 0) xe_int)) (blkOk_by (by kernel_rfl)) (fun _ _ _ _ _ => (xg_tup (us := [3, 4]) rfl (xgs_cons (xg_name (i := 3) (vs := [3, 4]) sc.nd rfl (by first | exact .inl rfl | exact .inr rfl) (by decide)) (xgs_cons (xg_name (i := 4) (vs := [3, 4]) sc.nd rfl (by first | exact .inl rfl | exact .inr rfl) (by decide)) xgs_nil)))) (fun _ _ _ _ _ => xts_nil) (fun _ _ _ _ _ => (xv 3)))
      (xs_one (xs_ret (xe_or (xe_cmp (L2.op_eqD hu) o2_eq (xe_ix hu1 (xv 0) xe_int) xe_str (by rfl)) (xe_one (xe_cmp (L2.op_eqD hu) o2_eq (xv 2) (xe_sorted2 mkF_ok rfl hu T.z_sorted (xa_cons (xv 2) xa_nil)) (by rfl))))))))))
theorem sc_count_of : FnScope ["tree", "name", "node"] ["tree"] (defScope s_count_of) := ⟨rfl, rfl, rfl, by decide +kernel, rfl, by decide +kernel, by decide +kernel⟩
theorem ok_count_of {P : Program} {w : World} {K : PySem.W.Frag} {mg : Str → Option Value} {base : Heap} {k : Nat} {f : Addr} {fd : FuncData} (T : Top K mg) (F : FnAt K "count_of" "count_of" s_count_of f fd)
    {a_count_of : Addr} {d_count_of : FuncData} {f_count_of : List D → GH → R D}
    (t_count_of : Tx K mg "count_of" ["tree"] [] a_count_of d_count_of)
    (g_count_of : FnD P w K mg base k a_count_of d_count_of ["tree"] f_count_of) :
    FnD P w K mg base (k + 1) f fd ["tree"] (defF ["tree", "name", "node"] (b_count_of f_count_of)) :=
  fnD F sc_count_of fun cdv A outer s H E hr gd => by
    have sc := sc_count_of
    have hu := hr.units
    have hu1 := hu_of hr
    exact
      (xs_cons (xs_if (xt_cmp (L2.op_eqD hu) o2_eq (xe_ix hu1 (xv 0) xe_int) xe_str (by rfl)) (xs_one (xs_ret xe_int)) xs_nil)
      (xs_one (xs_ret (xe_sum rfl T.z_sum (xa_cons (xe_lc (own := [("name", 1), ("node", 2)]) mkF_ok rfl sc.nd (xi_seq (xe_ix hu1 (xv 0) xe_int)) (blkOk_by (by kernel_rfl)) (fun _ _ _ _ _ => (xg_tup (us := [1, 2]) rfl (xgs_cons (xg_name (i := 1) (vs := [1, 2]) sc.nd rfl (by first | exact .inl rfl | exact .inr rfl) (by decide)) (xgs_cons (xg_name (i := 2) (vs := [1, 2]) sc.nd rfl (by first | exact .inl rfl | exact .inr rfl) (by decide)) xgs_nil)))) (fun _ _ _ _ _ => xts_nil) (fun _ _ _ _ _ => (xe_op opr_add (o2_add mkF_ok) xe_int (xe_call takes0 hr gd t_count_of g_count_of (fun _ => Reps.nil) rfl (xa_cons (xv 2) xa_nil))))) xa_nil)))))
theorem sc_check_tree : FnScope ["tree"] ["tree"] (defScope s_check_tree) := ⟨rfl, rfl, rfl, by decide +kernel, rfl, by decide +kernel, by decide +kernel⟩
theorem ok_check_tree {P : Program} {w : World} {K : PySem.W.Frag} {mg : Str → Option Value} {base : Heap} {k : Nat} {f : Addr} {fd : FuncData} (T : Top K mg) (F : FnAt K "check_tree" "check_tree" s_check_tree f fd)
    {a_is_tree : Addr} {d_is_tree : FuncData} {f_is_tree : List D → GH → R D}
    (t_is_tree_1 : Tx K mg "is_tree" ["value", "room"] [V.int 6] a_is_tree d_is_tree)
    (g_is_tree : FnD P w K mg base k a_is_tree d_is_tree ["value", "room"] f_is_tree)
    {a_count_of : Addr} {d_count_of : FuncData} {f_count_of : List D → GH → R D}
    (t_count_of : Tx K mg "count_of" ["tree"] [] a_count_of d_count_of)
    (g_count_of : FnD P w K mg base k a_count_of d_count_of ["tree"] f_count_of) :
    FnD P w K mg base (k + 1) f fd ["tree"] (defF ["tree"] (b_check_tree f_is_tree f_count_of)) :=
  fnD F sc_check_tree fun cdv A outer s H E hr gd => by
    have sc := sc_check_tree
    have hu := hr.units
    have hu1 := hu_of hr
    exact
      (xs_cons (xs_if (xt_not (xt_tru (xe_call tkB hr gd t_is_tree_1 g_is_tree (fun _ => (Reps.cons (Rep.int _) Reps.nil)) rfl (xa_cons (xv 0) xa_nil)))) (xs_one xs_dead) xs_nil)
      (xs_one (xs_if (xt_cmp L2.op_gt o2_intB (xe_call tkB hr gd t_count_of g_count_of (fun _ => Reps.nil) rfl (xa_cons (xv 0) xa_nil)) (xe_gint T.c_MOST_NODES) (by rfl)) (xs_one xs_dead) xs_nil)))
theorem sc_check_path : FnScope ["path", "name"] ["path"] (defScope s_check_path) := ⟨rfl, rfl, rfl, by decide +kernel, rfl, by decide +kernel, by decide +kernel⟩
theorem ok_check_path {P : Program} {w : World} {K : PySem.W.Frag} {mg : Str → Option Value} {base : Heap} {k : Nat} {f : Addr} {fd : FuncData} (T : Top K mg) (F : FnAt K "check_path" "check_path" s_check_path f fd)
    {a_is_name : Addr} {d_is_name : FuncData} {f_is_name : List D → GH → R D}
    (t_is_name : Tx K mg "is_name" ["value"] [] a_is_name d_is_name)
    (g_is_name : FnD P w K mg base k a_is_name d_is_name ["value"] f_is_name) :
    FnD P w K mg base (k + 1) f fd ["path"] (defF ["path", "name"] (b_check_path f_is_name)) :=
  fnD F sc_check_path fun cdv A outer s H E hr gd => by
    have sc := sc_check_path
    have hu := hr.units
    have hu1 := hu_of hr
    exact
      (xs_one (xs_if (xt_w (xw_or (xt_not (xt_tru (xe_isi (T := "tuple") (by decide) (by decide +kernel) T.z_isinstance T.z_tuple (by decide) (by decide) (xv 0)))) (xw_or1 (xt_not (xt_tru (xe_all rfl T.z_all (xa_cons (xe_lc (own := [("name", 1)]) mkF_ok rfl sc.nd (xi_seq (xv 0)) (blkOk_by (by kernel_rfl)) (fun _ _ _ _ _ => (xg_name (i := 1) (vs := [1]) sc.nd rfl (by first | exact .inl rfl | exact .inr rfl) (by decide))) (fun _ _ _ _ _ => xts_nil) (fun _ _ _ _ _ => (xe_call takes0 hr gd t_is_name g_is_name (fun _ => Reps.nil) rfl (xa_cons (xv 1) xa_nil)))) xa_nil))))))) (xs_one xs_dead) xs_nil))
theorem sc_all_nodes : FnScope ["tree", "path", "found", "name", "node"] ["tree", "path"] (defScope s_all_nodes) := ⟨rfl, rfl, rfl, by decide +kernel, rfl, by decide +kernel, by decide +kernel⟩
theorem ok_all_nodes {P : Program} {w : World} {K : PySem.W.Frag} {mg : Str → Option Value} {base : Heap} {k : Nat} {f : Addr} {fd : FuncData} (T : Top K mg) (F : FnAt K "all_nodes" "all_nodes" s_all_nodes f fd)
    {a_all_nodes : Addr} {d_all_nodes : FuncData} {f_all_nodes : List D → GH → R D}
    (t_all_nodes : Tx K mg "all_nodes" ["tree", "path"] [] a_all_nodes d_all_nodes)
    (g_all_nodes : FnD P w K mg base k a_all_nodes d_all_nodes ["tree", "path"] f_all_nodes) :
    FnD P w K mg base (k + 1) f fd ["tree", "path"] (defF ["tree", "path", "found", "name", "node"] (b_all_nodes f_all_nodes)) :=
  fnD F sc_all_nodes fun cdv A outer s H E hr gd => by
    have sc := sc_all_nodes
    have hu := hr.units
    have hu1 := hu_of hr
    exact
      (xs_cons (xs_set (i := 2) sc.nd rfl (by first | exact .inl rfl | exact .inr rfl) (xe_lstM (xa_cons (xe_tup (xa_cons (xv 1) (xa_cons (xv 0) xa_nil))) xa_nil)))
      (xs_cons (xs_if (xt_cmp (L2.op_neD hu) o2_ne (xe_ix hu1 (xv 0) xe_int) xe_str (by rfl)) (xs_one (xs_for (us := [3, 4]) psB rfl (xi_seq (xe_ix hu1 (xv 0) xe_int)) (xg_tup (us := [3, 4]) rfl (xgs_cons (xg_name (i := 3) (vs := [3, 4]) sc.nd rfl (by first | exact .inl rfl | exact .inr rfl) (by decide)) (xgs_cons (xg_name (i := 4) (vs := [3, 4]) sc.nd rfl (by first | exact .inl rfl | exact .inr rfl) (by decide)) xgs_nil)))
        (xs_one (xs_augE (i := 2) sc.nd rfl (by first | exact .inl rfl | exact .inr rfl) (xe_call tkB hr gd t_all_nodes g_all_nodes (fun _ => Reps.nil) rfl (xa_cons (xv 4) (xa_cons (xe_op opr_add (o2_add mkF_ok) (xv 1) (xe_tup (xa_cons (xv 3) xa_nil))) xa_nil))))))) xs_nil)
      (xs_one (xs_ret (xv 2)))))
theorem sc_fields : FnScope ["tree", "path", "node"] ["tree"] (defScope s_fields) := ⟨rfl, rfl, rfl, by decide +kernel, rfl, by decide +kernel, by decide +kernel⟩
theorem ok_fields {P : Program} {w : World} {K : PySem.W.Frag} {mg : Str → Option Value} {base : Heap} {k : Nat} {f : Addr} {fd : FuncData} (T : Top K mg) (F : FnAt K "fields" "fields" s_fields f fd)
    {a_check_tree : Addr} {d_check_tree : FuncData} {f_check_tree : List D → GH → R D}
    (t_check_tree : Tx K mg "check_tree" ["tree"] [] a_check_tree d_check_tree)
    (g_check_tree : FnD P w K mg base k a_check_tree d_check_tree ["tree"] f_check_tree)
    {a_all_nodes : Addr} {d_all_nodes : FuncData} {f_all_nodes : List D → GH → R D}
    {e0_all_nodes : Addr} (e_all_nodes : EmpT K e0_all_nodes)
    (t_all_nodes_1 : Tx K mg "all_nodes" ["tree", "path"] [V.ref e0_all_nodes] a_all_nodes d_all_nodes)
    (g_all_nodes : FnD P w K mg base k a_all_nodes d_all_nodes ["tree", "path"] f_all_nodes) :
    FnD P w K mg base (k + 1) f fd ["tree"] (defF ["tree", "path", "node"] (b_fields f_check_tree f_all_nodes)) :=
  fnD F sc_fields fun cdv A outer s H E hr gd => by
    have sc := sc_fields
    have hu := hr.units
    have hu1 := hu_of hr
    exact
      (xs_cons (xs_expr (xe_call tkB hr gd t_check_tree g_check_tree (fun _ => Reps.nil) rfl (xa_cons (xv 0) xa_nil)))
      (xs_one (xs_ret (xe_sl mkM_ok (xe_sorted2 mkF_ok rfl hu T.z_sorted (xa_cons (xe_lc (own := [("path", 1), ("node", 2)]) mkF_ok rfl sc.nd (xi_seq (xe_call tkB hr gd t_all_nodes_1 g_all_nodes (fun _ => (Reps.cons (EmpT.rep e_all_nodes) Reps.nil)) rfl (xa_cons (xv 0) xa_nil))) (blkOk_by (by kernel_rfl)) (fun _ _ _ _ _ => (xg_tup (us := [1, 2]) rfl (xgs_cons (xg_name (i := 1) (vs := [1, 2]) sc.nd rfl (by first | exact .inl rfl | exact .inr rfl) (by decide)) (xgs_cons (xg_name (i := 2) (vs := [1, 2]) sc.nd rfl (by first | exact .inl rfl | exact .inr rfl) (by decide)) xgs_nil)))) (fun _ _ _ _ _ => xts_nil) (fun _ _ _ _ _ => (xv 1))) xa_nil)) (xO.some xe_int) xO.none))))
theorem sc_find_node : FnScope ["tree", "path", "name"] ["tree", "path"] (defScope s_find_node) := ⟨rfl, rfl, rfl, by decide +kernel, rfl, by decide +kernel, by decide +kernel⟩
theorem ok_find_node {P : Program} {w : World} {K : PySem.W.Frag} {mg : Str → Option Value} {base : Heap} {k : Nat} {f : Addr} {fd : FuncData} (T : Top K mg) (F : FnAt K "find_node" "find_node" s_find_node f fd)
     :
    FnD P w K mg base (k + 1) f fd ["tree", "path"] (defF ["tree", "path", "name"] (b_find_node )) :=
  fnD F sc_find_node fun cdv A outer s H E hr gd => by
    have sc := sc_find_node
    have hu := hr.units
    have hu1 := hu_of hr
    exact
      (xs_cons (xs_for (us := [2]) psB rfl (xi_seq (xv 1)) (xg_name (i := 2) (vs := [2]) sc.nd rfl (by first | exact .inl rfl | exact .inr rfl) (by decide))
        (xs_cons (xs_if (xt_w (xw_or (xt_cmp (L2.op_eqD hu) o2_eq (xe_ix hu1 (xv 0) xe_int) xe_str (by rfl)) (xw_or1 (xt_cmp (opr_notIn hu1) o2_notIn (xv 2) (xe_dict1 mkKF_ok rfl T.z_dict (xa_cons (xe_ix hu1 (xv 0) xe_int) xa_nil)) (by rfl))))) (xs_one (xs_ret xe_non)) xs_nil)
      (xs_one (xs_set (i := 0) sc.nd rfl (by first | exact .inl rfl | exact .inr rfl) (xe_ix hu1 (xe_dict1 mkKF_ok rfl T.z_dict (xa_cons (xe_ix hu1 (xv 0) xe_int) xa_nil)) (xv 2))))))
      (xs_one (xs_ret (xv 0))))
theorem sc_node_at : FnScope ["tree", "path"] ["tree", "path"] (defScope s_node_at) := ⟨rfl, rfl, rfl, by decide +kernel, rfl, by decide +kernel, by decide +kernel⟩
theorem ok_node_at {P : Program} {w : World} {K : PySem.W.Frag} {mg : Str → Option Value} {base : Heap} {k : Nat} {f : Addr} {fd : FuncData} (T : Top K mg) (F : FnAt K "node_at" "node_at" s_node_at f fd)
    {a_check_tree : Addr} {d_check_tree : FuncData} {f_check_tree : List D → GH → R D}
    (t_check_tree : Tx K mg "check_tree" ["tree"] [] a_check_tree d_check_tree)
    (g_check_tree : FnD P w K mg base k a_check_tree d_check_tree ["tree"] f_check_tree)
    {a_check_path : Addr} {d_check_path : FuncData} {f_check_path : List D → GH → R D}
    (t_check_path : Tx K mg "check_path" ["path"] [] a_check_path d_check_path)
    (g_check_path : FnD P w K mg base k a_check_path d_check_path ["path"] f_check_path)
    {a_find_node : Addr} {d_find_node : FuncData} {f_find_node : List D → GH → R D}
    (t_find_node : Tx K mg "find_node" ["tree", "path"] [] a_find_node d_find_node)
    (g_find_node : FnD P w K mg base k a_find_node d_find_node ["tree", "path"] f_find_node) :
    FnD P w K mg base (k + 1) f fd ["tree", "path"] (defF ["tree", "path"] (b_node_at f_check_tree f_check_path f_find_node)) :=
  fnD F sc_node_at fun cdv A outer s H E hr gd => by
    have sc := sc_node_at
    have hu := hr.units
    have hu1 := hu_of hr
    exact
      (xs_cons (xs_expr (xe_call tkB hr gd t_check_tree g_check_tree (fun _ => Reps.nil) rfl (xa_cons (xv 0) xa_nil)))
      (xs_cons (xs_expr (xe_call tkB hr gd t_check_path g_check_path (fun _ => Reps.nil) rfl (xa_cons (xv 1) xa_nil)))
      (xs_one (xs_ret (xe_call tkB hr gd t_find_node g_find_node (fun _ => Reps.nil) rfl (xa_cons (xv 0) (xa_cons (xv 1) xa_nil)))))))
theorem sc_cut : FnScope ["tree", "path", "pairs", "name", "node"] ["tree", "path"] (defScope s_cut) := ⟨rfl, rfl, rfl, by decide +kernel, rfl, by decide +kernel, by decide +kernel⟩
theorem ok_cut {P : Program} {w : World} {K : PySem.W.Frag} {mg : Str → Option Value} {base : Heap} {k : Nat} {f : Addr} {fd : FuncData} (T : Top K mg) (F : FnAt K "cut" "cut" s_cut f fd)
    {a_cut : Addr} {d_cut : FuncData} {f_cut : List D → GH → R D}
    (t_cut : Tx K mg "cut" ["tree", "path"] [] a_cut d_cut)
    (g_cut : FnD P w K mg base k a_cut d_cut ["tree", "path"] f_cut) :
    FnD P w K mg base (k + 1) f fd ["tree", "path"] (defF ["tree", "path", "pairs", "name", "node"] (b_cut f_cut)) :=
  fnD F sc_cut fun cdv A outer s H E hr gd => by
    have sc := sc_cut
    have hu := hr.units
    have hu1 := hu_of hr
    exact
      (xs_cons (xs_set (i := 2) sc.nd rfl (by first | exact .inl rfl | exact .inr rfl) (xe_lstM xa_nil))
      (xs_cons (xs_for (us := [3, 4]) psB rfl (xi_seq (xe_ix hu1 (xv 0) xe_int)) (xg_tup (us := [3, 4]) rfl (xgs_cons (xg_name (i := 3) (vs := [3, 4]) sc.nd rfl (by first | exact .inl rfl | exact .inr rfl) (by decide)) (xgs_cons (xg_name (i := 4) (vs := [3, 4]) sc.nd rfl (by first | exact .inl rfl | exact .inr rfl) (by decide)) xgs_nil)))
        (xs_one (xs_if (xt_cmp (L2.op_neD hu) o2_ne (xv 3) (xe_ix hu1 (xv 1) xe_int) (by rfl)) (xs_one (xs_expr (xe_append (xv 2) (xa_cons (xe_tup (xa_cons (xv 3) (xa_cons (xv 4) xa_nil))) xa_nil)))) (xs_one (xs_if (xt_cmp L2.op_gt o2_intB (xe_len T.z_len (xa_cons (xv 1) xa_nil)) xe_int (by rfl)) (xs_one (xs_expr (xe_append (xv 2) (xa_cons (xe_tup (xa_cons (xv 3) (xa_cons (xe_call tkB hr gd t_cut g_cut (fun _ => Reps.nil) rfl (xa_cons (xv 4) (xa_cons (xe_sl mkF_ok (xv 1) (xO.some xe_int) xO.none) xa_nil))) xa_nil))) xa_nil)))) xs_nil)))))
      (xs_one (xs_ret (xe_tup (xa_cons (xe_ix hu1 (xv 0) xe_int) (xa_cons (xe_tupleP T.z_tuple (xa_cons (xv 2) xa_nil)) xa_nil)))))))
theorem sc_without_R : FnScope ["tree", "path"] ["tree", "path"] (defScope s_without_R) := ⟨rfl, rfl, rfl, by decide +kernel, rfl, by decide +kernel, by decide +kernel⟩
theorem ok_without_R {P : Program} {w : World} {K : PySem.W.Frag} {mg : Str → Option Value} {base : Heap} {k : Nat} {f : Addr} {fd : FuncData} (T : Top K mg) (F : FnAt K "without" "without" s_without_R f fd)
    {C_BadPath : Addr}
    {i_BadPath : Addr} {e_BadPath : FuncData} {ps_BadPath : List Str} {l_BadPath : Nat} (hr_BadPath : l_BadPath + 1 ≤ k) (r_BadPath : RsC P w K mg base l_BadPath "BadPath" C_BadPath i_BadPath e_BadPath ps_BadPath [] ["path", "why"] 1 (flS "path" "path"))
    {a_node_at : Addr} {d_node_at : FuncData} {f_node_at : List D → GH → R D}
    (t_node_at : Tx K mg "node_at" ["tree", "path"] [] a_node_at d_node_at)
    (g_node_at : FnD P w K mg base k a_node_at d_node_at ["tree", "path"] f_node_at)
    {a_cut : Addr} {d_cut : FuncData} {f_cut : List D → GH → R D}
    (t_cut : Tx K mg "cut" ["tree", "path"] [] a_cut d_cut)
    (g_cut : FnD P w K mg base k a_cut d_cut ["tree", "path"] f_cut) :
    FnD P w K mg base (k + 1) f fd ["tree", "path"] (defF ["tree", "path"] (b_without_R C_BadPath f_node_at f_cut)) :=
  fnD F sc_without_R fun cdv A outer s H E hr gd => by
    have sc := sc_without_R
    have hu := hr.units
    have hu1 := hu_of hr
    exact
      (xs_cons (xs_if (xt_w (xw_or (xt_cmp L2.op_isN o2_isN (xe_call tkB hr gd t_node_at g_node_at (fun _ => Reps.nil) rfl (xa_cons (xv 0) (xa_cons (xv 1) xa_nil))) xe_non (by rfl)) (xw_or1 (xt_cmp (L2.op_eqD hu) o2_eq (xv 1) (xe_tup xa_nil) (by rfl))))) (xs_one (xs_raise rfl tkB (hr.mono hr_BadPath) r_BadPath (flr_S "path" "path") rfl (by decide) (xa_cons (xv 1) xa_nil))) xs_nil)
      (xs_one (xs_ret (xe_call tkB hr gd t_cut g_cut (fun _ => Reps.nil) rfl (xa_cons (xv 0) (xa_cons (xv 1) xa_nil))))))
theorem sc__law_cell_at : FnScope ["_law_script", "_law_k"] ["_law_script", "_law_k"] (defScope s__law_cell_at) := ⟨rfl, rfl, rfl, by decide +kernel, rfl, by decide +kernel, by decide +kernel⟩
theorem ok__law_cell_at {P : Program} {w : World} {K : PySem.W.Frag} {mg : Str → Option Value} {base : Heap} {k : Nat} {f : Addr} {fd : FuncData} (T : Top K mg) (F : FnAt K "_law_cell_at" "_law_cell_at" s__law_cell_at f fd)
     :
    FnD P w K mg base (k + 1) f fd ["_law_script", "_law_k"] (defF ["_law_script", "_law_k"] (be__law_cell_at )) :=
  fnD F sc__law_cell_at fun cdv A outer s H E hr gd => by
    have sc := sc__law_cell_at
    have hu := hr.units
    have hu1 := hu_of hr
    exact
      (xs_cons (xs_if (xt_cmp L2.op_lt o2_intB (xv 1) (xe_len T.z_len (xa_cons (xv 0) xa_nil)) (by rfl)) (xs_one (xs_ret (xe_ix hu1 (xv 0) (xv 1)))) xs_nil)
      (xs_one (xs_ret xe_int)))
theorem sc__law_well : FnScope ["_law_cell"] ["_law_cell"] (defScope s__law_well) := ⟨rfl, rfl, rfl, by decide +kernel, rfl, by decide +kernel, by decide +kernel⟩
theorem ok__law_well {P : Program} {w : World} {K : PySem.W.Frag} {mg : Str → Option Value} {base : Heap} {k : Nat} {f : Addr} {fd : FuncData} (T : Top K mg) (F : FnAt K "_law_well" "_law_well" s__law_well f fd)
     :
    FnD P w K mg base (k + 1) f fd ["_law_cell"] (defF ["_law_cell"] (be__law_well )) :=
  fnD F sc__law_well fun cdv A outer s H E hr gd => by
    have sc := sc__law_well
    have hu := hr.units
    have hu1 := hu_of hr
    exact
      (xs_one (xs_ret (xe_lstM (xa_cons (xe_ix hu1 (xe_lst (xa_cons xe_int (xa_cons (xv 0) xa_nil))) (xe_int1 T.z_int (xa_cons (xe_cmp L2.op_ge o2_intB (xv 0) (xe_op L2.op_pow o2_pow xe_int xe_int) (by rfl)) xa_nil))) (xa_cons (xv 0) (xa_cons xe_int xa_nil))))))
theorem sc__law_draw : FnScope ["_law_well_here", "_law_many", "_law_found", "_law_salt", "_law_number"] ["_law_well_here", "_law_many"] (defScope s__law_draw) := ⟨rfl, rfl, rfl, by decide +kernel, rfl, by decide +kernel, by decide +kernel⟩
theorem ok__law_draw {P : Program} {w : World} {K : PySem.W.Frag} {mg : Str → Option Value} {base : Heap} {k : Nat} {f : Addr} {fd : FuncData} (T : Top K mg) (F : FnAt K "_law_draw" "_law_draw" s__law_draw f fd)
     :
    FnD P w K mg base (k + 1) f fd ["_law_well_here", "_law_many"] (defF ["_law_well_here", "_law_many", "_law_found", "_law_salt", "_law_number"] (be__law_draw )) :=
  fnD F sc__law_draw fun cdv A outer s H E hr gd => by
    have sc := sc__law_draw
    have hu := hr.units
    have hu1 := hu_of hr
    exact
      (xs_cons (xs_if (xt_cmp L2.op_gt o2_intB (xe_ix hu1 (xv 0) xe_int) xe_int (by rfl)) (xs_cons (xs_set (i := 2) sc.nd rfl (by first | exact .inl rfl | exact .inr rfl) (xe_op L2.op_mod o2_mod (xe_ix hu1 (xv 0) xe_int) (xv 1)))
      (xs_cons (xs_put hu1 (xe_op L2.op_fdivW o2_div (xe_ix hu1 (xv 0) xe_int) (xv 1)) (xv 0) xe_int)
      (xs_one (xs_ret (xv 2))))) xs_nil)
      (xs_cons (xs_put hu1 (xe_op opr_add (o2_add mkF_ok) (xe_ix hu1 (xv 0) xe_int) xe_int) (xv 0) xe_int)
      (xs_cons (xs_set (i := 3) sc.nd rfl (by first | exact .inl rfl | exact .inr rfl) (xe_op L2.op_mod o2_mod (xe_op L2.op_fdivW o2_div (xe_ix hu1 (xv 0) xe_int) xe_int) xe_int))
      (xs_cons (xs_set (i := 4) sc.nd rfl (by first | exact .inl rfl | exact .inr rfl) (xe_op L2.op_mod o2_mod (xe_op L2.op_pow o2_pow (xe_op opr_add (o2_add mkF_ok) (xe_op opr_add (o2_add mkF_ok) (xe_op opr_add (o2_add mkF_ok) (xe_op L2.op_mod o2_mod (xe_ix hu1 (xv 0) xe_int) xe_int) (xe_op L2.op_mul o2_mul xe_int (xe_ix hu1 (xv 0) xe_int))) (xv 3)) xe_int) xe_int) xe_int))
      (xs_cons (xs_set (i := 4) sc.nd rfl (by first | exact .inl rfl | exact .inr rfl) (xe_op L2.op_mod o2_mod (xe_op L2.op_mul o2_mul (xv 4) (xe_op opr_add (o2_add mkF_ok) (xe_op opr_add (o2_add mkF_ok) (xe_op L2.op_fdivW o2_div (xv 4) xe_int) xe_int) (xe_ix hu1 (xv 0) xe_int))) xe_int))
      (xs_one (xs_ret (xe_op L2.op_mod o2_mod (xe_op L2.op_mod o2_mod (xe_op L2.op_mul o2_mul (xv 4) (xe_op opr_add (o2_add mkF_ok) (xe_op L2.op_fdivW o2_div (xv 4) xe_int) xe_int)) xe_int) (xv 1)))))))))
theorem sc__law_one : FnScope ["_law_well_here", "_law_some"] ["_law_well_here", "_law_some"] (defScope s__law_one) := ⟨rfl, rfl, rfl, by decide +kernel, rfl, by decide +kernel, by decide +kernel⟩
theorem ok__law_one {P : Program} {w : World} {K : PySem.W.Frag} {mg : Str → Option Value} {base : Heap} {k : Nat} {f : Addr} {fd : FuncData} (T : Top K mg) (F : FnAt K "_law_one" "_law_one" s__law_one f fd)
    {a__law_draw : Addr} {d__law_draw : FuncData} {f__law_draw : List D → GH → R D}
    (t__law_draw : Tx K mg "_law_draw" ["_law_well_here", "_law_many"] [] a__law_draw d__law_draw)
    (g__law_draw : FnD P w K mg base k a__law_draw d__law_draw ["_law_well_here", "_law_many"] f__law_draw) :
    FnD P w K mg base (k + 1) f fd ["_law_well_here", "_law_some"] (defF ["_law_well_here", "_law_some"] (be__law_one f__law_draw)) :=
  fnD F sc__law_one fun cdv A outer s H E hr gd => by
    have sc := sc__law_one
    have hu := hr.units
    have hu1 := hu_of hr
    exact
      (xs_one (xs_ret (xe_ix hu1 (xv 1) (xe_call tkB hr gd t__law_draw g__law_draw (fun _ => Reps.nil) rfl (xa_cons (xv 0) (xa_cons (xe_len T.z_len (xa_cons (xv 1) xa_nil)) xa_nil))))))
theorem sc__law_names : FnScope ["_law_well_here", "_law_most", "_law_left", "_law_k"] ["_law_well_here", "_law_most"] (defScope s__law_names) := ⟨rfl, rfl, rfl, by decide +kernel, rfl, by decide +kernel, by decide +kernel⟩
theorem ok__law_names {P : Program} {w : World} {K : PySem.W.Frag} {mg : Str → Option Value} {base : Heap} {k : Nat} {f : Addr} {fd : FuncData} (T : Top K mg) (F : FnAt K "_law_names" "_law_names" s__law_names f fd)
    {a__law_draw : Addr} {d__law_draw : FuncData} {f__law_draw : List D → GH → R D}
    (t__law_draw : Tx K mg "_law_draw" ["_law_well_here", "_law_many"] [] a__law_draw d__law_draw)
    (g__law_draw : FnD P w K mg base k a__law_draw d__law_draw ["_law_well_here", "_law_many"] f__law_draw) :
    FnD P w K mg base (k + 1) f fd ["_law_well_here", "_law_most"] (defF ["_law_well_here", "_law_most", "_law_left", "_law_k"] (be__law_names f__law_draw)) :=
  fnD F sc__law_names fun cdv A outer s H E hr gd => by
    have sc := sc__law_names
    have hu := hr.units
    have hu1 := hu_of hr
    exact
      (xs_cons (xs_set (i := 2) sc.nd rfl (by first | exact .inl rfl | exact .inr rfl) (xe_lstM (xa_cons xe_str (xa_cons xe_str (xa_cons xe_str (xa_cons xe_str (xa_cons xe_str xa_nil)))))))
      (xs_one (xs_ret (xe_lc (own := [("_law_k", 3)]) mkF_ok rfl sc.nd (xi_range1 rfl T.z_range (xa_cons (xe_call tkB hr gd t__law_draw g__law_draw (fun _ => Reps.nil) rfl (xa_cons (xv 0) (xa_cons (xe_op opr_add (o2_add mkF_ok) (xv 1) xe_int) xa_nil))) xa_nil)) (blkOk_by (by kernel_rfl)) (fun _ _ _ _ _ => (xg_name (i := 3) (vs := [3]) sc.nd rfl (by first | exact .inl rfl | exact .inr rfl) (by decide))) (fun _ _ _ _ _ => xts_nil) (fun _ _ _ _ _ => (xe_popAt (xv 2) (xa_cons (xe_call takes0 hr gd t__law_draw g__law_draw (fun _ => Reps.nil) rfl (xa_cons (xv 0) (xa_cons (xe_len T.z_len (xa_cons (xv 2) xa_nil)) xa_nil))) xa_nil)))))))
theorem sc__law_tree : FnScope ["_law_well_here", "_law_deep", "_law_most", "_law_way", "_law_names_here", "_law_name"] ["_law_well_here", "_law_deep", "_law_most"] (defScope s__law_tree) := ⟨rfl, rfl, rfl, by decide +kernel, rfl, by decide +kernel, by decide +kernel⟩
theorem ok__law_tree {P : Program} {w : World} {K : PySem.W.Frag} {mg : Str → Option Value} {base : Heap} {k : Nat} {f : Addr} {fd : FuncData} (T : Top K mg) (F : FnAt K "_law_tree" "_law_tree" s__law_tree f fd)
    {a__law_draw : Addr} {d__law_draw : FuncData} {f__law_draw : List D → GH → R D}
    (t__law_draw : Tx K mg "_law_draw" ["_law_well_here", "_law_many"] [] a__law_draw d__law_draw)
    (g__law_draw : FnD P w K mg base k a__law_draw d__law_draw ["_law_well_here", "_law_many"] f__law_draw)
    {a__law_one : Addr} {d__law_one : FuncData} {f__law_one : List D → GH → R D}
    (t__law_one : Tx K mg "_law_one" ["_law_well_here", "_law_some"] [] a__law_one d__law_one)
    (g__law_one : FnD P w K mg base k a__law_one d__law_one ["_law_well_here", "_law_some"] f__law_one)
    {a__law_names : Addr} {d__law_names : FuncData} {f__law_names : List D → GH → R D}
    (t__law_names : Tx K mg "_law_names" ["_law_well_here", "_law_most"] [] a__law_names d__law_names)
    (g__law_names : FnD P w K mg base k a__law_names d__law_names ["_law_well_here", "_law_most"] f__law_names)
    {a__law_tree : Addr} {d__law_tree : FuncData} {f__law_tree : List D → GH → R D}
    (t__law_tree : Tx K mg "_law_tree" ["_law_well_here", "_law_deep", "_law_most"] [] a__law_tree d__law_tree)
    (g__law_tree : FnD P w K mg base k a__law_tree d__law_tree ["_law_well_here", "_law_deep", "_law_most"] f__law_tree) :
    FnD P w K mg base (k + 1) f fd ["_law_well_here", "_law_deep", "_law_most"] (defF ["_law_well_here", "_law_deep", "_law_most", "_law_way", "_law_names_here", "_law_name"] (be__law_tree f__law_draw f__law_one f__law_names f__law_tree)) :=
  fnD F sc__law_tree fun cdv A outer s H E hr gd => by
    have sc := sc__law_tree
    have hu := hr.units
    have hu1 := hu_of hr
    exact
      (xs_cons (xs_set (i := 3) sc.nd rfl (by first | exact .inl rfl | exact .inr rfl) (xe_call tkB hr gd t__law_draw g__law_draw (fun _ => Reps.nil) rfl (xa_cons (xv 0) (xa_cons xe_int xa_nil))))
      (xs_cons (xs_if (xt_w (xw_or (xt_w (xw_and (xt_cmp L2.op_le o2_intB (xv 1) xe_int (by rfl)) (xw_and1 (xt_cmp L2.op_gt o2_intB (xv 3) xe_int (by rfl))))) (xw_or1 (xt_cmp (L2.op_eqD hu) o2_eq (xv 3) xe_int (by rfl))))) (xs_one (xs_ret (xe_tup (xa_cons xe_str (xa_cons (xe_call tkB hr gd t__law_one g__law_one (fun _ => Reps.nil) rfl (xa_cons (xv 0) (xa_cons (xe_lst (xa_cons xe_int (xa_cons xe_int (xa_cons (xe_neg xe_int) (xa_cons xe_str (xa_cons xe_str (xa_cons xe_str (xa_cons (xe_op L2.op_pow o2_pow xe_int xe_int) xa_nil)))))))) xa_nil))) xa_nil))))) xs_nil)
      (xs_cons (xs_if (xt_cmp L2.op_le o2_intB (xv 1) xe_int (by rfl)) (xs_one (xs_ret (xe_tup (xa_cons (xe_call tkB hr gd t__law_one g__law_one (fun _ => Reps.nil) rfl (xa_cons (xv 0) (xa_cons (xe_lst (xa_cons xe_str (xa_cons xe_str xa_nil))) xa_nil))) (xa_cons (xe_tupP xa_nil) xa_nil))))) xs_nil)
      (xs_cons (xs_set (i := 4) sc.nd rfl (by first | exact .inl rfl | exact .inr rfl) (xe_call tkB hr gd t__law_names g__law_names (fun _ => Reps.nil) rfl (xa_cons (xv 0) (xa_cons (xv 2) xa_nil))))
      (xs_cons (xs_if (xt_cmp (L2.op_eqD hu) o2_eq (xv 3) xe_int (by rfl)) (xs_one (xs_ret (xe_tup (xa_cons xe_str (xa_cons (xe_tupleP T.z_tuple (xa_cons (xe_lc (own := [("_law_name", 5)]) mkF_ok rfl sc.nd (xi_seq (xv 4)) (blkOk_by (by kernel_rfl)) (fun _ _ _ _ _ => (xg_name (i := 5) (vs := [5]) sc.nd rfl (by first | exact .inl rfl | exact .inr rfl) (by decide))) (fun _ _ _ _ _ => xts_nil) (fun _ _ _ _ _ => (xe_tup (xa_cons (xv 5) (xa_cons (xe_call takes0 hr gd t__law_tree g__law_tree (fun _ => Reps.nil) rfl (xa_cons (xv 0) (xa_cons (xe_op opr_sub o2_sub (xv 1) xe_int) (xa_cons (xe_max2 rfl T.z_max (xa_cons xe_int (xa_cons (xe_op opr_sub o2_sub (xv 2) xe_int) xa_nil))) xa_nil)))) xa_nil))))) xa_nil)) xa_nil))))) xs_nil)
      (xs_one (xs_ret (xe_tup (xa_cons xe_str (xa_cons (xe_tupleP T.z_tuple (xa_cons (xe_lc (own := [("_law_name", 5)]) mkF_ok rfl sc.nd (xi_seq (xe_sorted2 mkF_ok rfl hu T.z_sorted (xa_cons (xv 4) xa_nil))) (blkOk_by (by kernel_rfl)) (fun _ _ _ _ _ => (xg_name (i := 5) (vs := [5]) sc.nd rfl (by first | exact .inl rfl | exact .inr rfl) (by decide))) (fun _ _ _ _ _ => xts_nil) (fun _ _ _ _ _ => (xe_tup (xa_cons (xv 5) (xa_cons (xe_call takes0 hr gd t__law_tree g__law_tree (fun _ => Reps.nil) rfl (xa_cons (xv 0) (xa_cons (xe_op opr_sub o2_sub (xv 1) xe_int) (xa_cons (xe_max2 rfl T.z_max (xa_cons xe_int (xa_cons (xe_op opr_sub o2_sub (xv 2) xe_int) xa_nil))) xa_nil)))) xa_nil))))) xa_nil)) xa_nil))))))))))
theorem sc__law_nodes : FnScope ["_law_tree_here", "_law_path", "_law_found", "_law_name", "_law_node"] ["_law_tree_here", "_law_path"] (defScope s__law_nodes) := ⟨rfl, rfl, rfl, by decide +kernel, rfl, by decide +kernel, by decide +kernel⟩
theorem ok__law_nodes {P : Program} {w : World} {K : PySem.W.Frag} {mg : Str → Option Value} {base : Heap} {k : Nat} {f : Addr} {fd : FuncData} (T : Top K mg) (F : FnAt K "_law_nodes" "_law_nodes" s__law_nodes f fd)
    {a__law_nodes : Addr} {d__law_nodes : FuncData} {f__law_nodes : List D → GH → R D}
    (t__law_nodes : Tx K mg "_law_nodes" ["_law_tree_here", "_law_path"] [] a__law_nodes d__law_nodes)
    (g__law_nodes : FnD P w K mg base k a__law_nodes d__law_nodes ["_law_tree_here", "_law_path"] f__law_nodes) :
    FnD P w K mg base (k + 1) f fd ["_law_tree_here", "_law_path"] (defF ["_law_tree_here", "_law_path", "_law_found", "_law_name", "_law_node"] (be__law_nodes f__law_nodes)) :=
  fnD F sc__law_nodes fun cdv A outer s H E hr gd => by
    have sc := sc__law_nodes
    have hu := hr.units
    have hu1 := hu_of hr
    exact
      (xs_cons (xs_set (i := 2) sc.nd rfl (by first | exact .inl rfl | exact .inr rfl) (xe_lst (xa_cons (xe_tup (xa_cons (xv 1) (xa_cons (xv 0) xa_nil))) xa_nil)))
      (xs_cons (xs_if (xt_cmp (L2.op_neD hu) o2_ne (xe_ix hu1 (xv 0) xe_int) xe_str (by rfl)) (xs_one (xs_for (us := [3, 4]) psB rfl (xi_seq (xe_ix hu1 (xv 0) xe_int)) (xg_tup (us := [3, 4]) rfl (xgs_cons (xg_name (i := 3) (vs := [3, 4]) sc.nd rfl (by first | exact .inl rfl | exact .inr rfl) (by decide)) (xgs_cons (xg_name (i := 4) (vs := [3, 4]) sc.nd rfl (by first | exact .inl rfl | exact .inr rfl) (by decide)) xgs_nil)))
        (xs_one (xs_set (i := 2) sc.nd rfl (by first | exact .inl rfl | exact .inr rfl) (xe_op opr_add (o2_add mkF_ok) (xv 2) (xe_call tkB hr gd t__law_nodes g__law_nodes (fun _ => Reps.nil) rfl (xa_cons (xv 4) (xa_cons (xe_op opr_add (o2_add mkF_ok) (xv 1) (xe_tup (xa_cons (xv 3) xa_nil))) xa_nil)))))))) xs_nil)
      (xs_one (xs_ret (xv 2)))))
theorem sc__law_classes_of : FnScope ["_law_e", "_law_kinds"] ["_law_e"] (defScope s__law_classes_of) := ⟨rfl, rfl, rfl, by decide +kernel, rfl, by decide +kernel, by decide +kernel⟩
theorem ok__law_classes_of {P : Program} {w : World} {K : PySem.W.Frag} {mg : Str → Option Value} {base : Heap} {k : Nat} {f : Addr} {fd : FuncData} (T : Top K mg) (F : FnAt K "_law_classes_of" "_law_classes_of" s__law_classes_of f fd)
    {C_BadText : Addr}
    {C_BadStep : Addr}
    {C_BadPath : Addr}
    {C_BadOrders : Addr}
    {C_TooMany : Addr}
    {C_Refused : Addr}
    {C_BadWriter : Addr}
    {C_BadTree : Addr}
    {C_ClaimError : Addr}
    (y_BadText : mg "BadText" = some (.ref C_BadText))
    (y_BadStep : mg "BadStep" = some (.ref C_BadStep))
    (y_BadPath : mg "BadPath" = some (.ref C_BadPath))
    (y_BadOrders : mg "BadOrders" = some (.ref C_BadOrders))
    (y_TooMany : mg "TooMany" = some (.ref C_TooMany))
    (y_Refused : mg "Refused" = some (.ref C_Refused))
    (y_BadWriter : mg "BadWriter" = some (.ref C_BadWriter))
    (y_BadTree : mg "BadTree" = some (.ref C_BadTree))
    (y_ClaimError : mg "ClaimError" = some (.ref C_ClaimError)) :
    FnDH P w K mg base (k + 1) f fd ["_law_e"] (fun a d C => defF ["_law_e", "_law_kinds"] (be__law_classes_of C_BadText C_BadStep C_BadPath C_BadOrders C_TooMany C_Refused C_BadWriter C_BadTree C_ClaimError (kitK K) a d C)) :=
  fnDH F sc__law_classes_of fun cdv A outer s H E a d C oe hr gd hz hf hC => by
    have sc := sc__law_classes_of
    have hu := unitsH hr
    have hu1 := hu1H hr
    exact
      (xs_cons (xs_set (i := 1) sc.nd rfl (by first | exact .inl rfl | exact .inr rfl) (xe_lst (xa_cons (xe_isX (b := kitK K C C_BadOrders) hC.ex hz hf (List.mem_cons_self ..) T.z_isinstance y_BadOrders (fun _ h => h)) (xa_cons (xe_isX (b := kitK K C C_BadPath) hC.ex hz hf (List.mem_cons_self ..) T.z_isinstance y_BadPath (fun _ h => h)) (xa_cons (xe_isX (b := kitK K C C_BadStep) hC.ex hz hf (List.mem_cons_self ..) T.z_isinstance y_BadStep (fun _ h => h)) (xa_cons (xe_isX (b := kitK K C C_BadText) hC.ex hz hf (List.mem_cons_self ..) T.z_isinstance y_BadText (fun _ h => h)) xa_nil))))))
      (xs_cons (xs_set (i := 1) sc.nd rfl (by first | exact .inl rfl | exact .inr rfl) (xe_op opr_add (o2_add mkF_ok) (xv 1) (xe_lst (xa_cons (xe_isX (b := kitK K C C_BadTree) hC.ex hz hf (List.mem_cons_self ..) T.z_isinstance y_BadTree (fun _ h => h)) (xa_cons (xe_isX (b := kitK K C C_BadWriter) hC.ex hz hf (List.mem_cons_self ..) T.z_isinstance y_BadWriter (fun _ h => h)) (xa_cons (xe_isX (b := kitK K C C_Refused) hC.ex hz hf (List.mem_cons_self ..) T.z_isinstance y_Refused (fun _ h => h)) (xa_cons (xe_isX (b := kitK K C C_TooMany) hC.ex hz hf (List.mem_cons_self ..) T.z_isinstance y_TooMany (fun _ h => h)) xa_nil)))))))
      (xs_one (xs_ret (xe_op opr_add (o2_add mkF_ok) (xe_op opr_add (o2_add mkF_ok) (xe_countB (xv 1) (xa_cons xe_bl xa_nil)) (xe_int1 T.z_int (xa_cons (xe_not (xe_isX (b := kitK K C C_ClaimError) hC.ex hz hf (List.mem_cons_self ..) T.z_isinstance y_ClaimError (fun _ h => h))) xa_nil))) (xe_int1 T.z_int (xa_cons (xe_not (xe_isi (T := "str") (by decide) (by decide +kernel) T.z_isinstance T.z_str (by decide) (by decide) (xe_fld hC.xf (hC.no _ (by decide)) hz hf (List.mem_cons_self ..)))) xa_nil)))))))
theorem sc__law_pruned : FnScope ["_law_tree_here", "_law_path", "_law_gone", "_law_left", "_law_name", "_law_node"] ["_law_tree_here", "_law_path", "_law_gone"] (defScope s__law_pruned) := ⟨rfl, rfl, rfl, by decide +kernel, rfl, by decide +kernel, by decide +kernel⟩
theorem ok__law_pruned {P : Program} {w : World} {K : PySem.W.Frag} {mg : Str → Option Value} {base : Heap} {k : Nat} {f : Addr} {fd : FuncData} (T : Top K mg) (F : FnAt K "_law_pruned" "_law_pruned" s__law_pruned f fd)
    {a__law_pruned : Addr} {d__law_pruned : FuncData} {f__law_pruned : List D → GH → R D}
    (t__law_pruned : Tx K mg "_law_pruned" ["_law_tree_here", "_law_path", "_law_gone"] [] a__law_pruned d__law_pruned)
    (g__law_pruned : FnD P w K mg base k a__law_pruned d__law_pruned ["_law_tree_here", "_law_path", "_law_gone"] f__law_pruned) :
    FnD P w K mg base (k + 1) f fd ["_law_tree_here", "_law_path", "_law_gone"] (defF ["_law_tree_here", "_law_path", "_law_gone", "_law_left", "_law_name", "_law_node"] (be__law_pruned f__law_pruned)) :=
  fnD F sc__law_pruned fun cdv A outer s H E hr gd => by
    have sc := sc__law_pruned
    have hu := hr.units
    have hu1 := hu_of hr
    exact
      (xs_cons (xs_if (xt_cmp (L2.op_eqD hu) o2_eq (xe_ix hu1 (xv 0) xe_int) xe_str (by rfl)) (xs_one (xs_ret (xv 0))) xs_nil)
      (xs_cons (xs_setLc (own := [("_law_name", 4), ("_law_node", 5)]) (i := 3) mkF_ok rfl sc.nd rfl rfl (sw_true rfl rfl rfl (by decide +kernel)) (xi_seq (xe_ix hu1 (xv 0) xe_int)) (blkOk_by (by kernel_rfl)) (fun _ _ _ _ _ => (xg_tup (us := [4, 5]) rfl (xgs_cons (xg_name (i := 4) (vs := [4, 5]) sc.nd rfl (by first | exact .inl rfl | exact .inr rfl) (by decide)) (xgs_cons (xg_name (i := 5) (vs := [4, 5]) sc.nd rfl (by first | exact .inl rfl | exact .inr rfl) (by decide)) xgs_nil)))) (fun _ _ _ _ _ => (xts_one (xt_cmp (L2.op_neD hu) o2_ne (xe_op opr_add (o2_add mkF_ok) (xv 1) (xe_tup (xa_cons (xv 4) xa_nil))) (xv 2) (by rfl)))) (fun _ _ _ _ _ => (xe_tup (xa_cons (xv 4) (xa_cons (xe_call takes0 hr gd t__law_pruned g__law_pruned (fun _ => Reps.nil) rfl (xa_cons (xv 5) (xa_cons (xe_op opr_add (o2_add mkF_ok) (xv 1) (xe_tup (xa_cons (xv 4) xa_nil))) (xa_cons (xv 2) xa_nil)))) xa_nil)))))
      (xs_one (xs_ret (xe_tup (xa_cons (xe_ix hu1 (xv 0) xe_int) (xa_cons (xe_tupleP T.z_tuple (xa_cons (xv 3) xa_nil)) xa_nil)))))))
theorem sc__law_refused : FnScope ["_law_tree_here", "_law_path", "_law_e"] ["_law_tree_here", "_law_path"] (defScope s__law_refused) := ⟨rfl, rfl, rfl, by decide +kernel, rfl, by decide +kernel, by decide +kernel⟩
theorem ok__law_refused {P : Program} {w : World} {K : PySem.W.Frag} {mg : Str → Option Value} {base : Heap} {k : Nat} {f : Addr} {fd : FuncData} (T : Top K mg) (F : FnAt K "_law_refused" "_law_refused" s__law_refused f fd)
    {C_BadPath : Addr}
    (n_BadPath_path : NoAttr K C_BadPath "path")
    (x_BadPath : XcC K mg "BadPath" C_BadPath)
    (cx_BadPath : ClsX K C_BadPath)
    {a_without_R : Addr} {d_without_R : FuncData} {f_without_R : List D → GH → R D}
    (t_without_R : Tx K mg "without" ["tree", "path"] [] a_without_R d_without_R)
    (g_without_R : FnD P w K mg base k a_without_R d_without_R ["tree", "path"] f_without_R)
    {a__law_classes_of : Addr} {d__law_classes_of : FuncData} {f__law_classes_of : Addr → Addr → Addr → List D → GH → R D}
    (t__law_classes_of : Tx K mg "_law_classes_of" ["_law_e"] [] a__law_classes_of d__law_classes_of)
    (g__law_classes_of : FnDH P w K mg base k a__law_classes_of d__law_classes_of ["_law_e"] f__law_classes_of) :
    FnD P w K mg base (k + 1) f fd ["_law_tree_here", "_law_path"] (defF ["_law_tree_here", "_law_path", "_law_e"] (be__law_refused C_BadPath f_without_R f__law_classes_of)) :=
  fnD F sc__law_refused fun cdv A outer s H E hr gd => by
    have sc := sc__law_refused
    have hu := hr.units
    have hu1 := hu_of hr
    exact
      (xs_one (xs_tryAs (i := 2) rfl rfl sc.nd rfl rfl ⟨rfl, by decide, .inl x_BadPath.g⟩ tkB (xm_one x_BadPath.m) (fun _ _ _ tk0 _ => (xs_one (xs_ret (xe_call tk0 hr gd t_without_R g_without_R (fun _ => Reps.nil) rfl (xa_cons (xv 0) (xa_cons (xv 1) xa_nil)))))) (fun a oe C d pn hm hz hf => by
        obtain rfl := xm_eq hm
        exact (xs_one (xs_ret (xe_tup (xa_cons (xe_repr2 gd hu T.z_repr (xa_cons (xe_exF x_BadPath.f n_BadPath_path hz hf) xa_nil)) (xa_cons (xe_callH takes0 (roomS hr) gd (List.mem_cons_self ..) hz hf cx_BadPath t__law_classes_of g__law_classes_of (fun _ => Reps.nil) rfl (xa_cons (xv 2) xa_nil)) xa_nil))))))))
theorem sc_law : FnScope ["_law_script", "_law_cell", "_law_well_here", "_law_tree_here", "_law_nodes_here", "_law_told", "_law_path", "_law_node", "_law_known", "_law_turn"] ["_law_script"] (defScope s_law) := ⟨rfl, rfl, rfl, by decide +kernel, rfl, by decide +kernel, by decide +kernel⟩
theorem ok_law {P : Program} {w : World} {K : PySem.W.Frag} {mg : Str → Option Value} {base : Heap} {k : Nat} {f : Addr} {fd : FuncData} (T : Top K mg) (F : FnAt K "law" "law" s_law f fd)
    {a__law_cell_at : Addr} {d__law_cell_at : FuncData} {f__law_cell_at : List D → GH → R D}
    (t__law_cell_at : Tx K mg "_law_cell_at" ["_law_script", "_law_k"] [] a__law_cell_at d__law_cell_at)
    (g__law_cell_at : FnD P w K mg base k a__law_cell_at d__law_cell_at ["_law_script", "_law_k"] f__law_cell_at)
    {a__law_well : Addr} {d__law_well : FuncData} {f__law_well : List D → GH → R D}
    (t__law_well : Tx K mg "_law_well" ["_law_cell"] [] a__law_well d__law_well)
    (g__law_well : FnD P w K mg base k a__law_well d__law_well ["_law_cell"] f__law_well)
    {a__law_tree : Addr} {d__law_tree : FuncData} {f__law_tree : List D → GH → R D}
    (t__law_tree : Tx K mg "_law_tree" ["_law_well_here", "_law_deep", "_law_most"] [] a__law_tree d__law_tree)
    (g__law_tree : FnD P w K mg base k a__law_tree d__law_tree ["_law_well_here", "_law_deep", "_law_most"] f__law_tree)
    {a__law_draw : Addr} {d__law_draw : FuncData} {f__law_draw : List D → GH → R D}
    (t__law_draw : Tx K mg "_law_draw" ["_law_well_here", "_law_many"] [] a__law_draw d__law_draw)
    (g__law_draw : FnD P w K mg base k a__law_draw d__law_draw ["_law_well_here", "_law_many"] f__law_draw)
    {a__law_nodes : Addr} {d__law_nodes : FuncData} {f__law_nodes : List D → GH → R D}
    (t__law_nodes : Tx K mg "_law_nodes" ["_law_tree_here", "_law_path"] [] a__law_nodes d__law_nodes)
    (g__law_nodes : FnD P w K mg base k a__law_nodes d__law_nodes ["_law_tree_here", "_law_path"] f__law_nodes)
    {a_fields : Addr} {d_fields : FuncData} {f_fields : List D → GH → R D}
    (t_fields : Tx K mg "fields" ["tree"] [] a_fields d_fields)
    (g_fields : FnD P w K mg base k a_fields d_fields ["tree"] f_fields)
    {a_node_at : Addr} {d_node_at : FuncData} {f_node_at : List D → GH → R D}
    (t_node_at : Tx K mg "node_at" ["tree", "path"] [] a_node_at d_node_at)
    (g_node_at : FnD P w K mg base k a_node_at d_node_at ["tree", "path"] f_node_at)
    {a_without_R : Addr} {d_without_R : FuncData} {f_without_R : List D → GH → R D}
    (t_without_R : Tx K mg "without" ["tree", "path"] [] a_without_R d_without_R)
    (g_without_R : FnD P w K mg base k a_without_R d_without_R ["tree", "path"] f_without_R)
    {a__law_pruned : Addr} {d__law_pruned : FuncData} {f__law_pruned : List D → GH → R D}
    (t__law_pruned : Tx K mg "_law_pruned" ["_law_tree_here", "_law_path", "_law_gone"] [] a__law_pruned d__law_pruned)
    (g__law_pruned : FnD P w K mg base k a__law_pruned d__law_pruned ["_law_tree_here", "_law_path", "_law_gone"] f__law_pruned)
    {a__law_one : Addr} {d__law_one : FuncData} {f__law_one : List D → GH → R D}
    (t__law_one : Tx K mg "_law_one" ["_law_well_here", "_law_some"] [] a__law_one d__law_one)
    (g__law_one : FnD P w K mg base k a__law_one d__law_one ["_law_well_here", "_law_some"] f__law_one)
    {a__law_refused : Addr} {d__law_refused : FuncData} {f__law_refused : List D → GH → R D}
    (t__law_refused : Tx K mg "_law_refused" ["_law_tree_here", "_law_path"] [] a__law_refused d__law_refused)
    (g__law_refused : FnD P w K mg base k a__law_refused d__law_refused ["_law_tree_here", "_law_path"] f__law_refused) :
    FnD P w K mg base (k + 1) f fd ["_law_script"] (defF ["_law_script", "_law_cell", "_law_well_here", "_law_tree_here", "_law_nodes_here", "_law_told", "_law_path", "_law_node", "_law_known", "_law_turn"] (be_law f__law_cell_at f__law_well f__law_tree f__law_draw f__law_nodes f_fields f_node_at f_without_R f__law_pruned f__law_one f__law_refused)) :=
  fnD F sc_law fun cdv A outer s H E hr gd => by
    have sc := sc_law
    have hu := hr.units
    have hu1 := hu_of hr
    exact
      (xs_cons (xs_for (us := [1]) psB rfl (xi_seq (xe_op opr_add (o2_add mkF_ok) (xe_lst (xa_cons (xe_call tkB hr gd t__law_cell_at g__law_cell_at (fun _ => Reps.nil) rfl (xa_cons (xv 0) (xa_cons xe_int xa_nil))) xa_nil)) (xe_sl mkF_ok (xv 0) (xO.some xe_int) (xO.some xe_int)))) (xg_name (i := 1) (vs := [1]) sc.nd rfl (by first | exact .inl rfl | exact .inr rfl) (by decide))
        (xs_cons (xs_set (i := 2) sc.nd rfl (by first | exact .inl rfl | exact .inr rfl) (xe_call tkB hr gd t__law_well g__law_well (fun _ => Reps.nil) rfl (xa_cons (xv 1) xa_nil)))
      (xs_cons (xs_set (i := 3) sc.nd rfl (by first | exact .inl rfl | exact .inr rfl) (xe_call tkB hr gd t__law_tree g__law_tree (fun _ => Reps.nil) rfl (xa_cons (xv 2) (xa_cons (xe_op opr_add (o2_add mkF_ok) xe_int (xe_call tkB hr gd t__law_draw g__law_draw (fun _ => Reps.nil) rfl (xa_cons (xv 2) (xa_cons xe_int xa_nil)))) (xa_cons xe_int xa_nil)))))
      (xs_cons (xs_set (i := 4) sc.nd rfl (by first | exact .inl rfl | exact .inr rfl) (xe_call tkB hr gd t__law_nodes g__law_nodes (fun _ => Reps.nil) rfl (xa_cons (xv 3) (xa_cons (xe_tup xa_nil) xa_nil))))
      (xs_cons (xs_set (i := 5) sc.nd rfl (by first | exact .inl rfl | exact .inr rfl) (xe_call tkB hr gd t_fields g_fields (fun _ => Reps.nil) rfl (xa_cons (xv 3) xa_nil)))
      (xs_cons (xs_if (xt_cmp (L2.op_neD hu) o2_ne (xv 5) (xe_sl mkF_ok (xe_sorted2 mkF_ok rfl hu T.z_sorted (xa_cons (xe_lc (own := [("_law_path", 6), ("_law_node", 7)]) mkF_ok rfl sc.nd (xi_seq (xv 4)) (blkOk_by (by kernel_rfl)) (fun _ _ _ _ _ => (xg_tup (us := [6, 7]) rfl (xgs_cons (xg_name (i := 6) (vs := [6, 7]) sc.nd rfl (by first | exact .inl rfl | exact .inr rfl) (by decide)) (xgs_cons (xg_name (i := 7) (vs := [6, 7]) sc.nd rfl (by first | exact .inl rfl | exact .inr rfl) (by decide)) xgs_nil)))) (fun _ _ _ _ _ => xts_nil) (fun _ _ _ _ _ => (xv 6))) xa_nil)) (xO.some xe_int) xO.none) (by rfl)) (xs_one (xs_ret xe_bl)) xs_nil)
      (xs_cons (xs_expr (xe_append (xv 5) (xa_cons xe_int xa_nil)))
      (xs_cons (xs_if (xt_cmp (L2.op_neD hu) o2_ne (xe_call tkB hr gd t_fields g_fields (fun _ => Reps.nil) rfl (xa_cons (xv 3) xa_nil)) (xe_sl mkF_ok (xe_sorted2 mkF_ok rfl hu T.z_sorted (xa_cons (xe_lc (own := [("_law_path", 6), ("_law_node", 7)]) mkF_ok rfl sc.nd (xi_seq (xv 4)) (blkOk_by (by kernel_rfl)) (fun _ _ _ _ _ => (xg_tup (us := [6, 7]) rfl (xgs_cons (xg_name (i := 6) (vs := [6, 7]) sc.nd rfl (by first | exact .inl rfl | exact .inr rfl) (by decide)) (xgs_cons (xg_name (i := 7) (vs := [6, 7]) sc.nd rfl (by first | exact .inl rfl | exact .inr rfl) (by decide)) xgs_nil)))) (fun _ _ _ _ _ => xts_nil) (fun _ _ _ _ _ => (xv 6))) xa_nil)) (xO.some xe_int) xO.none) (by rfl)) (xs_one (xs_ret xe_bl)) xs_nil)
      (xs_cons (xs_for (us := [6, 7]) psB rfl (xi_seq (xv 4)) (xg_tup (us := [6, 7]) rfl (xgs_cons (xg_name (i := 6) (vs := [6, 7]) sc.nd rfl (by first | exact .inl rfl | exact .inr rfl) (by decide)) (xgs_cons (xg_name (i := 7) (vs := [6, 7]) sc.nd rfl (by first | exact .inl rfl | exact .inr rfl) (by decide)) xgs_nil)))
        (xs_cons (xs_if (xt_cmp L2.op_ne o2_neT (xe_repr2 gd hu T.z_repr (xa_cons (xe_call tkB hr gd t_node_at g_node_at (fun _ => Reps.nil) rfl (xa_cons (xv 3) (xa_cons (xv 6) xa_nil))) xa_nil)) (xe_repr2 gd hu T.z_repr (xa_cons (xv 7) xa_nil)) (by rfl)) (xs_one (xs_ret xe_bl)) xs_nil)
      (xs_one (xs_if (xt_w (xw_and (xt_cmp (L2.op_neD hu) o2_ne (xv 6) (xe_tup xa_nil) (by rfl)) (xw_and1 (xt_cmp L2.op_ne o2_neT (xe_repr2 gd hu T.z_repr (xa_cons (xe_call tkB hr gd t_without_R g_without_R (fun _ => Reps.nil) rfl (xa_cons (xv 3) (xa_cons (xv 6) xa_nil))) xa_nil)) (xe_repr2 gd hu T.z_repr (xa_cons (xe_call tkB hr gd t__law_pruned g__law_pruned (fun _ => Reps.nil) rfl (xa_cons (xv 3) (xa_cons (xe_tup xa_nil) (xa_cons (xv 6) xa_nil)))) xa_nil)) (by rfl))))) (xs_one (xs_ret xe_bl)) xs_nil))))
      (xs_cons (xs_setLc (own := [("_law_path", 6), ("_law_node", 7)]) (i := 8) mkF_ok rfl sc.nd rfl rfl (sw_true rfl rfl rfl (by decide +kernel)) (xi_seq (xv 4)) (blkOk_by (by kernel_rfl)) (fun _ _ _ _ _ => (xg_tup (us := [6, 7]) rfl (xgs_cons (xg_name (i := 6) (vs := [6, 7]) sc.nd rfl (by first | exact .inl rfl | exact .inr rfl) (by decide)) (xgs_cons (xg_name (i := 7) (vs := [6, 7]) sc.nd rfl (by first | exact .inl rfl | exact .inr rfl) (by decide)) xgs_nil)))) (fun _ _ _ _ _ => xts_nil) (fun _ _ _ _ _ => (xv 6)))
      (xs_cons (xs_for (us := [9]) psB rfl (xi_range1 rfl T.z_range (xa_cons xe_int xa_nil)) (xg_name (i := 9) (vs := [9]) sc.nd rfl (by first | exact .inl rfl | exact .inr rfl) (by decide))
        (xs_cons (xs_set (i := 6) sc.nd rfl (by first | exact .inl rfl | exact .inr rfl) (xe_op opr_add (o2_add mkF_ok) (xe_call tkB hr gd t__law_one g__law_one (fun _ => Reps.nil) rfl (xa_cons (xv 2) (xa_cons (xv 8) xa_nil))) (xe_tup (xa_cons (xe_call tkB hr gd t__law_one g__law_one (fun _ => Reps.nil) rfl (xa_cons (xv 2) (xa_cons (xe_lst (xa_cons xe_str (xa_cons xe_str (xa_cons xe_str (xa_cons xe_str (xa_cons xe_str (xa_cons xe_str xa_nil))))))) xa_nil))) xa_nil))))
      (xs_cons (xs_set (i := 6) sc.nd rfl (by first | exact .inl rfl | exact .inr rfl) (xe_ix hu1 (xe_lst (xa_cons (xv 6) (xa_cons (xe_op opr_add (o2_add mkF_ok) (xv 6) (xe_tup (xa_cons xe_str xa_nil))) xa_nil))) (xe_call tkB hr gd t__law_draw g__law_draw (fun _ => Reps.nil) rfl (xa_cons (xv 2) (xa_cons xe_int xa_nil)))))
      (xs_one (xs_if (xt_cmp (op_notInE hu) o2_notInE (xv 6) (xv 8) (by rfl)) (xs_one (xs_if (xt_w (xw_or (xt_cmp L2.op_notN o2_notN (xe_call tkB hr gd t_node_at g_node_at (fun _ => Reps.nil) rfl (xa_cons (xv 3) (xa_cons (xv 6) xa_nil))) xe_non (by rfl)) (xw_or1 (xt_cmp (L2.op_neD hu) o2_ne (xe_call tkB hr gd t__law_refused g__law_refused (fun _ => Reps.nil) rfl (xa_cons (xv 3) (xa_cons (xv 6) xa_nil))) (xe_tup (xa_cons (xe_repr2 gd hu T.z_repr (xa_cons (xv 6) xa_nil)) (xa_cons xe_int xa_nil))) (by rfl))))) (xs_one (xs_ret xe_bl)) xs_nil)) xs_nil)))))
      (xs_one (xs_if (xt_cmp (L2.op_neD hu) o2_ne (xe_call tkB hr gd t__law_refused g__law_refused (fun _ => Reps.nil) rfl (xa_cons (xv 3) (xa_cons (xe_tup xa_nil) xa_nil))) (xe_tup (xa_cons xe_str (xa_cons xe_int xa_nil))) (by rfl)) (xs_one (xs_ret xe_bl)) xs_nil)))))))))))))
      (xs_one (xs_ret xe_bl)))
end K01
end CF
end
section
set_option maxRecDepth 100000
set_option maxHeartbeats 4000000
namespace CF
namespace K03
open PySem PySem.Spec PyProof.Rows L2
noncomputable def b_is_integer  : FS :=
    (sRet (eAnd (eOne (eVar 0) (dIsi "int")) (eNot (eTru (eOne (eVar 0) (dIsi "bool"))))))
noncomputable def b_is_name  : FS :=
    (sSeq (sIf (tOrD (tNotD (eTru (eOne (eVar 0) (dIsi "str")))) (tNotD (asB (eChain dLe dLe (eC (.int 1)) (eCB (one dLen) (aCons (eVar 0) aNil)) (eC (.int (8))))))) (sRet (eC (.bl false))) sNext)
    (sRet (eCB (one dAll) (aCons (eLc mkF (iSeq (eVar 0)) (gNm 1) tYesD (eOp dIn (eVar 1) (eC (.str "abcdefghijklmnopqrstuvwxyz"))) [1]) aNil))))
noncomputable def b_is_pairs (f_is_name : List D → GH → R D) (f_is_tree : List D → GH → R D) : FS :=
    (sSeq (sIf (tOrD (tNotD (eTru (eOne (eVar 0) (dIsi "tuple")))) (tNotD (eTru (eCB (one dAll) (aCons (eLc mkF (iSeq (eVar 0)) (gNm 2) tYesD (eAnd (eOne (eVar 2) (dIsi "tuple")) (eOp dEq (eCB (one dLen) (aCons (eVar 2) aNil)) (eC (.int 2)))) [2]) aNil))))) (sRet (eC (.bl false))) sNext)
    (sSeq (sSet 3 (eLc mkF (iSeq (eVar 0)) (gNm 2) tYesD (eOp dIx (eVar 2) (eC (.int 0))) [2]))
    (sSeq (sIf (tOrD (tNotD (eTru (eCB (one dAll) (aCons (eLc mkF (iSeq (eVar 3)) (gNm 4) tYesD (eCall 1 f_is_name [] (aCons (eVar 4) aNil)) [4]) aNil)))) (asB (eOp dNe (eLenSet (eVar 3)) (eCB (one dLen) (aCons (eVar 3) aNil))))) (sRet (eC (.bl false))) sNext)
    (sRet (eCB (one dAll) (aCons (eLc mkF (iSeq (eVar 0)) (gNm 2) tYesD (eCall 2 f_is_tree [] (aCons (eOp dIx (eVar 2) (eC (.int 1))) (aCons (eVar 1) aNil))) [2]) aNil))))))
noncomputable def b_is_tree (f_is_integer : List D → GH → R D) (f_is_pairs : List D → GH → R D) : FS :=
    (sSeq (sIf (tOrD (asB (eOp dEq (eVar 1) (eC (.int 0)))) (tOrD (tNotD (eTru (eOne (eVar 0) (dIsi "tuple")))) (asB (eOp dNe (eCB (one dLen) (aCons (eVar 0) aNil)) (eC (.int 2)))))) (sRet (eC (.bl false))) sNext)
    (sSeq (sIf (asB (eOp dEq (eOp dIx (eVar 0) (eC (.int 0))) (eC (.str "value")))) (sSeq (sIf (eTru (eCall 1 f_is_integer [] (aCons (eOp dIx (eVar 0) (eC (.int 1))) aNil))) (sRet (eChain dLt dLt (eUn dNeg (eC (.int (1000000000000000000000000000000)))) (eOp dIx (eVar 0) (eC (.int 1))) (eC (.int (1000000000000000000000000000000))))) sNext)
    (sRet (eOne (eOp dIx (eVar 0) (eC (.int 1))) (dIsi "str")))) sNext)
    (sSeq (sIf (tOrD (asB (eOp dNotIn (eOp dIx (eVar 0) (eC (.int 0))) (eTup (aCons (eC (.str "map")) (aCons (eC (.str "list")) aNil))))) (tNotD (eTru (eCall 2 f_is_pairs [] (aCons (eOp dIx (eVar 0) (eC (.int 1))) (aCons (eOp dSub (eVar 1) (eC (.int 1))) aNil)))))) (sRet (eC (.bl false))) sNext)
    (sSeq (sSet 2 (eLc mkF (iSeq (eOp dIx (eVar 0) (eC (.int 1)))) (gTp 2 (gsCons (gNm 3) (gsCons (gNm 4) gsNil))) tYesD (eVar 3) [3, 4]))
    (sRet (eOr (eOp dEq (eOp dIx (eVar 0) (eC (.int 0))) (eC (.str "list"))) (eOp dEq (eVar 2) (eCB (one (dSorted2 mkF)) (aCons (eVar 2) aNil)))))))))
noncomputable def b_count_of (f_count_of : List D → GH → R D) : FS :=
    (sSeq (sIf (asB (eOp dEq (eOp dIx (eVar 0) (eC (.int 0))) (eC (.str "value")))) (sRet (eC (.int 0))) sNext)
    (sRet (eCB (one dSum) (aCons (eLc mkF (iSeq (eOp dIx (eVar 0) (eC (.int 1)))) (gTp 2 (gsCons (gNm 1) (gsCons (gNm 2) gsNil))) tYesD (eOp (dAdd mkF) (eC (.int 1)) (eCall 1 f_count_of [] (aCons (eVar 2) aNil))) [1, 2]) aNil))))
noncomputable def b_check_tree (f_is_tree : List D → GH → R D) (f_count_of : List D → GH → R D) : FS :=
    (sSeq (sIf (tNotD (eTru (eCall 2 f_is_tree (.int 6 :: []) (aCons (eVar 0) aNil)))) sDead sNext)
    (sIf (asB (eOp dGt (eCall 1 f_count_of [] (aCons (eVar 0) aNil)) (eC (.int (320))))) sDead sNext))
noncomputable def b__law_nodes (f__law_nodes : List D → GH → R D) : FS :=
    (sSeq (sSet 2 (eLst (aCons (eTup (aCons (eVar 1) (aCons (eVar 0) aNil))) aNil)))
    (sSeq (sIf (asB (eOp dNe (eOp dIx (eVar 0) (eC (.int 0))) (eC (.str "value")))) (sFor (iSeq (eOp dIx (eVar 0) (eC (.int 1)))) (gTp 2 (gsCons (gNm 3) (gsCons (gNm 4) gsNil))) (sSet 2 (eOp (dAdd mkF) (eVar 2) (eCall 2 f__law_nodes [] (aCons (eVar 4) (aCons (eOp (dAdd mkF) (eVar 1) (eTup (aCons (eVar 3) aNil))) aNil)))))) sNext)
    (sRet (eVar 2))))
end K03
end CF
end
section
set_option maxRecDepth 100000
set_option maxHeartbeats 4000000
namespace CF
namespace K03
open PySem PySem.Spec PyProof.Rows L2
structure Well where
  a : Int
  b : Int
  c : Int
def Well.cell (w : Well) : Cell := .lst [.int w.a, .int w.b, .int w.c]
theorem lt_of_get {G : GH} {n : Nat} {c : Cell} (h : G[n]? = some c) : n < G.length := (List.getElem?_eq_some_iff.mp h).1
def DrawOk (f : List D → GH → R D) : Prop := ∀ (w : Well) (m : Int) (n : Nat) (G : GH), G[n]? = some w.cell → 0 < m → m < 18446744073709551616 → 0 ≤ w.c → w.c < 1000000000 →
    ∃ (r : Int) (w' : Well), f [.ref n, .int m] G = .ok (.int r) (G.set n w'.cell) ∧ 0 ≤ r ∧ r < m ∧ w.c ≤ w'.c ∧ w'.c ≤ w.c + 1
end K03
end CF
end
section
set_option maxRecDepth 100000
set_option maxHeartbeats 4000000
namespace CF
namespace K03
open PySem PySem.Spec PyProof.Rows L2
def smT : Nat → Tr → Prop
  | 0, _ => False
  | _ + 1, .val i => -(10 ^ 20) ≤ i ∧ i ≤ 10 ^ 20
  | _ + 1, .txt x => x.length ≤ 30
  | r + 1, .node _ ps => ∀ p ∈ ps, smT r p.2
@[simp] theorem dTupP_lst (G : GH) (xs : List D) : dTupP (.lst xs) G = .ok (.pt xs) G := rfl
end K03
end CF
end
section
set_option maxRecDepth 100000
set_option maxHeartbeats 4000000
namespace CF
namespace K03
open PySem PySem.Spec PyProof.Rows L2
def LETT : Str := "abcdefghijklmnopqrstuvwxyz"
def inLett (c : Nat) : Bool := !(Builtin.Str.occurrences LETT ⟨#[c]⟩ 0 LETT.length 1).isEmpty
def nmOk (x : Str) : Bool := (decide (1 ≤ x.length) && decide (x.length ≤ 8)) && x.cps.toList.all inLett
noncomputable def F_name : List D → GH → R D := defF ["value", "sign"] b_is_name
def NameOk (f : List D → GH → R D) : Prop := ∀ (x : Str) (G : GH), nmOk x = true → f [.str x] G = .ok (.bl true) G
theorem m_name : NameOk F_name := by
  intro x G h
  unfold nmOk at h
  obtain ⟨h1, h3⟩ := Bool.and_eq_true_iff.mp h
  obtain ⟨h1, h2⟩ := Bool.and_eq_true_iff.mp h1
  have h1 := of_decide_eq_true h1
  have h2 := of_decide_eq_true h2
  have sz : x.length ≤ sizeLine := Nat.le_trans h2 (by decide)
  have st : startD ["value", "sign"] [D.str x] = [some (.str x), none] := rfl
  have i1 : (1 : Int) ≤ (x.length : Int) := by omega
  have i2 : (x.length : Int) ≤ 8 := by omega
  have s1 : (tOrD (tNotD (eTru (eOne (eVar 0) (dIsi "str")))) (tNotD (asB (eChain dLe dLe (eC (.int 1)) (eCB (one dLen) (aCons (eVar 0) aNil)) (eC (.int (8))))))) [some (.str x), none] G = .ok false G := by
    simp [isiB, sz, i1, i2]
  have lc : lcL (fun _ => true) (gNm 1) tYesD (eOp dIn (eVar 1) (eC (.str "abcdefghijklmnopqrstuvwxyz"))) [some (.str x), none] (x.cps.toList.map fun c => D.str ⟨#[c]⟩) [] G = .ok ([] ++ (x.cps.toList.map fun c => D.str ⟨#[c]⟩).map fun d => match d with | .str y => .bl (!(Builtin.Str.occurrences LETT y 0 LETT.length 1).isEmpty) | _ => .non) G := by
    refine lcL_map _ (fun d => [some (.str x), some d]) (fun d hd => ?_) (fun d hd => ?_) ?_
    · simp
    · obtain ⟨c, _, rfl⟩ := List.mem_map.mp hd
      simp [dIn, inD, LETT]
    · simp only [List.length_nil, Nat.zero_add, List.length_map]
      exact sz
  have s2 : sRet (eCB (one dAll) (aCons (eLc mkF (iSeq (eVar 0)) (gNm 1) tYesD (eOp dIn (eVar 1) (eC (.str "abcdefghijklmnopqrstuvwxyz"))) [1]) aNil)) [some (.str x), none] G = .rt (.bl true) G := by
    have it : iSeq (eVar 0) [some (.str x), none] G = .ok ⟨x.cps.toList.map fun c => D.str ⟨#[c]⟩, fun _ => true⟩ G := by simp
    have wd : wipeD [some (.str x), none] [1] = [some (D.str x), none] := rfl
    rw [List.nil_append, List.map_map] at lc
    have al := dAll_map G x.cps.toList inLett
    rw [h3] at al
    simp only [ap_sRet, ap_eCB, ap_aCons, ap_eLc, it, R.bind_ok, wd, if_true, lc, ap_mkF, ap_aNil, ap_one]
    have e : (fun d => match d with | D.str y => D.bl (!(Builtin.Str.occurrences LETT y 0 LETT.length 1).isEmpty) | _ => .non) ∘ (fun c => D.str ⟨#[c]⟩) = fun c : Nat => D.bl (inLett c) := rfl
    rw [e, al]
    rfl
  unfold F_name b_is_name
  rw [defF_ap]
  simp only [st, ap_sSeq, ap_sIf, s1, R.thn_ok, if_false, Bool.false_eq_true, ap_sNext, RS.seq_nx, s2]
theorem met_go : ∀ (xs acc : List Str), (acc ++ xs).Nodup → xs.foldl step_dedup acc = acc ++ xs
  | [], acc, _ => by simp
  | x :: xs, acc, h => by
    have hx : acc.any (· == x) = false := by
      cases q : acc.any (· == x) with
      | false => rfl
      | true =>
        obtain ⟨y, hy, e⟩ := List.any_eq_true.mp q
        have e' : y = x := eq_of_beq e
        subst e'
        exact absurd (List.nodup_append.mp h).2.2 (fun z => z y hy y (.head _) rfl)
    rw [List.foldl_cons]
    have e : step_dedup acc x = acc ++ [x] := by unfold step_dedup; rw [hx]; rfl
    rw [e, met_go xs (acc ++ [x]) (by simpa using h)]
    simp
theorem met_nodup {xs : List Str} (h : xs.Nodup) : met xs = xs := by
  have := met_go xs [] (by simpa using h)
  simpa [met] using this
theorem all_true {α : Type} (l : List α) : l.all (fun _ => true) = true := by simp
abbrev N_pairs : List Str := ["pairs", "room", "pair", "names", "name"]
theorem m_pairs {fn ft : List D → GH → R D} (hn : NameOk fn) (ps : List (Str × Tr)) (rm : Int) (G : GH) (nd : (ps.map (·.1)).Nodup) (ok : ∀ n ∈ ps.map (·.1), nmOk n = true) (ht : ∀ p ∈ ps, ft [encT p.2, .int rm] G = .ok (.bl true) G) (hl : ps.length < 4000) :
    defF N_pairs (b_is_pairs fn ft) [.pt (ps.map encPr), .int rm] G = .ok (.bl true) G := by
  have sz : ps.length ≤ sizeLine := Nat.le_trans (by omega : ps.length ≤ 4000) (by decide)
  have st : startD N_pairs [.pt (ps.map encPr), .int rm] = [some (.pt (ps.map encPr)), some (.int rm), none, none, none] := rfl
  have it : ∀ a b c : Option D, iSeq (eVar 0) [some (.pt (ps.map encPr)), some (.int rm), a, b, c] G = .ok ⟨ps.map encPr, fun _ => true⟩ G := fun a b c => by simp
  have l1 : lcL (fun _ => true) (gNm 2) tYesD (eAnd (eOne (eVar 2) (dIsi "tuple")) (eOp dEq (eCB (one dLen) (aCons (eVar 2) aNil)) (eC (.int 2)))) [some (.pt (ps.map encPr)), some (.int rm), none, none, none] (ps.map encPr) [] G = .ok ([] ++ (ps.map encPr).map fun _ => D.bl true) G := by
    refine lcL_map _ (fun d => [some (.pt (ps.map encPr)), some (.int rm), some d, none, none]) (fun d hd => by simp) (fun d hd => ?_) (by simpa using sz)
    obtain ⟨p, _, rfl⟩ := List.mem_map.mp hd
    simp [encPr, isiB]
  have s1 : (tOrD (tNotD (eTru (eOne (eVar 0) (dIsi "tuple")))) (tNotD (eTru (eCB (one dAll) (aCons (eLc mkF (iSeq (eVar 0)) (gNm 2) tYesD (eAnd (eOne (eVar 2) (dIsi "tuple")) (eOp dEq (eCB (one dLen) (aCons (eVar 2) aNil)) (eC (.int 2)))) [2]) aNil))))) [some (.pt (ps.map encPr)), some (.int rm), none, none, none] G = .ok false G := by
    have wd : wipeD [some (D.pt (ps.map encPr)), some (.int rm), none, none, none] [2] = [some (.pt (ps.map encPr)), some (.int rm), none, none, none] := rfl
    have al : dAll (.lst ([] ++ (ps.map encPr).map fun _ => D.bl true)) G = .ok (.bl true) G := by rw [List.nil_append, dAll_map G (ps.map encPr) (fun _ => true), all_true]
    have t1 : eOne (eVar 0) (dIsi "tuple") [some (.pt (ps.map encPr)), some (.int rm), none, none, none] G = .ok (.bl true) G := by simp [isiB]
    simp only [ap_tOr, ap_tNot, ap_eTru, t1, R.bind_ok, truD_bl, Bool.not_true, if_false, Bool.false_eq_true, ap_eCB, ap_aCons, ap_eLc, it, wd, if_true, l1, ap_mkF, ap_aNil, ap_one, al]
  have l2 : lcL (fun _ => true) (gNm 2) tYesD (eOp dIx (eVar 2) (eC (.int 0))) [some (.pt (ps.map encPr)), some (.int rm), none, none, none] (ps.map encPr) [] G = .ok ([] ++ (ps.map encPr).map fun d => match d with | .tup (n :: _) => n | _ => .non) G := by
    refine lcL_map _ (fun d => [some (.pt (ps.map encPr)), some (.int rm), some d, none, none]) (fun d hd => by simp) (fun d hd => ?_) (by simpa using sz)
    obtain ⟨p, _, rfl⟩ := List.mem_map.mp hd
    simp [encPr]
  have nm : (ps.map encPr).map (fun d => match d with | .tup (n :: _) => n | _ => .non) = (ps.map (·.1)).map D.str := by
    rw [List.map_map, List.map_map]; rfl
  rw [nm, List.nil_append] at l2
  have s2 : sSet 3 (eLc mkF (iSeq (eVar 0)) (gNm 2) tYesD (eOp dIx (eVar 2) (eC (.int 0))) [2]) [some (.pt (ps.map encPr)), some (.int rm), none, none, none] G = .nx [some (.pt (ps.map encPr)), some (.int rm), none, some (.lst ((ps.map (·.1)).map D.str)), none] G := by
    have wd : wipeD [some (D.pt (ps.map encPr)), some (.int rm), none, none, none] [2] = [some (.pt (ps.map encPr)), some (.int rm), none, none, none] := rfl
    simp only [ap_sSet, ap_eLc, it, R.bind_ok, wd, if_true, l2, ap_mkF, R.thn_ok]
    rfl
  have l3 : lcL (fun _ => true) (gNm 4) tYesD (eCall 1 fn [] (aCons (eVar 4) aNil)) [some (.pt (ps.map encPr)), some (.int rm), none, some (.lst ((ps.map (·.1)).map D.str)), none] ((ps.map (·.1)).map D.str) [] G = .ok ([] ++ ((ps.map (·.1)).map D.str).map fun _ => D.bl true) G := by
    refine lcL_map _ (fun d => [some (.pt (ps.map encPr)), some (.int rm), none, some (.lst ((ps.map (·.1)).map D.str)), some d]) (fun d hd => by simp) (fun d hd => ?_) (by simpa using sz)
    obtain ⟨x, hx, rfl⟩ := List.mem_map.mp hd
    simp [hn x G (ok x hx)]
  have s3 : (tOrD (tNotD (eTru (eCB (one dAll) (aCons (eLc mkF (iSeq (eVar 3)) (gNm 4) tYesD (eCall 1 fn [] (aCons (eVar 4) aNil)) [4]) aNil)))) (asB (eOp dNe (eLenSet (eVar 3)) (eCB (one dLen) (aCons (eVar 3) aNil))))) [some (.pt (ps.map encPr)), some (.int rm), none, some (.lst ((ps.map (·.1)).map D.str)), none] G = .ok false G := by
    have wd : wipeD [some (D.pt (ps.map encPr)), some (.int rm), none, some (.lst ((ps.map (·.1)).map D.str)), none] [4] = [some (.pt (ps.map encPr)), some (.int rm), none, some (.lst ((ps.map (·.1)).map D.str)), none] := rfl
    have al : dAll (.lst ([] ++ ((ps.map (·.1)).map D.str).map fun _ => D.bl true)) G = .ok (.bl true) G := by rw [List.nil_append, dAll_map G _ (fun _ => true), all_true]
    have it3 : iSeq (eVar 3) [some (D.pt (ps.map encPr)), some (.int rm), none, some (.lst ((ps.map (·.1)).map D.str)), none] G = .ok ⟨(ps.map (·.1)).map D.str, fun _ => true⟩ G := rfl
    have ls : eLenSet (eVar 3) [some (D.pt (ps.map encPr)), some (.int rm), none, some (.lst ((ps.map (·.1)).map D.str)), none] G = .ok (.int ps.length) G := by
      have h4 : ps.length < 4000 := hl
      show (match (some ((ps.map (·.1)).map D.str)).bind strsOf with | some xs => if xs.length < 4000 then R.ok (D.int (met xs).length) G else .no | none => .no) = _
      rw [Option.bind_some, strsOf_map]
      dsimp only
      rw [if_pos (by simpa using hl), met_nodup nd, List.length_map]
    have ln : eCB (one dLen) (aCons (eVar 3) aNil) [some (D.pt (ps.map encPr)), some (.int rm), none, some (.lst ((ps.map (·.1)).map D.str)), none] G = .ok (.int ps.length) G := by simp
    simp only [ap_tOr, ap_tNot, ap_eTru, R.bind_ok, truD_bl, Bool.not_true, if_false, Bool.false_eq_true, ap_eCB, ap_aCons, ap_eLc, it3, wd, if_true, l3, ap_mkF, ap_aNil, ap_one, al, ap_asB, ap_eOp, ls]
    rw [show (eVar 3 [some (D.pt (ps.map encPr)), some (.int rm), none, some (.lst ((ps.map (·.1)).map D.str)), none] G) = .ok (.lst ((ps.map (·.1)).map D.str)) G from rfl]
    simp
  have l4 : lcL (fun _ => true) (gNm 2) tYesD (eCall 2 ft [] (aCons (eOp dIx (eVar 2) (eC (.int 1))) (aCons (eVar 1) aNil))) [some (.pt (ps.map encPr)), some (.int rm), none, some (.lst ((ps.map (·.1)).map D.str)), none] (ps.map encPr) [] G = .ok ([] ++ (ps.map encPr).map fun _ => D.bl true) G := by
    refine lcL_map _ (fun d => [some (.pt (ps.map encPr)), some (.int rm), some d, some (.lst ((ps.map (·.1)).map D.str)), none]) (fun d hd => by simp) (fun d hd => ?_) (by simpa using sz)
    obtain ⟨p, hp, rfl⟩ := List.mem_map.mp hd
    simp [encPr, ht p hp]
  have s4 : sRet (eCB (one dAll) (aCons (eLc mkF (iSeq (eVar 0)) (gNm 2) tYesD (eCall 2 ft [] (aCons (eOp dIx (eVar 2) (eC (.int 1))) (aCons (eVar 1) aNil))) [2]) aNil)) [some (.pt (ps.map encPr)), some (.int rm), none, some (.lst ((ps.map (·.1)).map D.str)), none] G = .rt (.bl true) G := by
    have wd : wipeD [some (D.pt (ps.map encPr)), some (.int rm), none, some (.lst ((ps.map (·.1)).map D.str)), none] [2] = [some (.pt (ps.map encPr)), some (.int rm), none, some (.lst ((ps.map (·.1)).map D.str)), none] := rfl
    have al : dAll (.lst ([] ++ (ps.map encPr).map fun _ => D.bl true)) G = .ok (.bl true) G := by rw [List.nil_append, dAll_map G (ps.map encPr) (fun _ => true), all_true]
    simp only [ap_sRet, ap_eCB, ap_aCons, ap_eLc, it, R.bind_ok, wd, if_true, l4, ap_mkF, ap_aNil, ap_one, al, R.thn_ok]
  rw [defF_ap]
  unfold b_is_pairs
  simp only [st, ap_sSeq, ap_sIf, s1, R.thn_ok, if_false, Bool.false_eq_true, ap_sNext, RS.seq_nx, s2, s3, s4]
end K03
end CF
end
section
set_option maxRecDepth 100000
set_option maxHeartbeats 4000000
namespace CF
namespace K03
open PySem PySem.Spec PyProof.Rows L2
theorem ok_value : PyData.strOk "value" = true := by decide +kernel
theorem ok_kind (m : Bool) : PyData.strOk (kindS m) = true := by cases m <;> decide +kernel
theorem ne_value (m : Bool) : (kindS m == ("value" : Str)) = false := by cases m <;> decide +kernel
theorem eq_list (m : Bool) : (kindS m == ("list" : Str)) = !m := by cases m <;> decide +kernel
theorem ok_list : PyData.strOk "list" = true := by decide +kernel
theorem vv : (("value" : Str) == ("value" : Str)) = true := by decide +kernel
theorem in_kinds (m : Bool) (G : GH) : dNotIn (.str (kindS m)) (.tup [.str "map", .str "list"]) G = .ok (.bl false) G := by
  have h : inD G (.str (kindS m)) (.tup [.str "map", .str "list"]) = some true := by
    show dInS (.str (kindS m)) [.str "map", .str "list"] = some true
    cases m <;> decide +kernel
  unfold dNotIn
  rw [h]
  rfl
theorem len_sz : ∀ ps : List (Str × Tr), ps.length ≤ (ps.map fun p => 1 + szT p.2).sum
  | [] => by simp
  | p :: r => by have := len_sz r; simp only [List.length_cons, List.map_cons, List.sum_cons]; omega
def IntOk (f : List D → GH → R D) : Prop := (∀ (i : Int) (G : GH), f [.int i] G = .ok (.bl true) G) ∧ ∀ (x : Str) (G : GH), f [.str x] G = .ok (.bl false) G
abbrev N_tr : List Str := ["value", "room", "names", "name", "node"]
theorem m_is_tree {fi fp : List D → GH → R D} {ns : List Str} (hi : IntOk fi) (hns : ∀ n ∈ ns, PyData.strOk n = true) (r : Nat) (t : Tr) (rm : Int) (G : GH) (ok : okT ns (r + 1) t) (h0 : 0 < rm)
    (hp : ∀ m ps, t = .node m ps → fp [.pt (ps.map encPr), .int (rm - 1)] G = .ok (.bl true) G) (hl : szT t < 4000) : defF N_tr (b_is_tree fi fp) [encT t, .int rm] G = .ok (.bl true) G := by
  have sz2 : (2 : Nat) ≤ sizeLine := by decide
  have rz : ¬ rm = 0 := by omega
  have two : ∀ a b : D, (tOrD (asB (eOp dEq (eVar 1) (eC (.int 0)))) (tOrD (tNotD (eTru (eOne (eVar 0) (dIsi "tuple")))) (asB (eOp dNe (eCB (one dLen) (aCons (eVar 0) aNil)) (eC (.int 2)))))) [some (.tup [a, b]), some (.int rm), none, none, none] G = .ok false G := fun a b => by
    simp [rz, isiB]
  have st : ∀ a : D, startD N_tr [a, .int rm] = [some a, some (.int rm), none, none, none] := fun a => rfl
  have ix0 : ∀ a b x : D, ∀ c d e : Option D, eOp dIx (eVar 0) (eC (.int 0)) [some (.tup [a, b]), some x, c, d, e] G = .ok a G := fun a b x c d e => by simp
  have ix1 : ∀ a b x : D, ∀ c d e : Option D, eOp dIx (eVar 0) (eC (.int 1)) [some (.tup [a, b]), some x, c, d, e] G = .ok b G := fun a b x c d e => by simp
  have isv : ∀ (x : Str) (b y : D) (c d e : Option D), PyData.strOk x = true → asB (eOp dEq (eOp dIx (eVar 0) (eC (.int 0))) (eC (.str "value"))) [some (.tup [.str x, b]), some y, c, d, e] G = .ok (x == "value") G := fun x b y c d e hx => by
    simp only [ap_asB, ap_eOp (f := dEq), ix0, R.bind_ok, ap_eC, dEq_str G hx ok_value]
  cases t with
  | val i =>
    rw [encT_val, defF_ap, st]
    unfold b_is_tree
    have ok' : -(10 ^ 30) < i ∧ i < 10 ^ 30 := ok
    have s2 : eTru (eCall 1 fi [] (aCons (eOp dIx (eVar 0) (eC (.int 1))) aNil)) [some (.tup [.str "value", .int i]), some (.int rm), none, none, none] G = .ok true G := by
      simp only [ap_eTru, ap_eCall, ap_aCons, ix1, R.bind_ok, ap_aNil, List.append_nil, List.length_cons, List.length_nil, Nat.zero_add, if_true, hi.1, truD_bl]
    have s3 : sRet (eChain dLt dLt (eUn dNeg (eC (.int (1000000000000000000000000000000)))) (eOp dIx (eVar 0) (eC (.int 1))) (eC (.int (1000000000000000000000000000000)))) [some (.tup [.str "value", .int i]), some (.int rm), none, none, none] G = .rt (.bl true) G := by
      have a1 : -1000000000000000000000000000000 < i := by omega
      have a2 : i < 1000000000000000000000000000000 := by omega
      simp [a1, a2]
    simp only [ap_sSeq, ap_sIf, two, R.thn_ok, if_false, Bool.false_eq_true, ap_sNext, RS.seq_nx, isv _ _ _ _ _ _ ok_value, vv, if_true, s2, s3, RS.seq_rt]
  | txt x =>
    rw [encT_txt, defF_ap, st]
    unfold b_is_tree
    have s2 : eTru (eCall 1 fi [] (aCons (eOp dIx (eVar 0) (eC (.int 1))) aNil)) [some (.tup [.str "value", .str x]), some (.int rm), none, none, none] G = .ok false G := by
      simp only [ap_eTru, ap_eCall, ap_aCons, ix1, R.bind_ok, ap_aNil, List.append_nil, List.length_cons, List.length_nil, Nat.zero_add, if_true, hi.2, truD_bl]
    have s3 : sRet (eOne (eOp dIx (eVar 0) (eC (.int 1))) (dIsi "str")) [some (.tup [.str "value", .str x]), some (.int rm), none, none, none] G = .rt (.bl true) G := by simp [isiB]
    simp only [ap_sSeq, ap_sIf, two, R.thn_ok, if_false, Bool.false_eq_true, ap_sNext, RS.seq_nx, isv _ _ _ _ _ _ ok_value, vv, if_true, s2, s3, RS.seq_rt]
  | node m ps =>
    obtain ⟨nd, inN, srt, _⟩ := ok
    have hp := hp m ps rfl
    have pl : ps.length < 4000 := by
      rw [szT_node] at hl
      have := len_sz ps
      omega
    rw [encT_node, defF_ap, st]
    unfold b_is_tree
    have okn : ∀ x ∈ ps.map (·.1), PyData.strOk x = true := fun x hx => hns x (inN x hx)
    have s2 : (tOrD (asB (eOp dNotIn (eOp dIx (eVar 0) (eC (.int 0))) (eTup (aCons (eC (.str "map")) (aCons (eC (.str "list")) aNil))))) (tNotD (eTru (eCall 2 fp [] (aCons (eOp dIx (eVar 0) (eC (.int 1))) (aCons (eOp dSub (eVar 1) (eC (.int 1))) aNil)))))) [some (.tup [.str (kindS m), .pt (ps.map encPr)]), some (.int rm), none, none, none] G = .ok false G := by
      have tp : eTup (aCons (eC (.str "map")) (aCons (eC (.str "list")) aNil)) [some (.tup [.str (kindS m), .pt (ps.map encPr)]), some (.int rm), none, none, none] G = .ok (.tup [.str "map", .str "list"]) G := by simp [sz2]
      have r1 : eOp dSub (eVar 1) (eC (.int 1)) [some (.tup [.str (kindS m), .pt (ps.map encPr)]), some (.int rm), none, none, none] G = .ok (.int (rm - 1)) G := by simp
      simp only [ap_tOr, ap_asB, ap_eOp (f := dNotIn), ix0, R.bind_ok, tp, in_kinds, if_false, Bool.false_eq_true, ap_tNot, ap_eTru, ap_eCall, ap_aCons, ix1, r1, ap_aNil, List.append_nil, List.length_cons, List.length_nil, Nat.zero_add, Nat.reduceAdd, if_true, hp, truD_bl, Bool.not_true]
    have l1 : lcL (fun _ => true) (gTp 2 (gsCons (gNm 3) (gsCons (gNm 4) gsNil))) tYesD (eVar 3) [some (.tup [.str (kindS m), .pt (ps.map encPr)]), some (.int rm), none, none, none] (ps.map encPr) [] G = .ok ([] ++ (ps.map encPr).map fun d => match d with | .tup (n :: _) => n | _ => .non) G := by
      refine lcL_map _ (fun d => match d with | .tup [a, b] => [some (.tup [.str (kindS m), .pt (ps.map encPr)]), some (.int rm), none, some a, some b] | _ => []) (fun d hd => ?_) (fun d hd => ?_) (by simp only [List.length_nil, List.length_map, Nat.zero_add]; exact Nat.le_trans (by omega : ps.length ≤ 4000) (by decide))
      · obtain ⟨p, _, rfl⟩ := List.mem_map.mp hd
        simp [encPr]
      · obtain ⟨p, _, rfl⟩ := List.mem_map.mp hd
        simp [encPr]
    have nm : (ps.map encPr).map (fun d => match d with | .tup (n :: _) => n | _ => .non) = (ps.map (·.1)).map D.str := by
      rw [List.map_map, List.map_map]; rfl
    rw [nm, List.nil_append] at l1
    have s3 : sSet 2 (eLc mkF (iSeq (eOp dIx (eVar 0) (eC (.int 1)))) (gTp 2 (gsCons (gNm 3) (gsCons (gNm 4) gsNil))) tYesD (eVar 3) [3, 4]) [some (.tup [.str (kindS m), .pt (ps.map encPr)]), some (.int rm), none, none, none] G = .nx [some (.tup [.str (kindS m), .pt (ps.map encPr)]), some (.int rm), some (.lst ((ps.map (·.1)).map D.str)), none, none] G := by
      have it : iSeq (eOp dIx (eVar 0) (eC (.int 1))) [some (.tup [.str (kindS m), .pt (ps.map encPr)]), some (.int rm), none, none, none] G = .ok ⟨ps.map encPr, fun _ => true⟩ G := by
        simp only [ap_iSeq, ix1, R.bind_ok, itsD_pt]
      have wd : wipeD [some (D.tup [.str (kindS m), .pt (ps.map encPr)]), some (.int rm), none, none, none] [3, 4] = [some (.tup [.str (kindS m), .pt (ps.map encPr)]), some (.int rm), none, none, none] := rfl
      simp only [ap_sSet, ap_eLc, it, R.bind_ok, wd, if_true, l1, ap_mkF, R.thn_ok]
      rfl
    have s4 : sRet (eOr (eOp dEq (eOp dIx (eVar 0) (eC (.int 0))) (eC (.str "list"))) (eOp dEq (eVar 2) (eCB (one (dSorted2 mkF)) (aCons (eVar 2) aNil)))) [some (.tup [.str (kindS m), .pt (ps.map encPr)]), some (.int rm), some (.lst ((ps.map (·.1)).map D.str)), none, none] G = .rt (.bl true) G := by
      have a1 : eOp dEq (eOp dIx (eVar 0) (eC (.int 0))) (eC (.str "list")) [some (.tup [.str (kindS m), .pt (ps.map encPr)]), some (.int rm), some (.lst ((ps.map (·.1)).map D.str)), none, none] G = .ok (.bl (!m)) G := by
        simp only [ap_eOp (f := dEq), ix0, R.bind_ok, ap_eC, dEq_str G (ok_kind m) ok_list, eq_list]
      rw [ap_sRet, ap_eOr, a1]
      cases m with
      | false => simp
      | true =>
        have a2 : eOp dEq (eVar 2) (eCB (one (dSorted2 mkF)) (aCons (eVar 2) aNil)) [some (.tup [.str (kindS true), .pt (ps.map encPr)]), some (.int rm), some (.lst ((ps.map (·.1)).map D.str)), none, none] G = .ok (.bl true) G := by
          have e2 : eVar 2 [some (D.tup [.str (kindS true), .pt (ps.map encPr)]), some (.int rm), some (.lst ((ps.map (·.1)).map D.str)), none, none] G = .ok (.lst ((ps.map (·.1)).map D.str)) G := rfl
          simp only [ap_eOp, e2, R.bind_ok, ap_eCB, ap_aCons, ap_aNil, ap_one, dSorted2_strs okn, sortS_id (srt rfl), dEq_strs okn okn, decide_true]
        simp only [R.bind_ok, Bool.not_true, truD_bl, a2, R.thn_ok]
    simp only [ap_sSeq, ap_sIf, two, R.thn_ok, if_false, Bool.false_eq_true, ap_sNext, RS.seq_nx, isv _ _ _ _ _ _ (ok_kind m), ne_value, s2, s3, s4]
end K03
end CF
end
section
set_option maxRecDepth 100000
set_option maxHeartbeats 4000000
namespace CF
namespace K03
open PySem PySem.Spec PyProof.Rows L2
noncomputable def F_int : List D → GH → R D := defF ["value"] b_is_integer
theorem m_int_i (i : Int) (G : GH) : defF ["value"] b_is_integer [.int i] G = .ok (.bl true) G := by
  simp [defF_ap, startD, b_is_integer, isiB]
theorem m_int_s (x : Str) (G : GH) : defF ["value"] b_is_integer [.str x] G = .ok (.bl false) G := by
  simp [defF_ap, startD, b_is_integer, isiB]
theorem m_intOk : IntOk F_int := ⟨fun i G => m_int_i i G, fun x G => m_int_s x G⟩
noncomputable def F_ist : Nat → List D → GH → R D
  | 0 => fNo
  | k + 1 => defF N_tr (b_is_tree F_int (defF N_pairs (b_is_pairs F_name (F_ist k))))
def nsOk (ns : List Str) : Prop := ∀ n ∈ ns, nmOk n = true ∧ PyData.strOk n = true
theorem sz_mem {ps : List (Str × Tr)} {p : Str × Tr} (h : p ∈ ps) : 1 + szT p.2 ≤ (ps.map fun p => 1 + szT p.2).sum := by
  induction ps with
  | nil => cases h
  | cons q r ih =>
    simp only [List.map_cons, List.sum_cons]
    rcases List.mem_cons.mp h with rfl | h
    · omega
    · have := ih h; omega
theorem m_ist {ns : List Str} (hns : nsOk ns) : ∀ (r k : Nat) (t : Tr) (rm : Int) (G : GH), r ≤ k → okT ns r t → (r : Int) ≤ rm → szT t < 4000 → F_ist k [encT t, .int rm] G = .ok (.bl true) G
  | 0, _, _, _, _, _, h, _, _ => h.elim
  | r + 1, 0, _, _, _, h, _, _, _ => by omega
  | r + 1, k + 1, t, rm, G, hk, ok, hr, hl => by
    refine m_is_tree m_intOk (fun n hn => (hns n hn).2) r t rm G ok (by omega) (fun m ps e => ?_) hl
    subst e
    obtain ⟨nd, inN, srt, sub⟩ := ok
    rw [szT_node] at hl
    refine m_pairs m_name ps (rm - 1) G nd (fun n hn => (hns n (inN n hn)).1) (fun p hp => ?_) (by have := len_sz ps; omega)
    exact m_ist hns r k p.2 (rm - 1) G (by omega) (sub p hp) (by omega) (by have := sz_mem hp; omega)
abbrev N_cnt : List Str := ["tree", "name", "node"]
noncomputable def F_cnt : Nat → List D → GH → R D
  | 0 => fNo
  | k + 1 => defF N_cnt (b_count_of (F_cnt k))
theorem ix_tup0 (a b : D) (δ : DEnv) (G : GH) : eOp dIx (eVar 0) (eC (.int 0)) (some (.tup [a, b]) :: δ) G = .ok a G := by simp
theorem ix_tup1 (a b : D) (δ : DEnv) (G : GH) : eOp dIx (eVar 0) (eC (.int 1)) (some (.tup [a, b]) :: δ) G = .ok b G := by simp
theorem is_value (x : Str) (b : D) (δ : DEnv) (G : GH) (hx : PyData.strOk x = true) : asB (eOp dEq (eOp dIx (eVar 0) (eC (.int 0))) (eC (.str "value"))) (some (.tup [.str x, b]) :: δ) G = .ok (x == "value") G := by
  simp only [ap_asB, ap_eOp (f := dEq), ix_tup0, R.bind_ok, ap_eC, dEq_str G hx ok_value]
theorem m_cnt {ns : List Str} : ∀ (r k : Nat) (t : Tr) (G : GH), r ≤ k → okT ns r t → szT t < 4000 → F_cnt k [encT t] G = .ok (.int (szT t)) G
  | 0, _, _, _, _, h, _ => h.elim
  | r + 1, 0, _, _, h, _, _ => by omega
  | r + 1, k + 1, t, G, hk, ok, hl => by
    have st : ∀ a : D, startD N_cnt [a] = [some a, none, none] := fun _ => rfl
    show defF N_cnt (b_count_of (F_cnt k)) [encT t] G = _
    have z : ∀ b : D, sRet (eC (.int 0)) [some (.tup [.str "value", b]), none, none] G = .rt (.int 0) G := fun _ => rfl
    cases t with
    | val i =>
      rw [encT_val, defF_ap, st]
      unfold b_count_of
      simp only [ap_sSeq, ap_sIf, is_value _ _ _ _ ok_value, R.thn_ok, vv, if_true, z, RS.seq_rt, szT]
      rfl
    | txt i =>
      rw [encT_txt, defF_ap, st]
      unfold b_count_of
      simp only [ap_sSeq, ap_sIf, is_value _ _ _ _ ok_value, R.thn_ok, vv, if_true, z, RS.seq_rt, szT]
      rfl
    | node m ps =>
      obtain ⟨nd, inN, srt, sub⟩ := ok
      rw [szT_node] at hl
      have pl : ps.length < 4000 := by have := len_sz ps; omega
      rw [encT_node, defF_ap, st, szT_node]
      unfold b_count_of
      have l1 : lcL (fun _ => true) (gTp 2 (gsCons (gNm 1) (gsCons (gNm 2) gsNil))) tYesD (eOp (dAdd mkF) (eC (.int 1)) (eCall 1 (F_cnt k) [] (aCons (eVar 2) aNil))) [some (.tup [.str (kindS m), .pt (ps.map encPr)]), none, none] (ps.map encPr) [] G = .ok ([] ++ ps.map fun p => D.int ((1 + szT p.2 : Nat) : Int)) G := by
        clear nd inN srt
        have key : ∀ (qs : List (Str × Tr)) (acc : List D), (∀ p ∈ qs, p ∈ ps) → acc.length + qs.length < 4000 → lcL (fun _ => true) (gTp 2 (gsCons (gNm 1) (gsCons (gNm 2) gsNil))) tYesD (eOp (dAdd mkF) (eC (.int 1)) (eCall 1 (F_cnt k) [] (aCons (eVar 2) aNil))) [some (.tup [.str (kindS m), .pt (ps.map encPr)]), none, none] (qs.map encPr) acc G = .ok (acc ++ qs.map fun p => D.int ((1 + szT p.2 : Nat) : Int)) G := by
          intro qs
          induction qs with
          | nil => intro acc _ _; simp [lcL]
          | cons q qs ih =>
            intro acc hm hz
            rw [List.length_cons] at hz
            have sz1 : acc.length < sizeLine := Nat.lt_of_lt_of_le (by omega : acc.length < 4000) (by decide)
            have e := m_cnt r k q.2 G (by omega) (sub q (hm q (.head _))) (by have := sz_mem (hm q (.head _)); omega)
            have ih := ih (acc ++ [D.int ((1 + szT q.2 : Nat) : Int)]) (fun p hp => hm p (.tail _ hp)) (by simp; omega)
            rw [List.map_cons]
            unfold lcL
            have ev : gTp 2 (gsCons (gNm 1) (gsCons (gNm 2) gsNil)) (encPr q) [some (.tup [.str (kindS m), .pt (ps.map encPr)]), none, none] G = .nx [some (.tup [.str (kindS m), .pt (ps.map encPr)]), some (.str q.1), some (encT q.2)] G := by simp [encPr]
            have ef : eOp (dAdd mkF) (eC (.int 1)) (eCall 1 (F_cnt k) [] (aCons (eVar 2) aNil)) [some (.tup [.str (kindS m), .pt (ps.map encPr)]), some (.str q.1), some (encT q.2)] G = .ok (.int ((1 + szT q.2 : Nat) : Int)) G := by
              simp [e]
            rw [ev]
            dsimp only
            rw [ap_tYes, R.nox_ok, R.bind_ok, if_pos rfl, ef, R.nox_ok, R.bind_ok]
            rw [if_pos (by simp [sz1]), ih]
            simp
        exact key ps [] (fun p hp => hp) (by simpa using pl)
      have s2 : sRet (eCB (one dSum) (aCons (eLc mkF (iSeq (eOp dIx (eVar 0) (eC (.int 1)))) (gTp 2 (gsCons (gNm 1) (gsCons (gNm 2) gsNil))) tYesD (eOp (dAdd mkF) (eC (.int 1)) (eCall 1 (F_cnt k) [] (aCons (eVar 2) aNil))) [1, 2]) aNil)) [some (.tup [.str (kindS m), .pt (ps.map encPr)]), none, none] G = .rt (.int ((ps.map fun p => 1 + szT p.2).sum : Nat)) G := by
        have it : iSeq (eOp dIx (eVar 0) (eC (.int 1))) [some (.tup [.str (kindS m), .pt (ps.map encPr)]), none, none] G = .ok ⟨ps.map encPr, fun _ => true⟩ G := by simp only [ap_iSeq, ix_tup1, R.bind_ok, itsD_pt]
        have wd : wipeD [some (D.tup [.str (kindS m), .pt (ps.map encPr)]), none, none] [1, 2] = [some (.tup [.str (kindS m), .pt (ps.map encPr)]), none, none] := rfl
        have su := dSum_ints G (ps.map fun p => ((1 + szT p.2 : Nat) : Int))
        rw [List.map_map] at su
        have sm : ∀ qs : List (Str × Tr), (qs.map fun p => ((1 + szT p.2 : Nat) : Int)).sum = (((qs.map fun p => 1 + szT p.2).sum : Nat) : Int) := by
          intro qs
          induction qs with
          | nil => rfl
          | cons q qs ih => simp only [List.map_cons, List.sum_cons, ih]; omega
        rw [sm] at su
        simp only [ap_sRet, ap_eCB, ap_aCons, ap_eLc, it, R.bind_ok, wd, if_true, l1, ap_mkF, ap_aNil, ap_one, List.nil_append]
        rw [show (fun p : Str × Tr => D.int ((1 + szT p.2 : Nat) : Int)) = D.int ∘ (fun p => ((1 + szT p.2 : Nat) : Int)) from rfl, su]
        rfl
      simp only [ap_sSeq, ap_sIf, is_value _ _ _ _ (ok_kind m), R.thn_ok, ne_value, if_false, Bool.false_eq_true, ap_sNext, RS.seq_nx, s2]
end K03
end CF
end
section
set_option maxRecDepth 100000
set_option maxHeartbeats 4000000
namespace CF
namespace K03
open PySem PySem.Spec PyProof.Rows L2
noncomputable def F_chk (k : Nat) : List D → GH → R D := defF ["tree"] (b_check_tree (F_ist k) (F_cnt k))
theorem m_chk {ns : List Str} (hns : nsOk ns) {k : Nat} (t : Tr) (G : GH) (ok : okT ns 6 t) (hk : 6 ≤ k) (hl : szT t ≤ 320) : F_chk k [encT t] G = .ok .non G := by
  have e1 := m_ist hns 6 k t 6 G hk ok (by decide) (by omega)
  have e2 := m_cnt 6 k t G hk ok (by omega)
  have st : startD ["tree"] [encT t] = [some (encT t)] := rfl
  have q : ¬ (320 : Int) < (szT t : Int) := by omega
  unfold F_chk b_check_tree
  rw [defF_ap, st]
  have s1 : (tNotD (eTru (eCall 2 (F_ist k) (.int 6 :: []) (aCons (eVar 0) aNil)))) [some (encT t)] G = .ok false G := by
    have a : aCons (eVar 0) aNil [some (encT t)] G = .ok [encT t] G := rfl
    simp only [ap_tNot, ap_eTru, ap_eCall, a, R.bind_ok, List.cons_append, List.nil_append, List.length_cons, List.length_nil, Nat.zero_add, Nat.reduceAdd, if_true, e1, truD_bl, Bool.not_true]
  have s2 : asB (eOp dGt (eCall 1 (F_cnt k) [] (aCons (eVar 0) aNil)) (eC (.int (320)))) [some (encT t)] G = .ok false G := by
    have a : aCons (eVar 0) aNil [some (encT t)] G = .ok [encT t] G := rfl
    simp only [ap_asB, ap_eOp, ap_eCall, a, R.bind_ok, List.append_nil, List.length_cons, List.length_nil, Nat.zero_add, if_true, e2, ap_eC, dIB_ap, q, decide_false]
  simp only [ap_sSeq, ap_sIf, s1, R.thn_ok, if_false, Bool.false_eq_true, ap_sNext, RS.seq_nx, s2]
theorem pairsD_enc : ∀ ps : List (Str × Tr), pairsD (ps.map encPr) = some (ps.map fun p => ((Sum.inr p.1 : Key), encT p.2))
  | [] => rfl
  | p :: ps => by
    rw [List.map_cons, pairsD, pairsD_enc ps]
    rfl
theorem putD_new {κ : Type} [DecidableEq κ] {kds : List (κ × D)} {k : κ} {d : D} (h : k ∉ kds.map (·.1)) : putD kds k d = kds ++ [(k, d)] := by
  unfold putD
  rw [if_neg]
  intro q
  obtain ⟨p, hp, e⟩ := List.any_eq_true.mp q
  exact h (List.mem_map.mpr ⟨p, hp, of_decide_eq_true e⟩)
theorem mergeD_new {κ : Type} [DecidableEq κ] : ∀ {more kds : List (κ × D)}, ((kds ++ more).map (·.1)).Nodup → mergeD kds more = kds ++ more
  | [], kds, _ => by simp [mergeD]
  | p :: more, kds, h => by
    have hp : p.1 ∉ kds.map (·.1) := fun q => by
      rw [List.map_append, List.map_cons] at h
      exact (List.nodup_append.mp h).2.2 _ q _ (.head _) rfl
    show mergeD (putD kds p.1 p.2) more = _
    rw [putD_new hp, mergeD_new (by simpa using h)]
    simp
theorem dict_enc {ps : List (Str × Tr)} (nd : (ps.map (·.1)).Nodup) (G : GH) : dDict mkKF (.pt (ps.map encPr)) G = .ok (.dK (ps.map fun p => ((Sum.inr p.1 : Key), encT p.2))) G := by
  show (match pairsD (ps.map encPr) with | some kds => mkKF (mergeD [] kds) G | none => .no) = _
  rw [pairsD_enc]
  dsimp only
  rw [mergeD_new]
  · rfl
  · rw [List.nil_append, List.map_map]
    have : (Prod.fst ∘ fun p : Str × Tr => ((Sum.inr p.1 : Key), encT p.2)) = (Sum.inr : Str → Key) ∘ (·.1) := rfl
    rw [this, ← List.map_map]
    exact List.pairwise_map.mpr (nd.imp fun h e => h (Sum.inr.inj e))
end K03
end CF
end
section
set_option maxRecDepth 100000
set_option maxHeartbeats 4000000
namespace CF
namespace K03
open PySem PySem.Spec PyProof.Rows L2
mutual
def pyT : Tr → PyData
  | .val i => .tuple [.str "value", .int i]
  | .txt x => .tuple [.str "value", .str x]
  | .node m ps => .tuple [.str (kindS m), .tuple (pyP ps)]
def pyP : List (Str × Tr) → List PyData
  | [] => []
  | (n, t) :: r => .tuple [.str n, pyT t] :: pyP r
end
theorem txt_ok {x : Str} (h : okS x = true) : PyData.strOk x = true := (Bool.and_eq_true_iff.mp (Bool.and_eq_true_iff.mp h).1).1
theorem py_enc {ns : List Str} (hns : ∀ n ∈ ns, PyData.strOk n = true) : ∀ (r : Nat) (t : Tr), okT ns r t → (encT t).py = some (pyT t) ∧ (pyT t).depth ≤ 3 * r
  | 0, _, h => h.elim
  | r + 1, .val i, h => by
    rw [encT_val, pyT]
    simp [D.py, D.pyAll, ok_value, PyData.depth, PyData.depthAll]
    omega
  | r + 1, .txt x, h => by
    have hx := txt_ok (show okS x = true from h)
    rw [encT_txt, pyT]
    simp [D.py, D.pyAll, ok_value, hx, PyData.depth, PyData.depthAll]
    omega
  | r + 1, .node m ps, ⟨nd, inN, srt, sub⟩ => by
    have key : ∀ qs : List (Str × Tr), (∀ q ∈ qs, q.1 ∈ ns ∧ okT ns r q.2) → D.pyAll (qs.map encPr) = some (pyP qs) ∧ PyData.depthAll (pyP qs) ≤ 3 * r + 1 := by
      intro qs
      induction qs with
      | nil => intro _; rw [pyP]; simp [D.pyAll, PyData.depthAll]
      | cons q qs ih =>
        intro hq
        obtain ⟨h1, h2⟩ := hq q (.head _)
        obtain ⟨e1, d1⟩ := py_enc hns r q.2 h2
        obtain ⟨e2, d2⟩ := ih fun q hq' => hq q (.tail _ hq')
        obtain ⟨n, t⟩ := q
        rw [pyP, List.map_cons, D.pyAll, e2]
        have e3 : (encPr (n, t)).py = some (.tuple [.str n, pyT t]) := by
          simp [encPr, D.py, D.pyAll, hns n h1, e1]
        rw [e3]
        refine ⟨rfl, ?_⟩
        simp only [PyData.depthAll, PyData.depth]
        have d1' : (pyT t).depth ≤ 3 * r := d1
        omega
    obtain ⟨e, d⟩ := key ps fun q hq => ⟨inN _ (List.mem_map.mpr ⟨q, hq, rfl⟩), sub q hq⟩
    rw [encT_node, pyT]
    refine ⟨by simp [D.py, D.pyAll, ok_kind, e], ?_⟩
    simp only [PyData.depth, PyData.depthAll]
    omega
end K03
end CF
end
section
set_option maxRecDepth 100000
set_option maxHeartbeats 4000000
namespace CF
namespace K03
open PySem PySem.Spec PyProof.Rows L2
def encW (p : List Str) : D := .tup (p.map D.str)
def encN (q : List Str × Tr) : D := .tup [encW q.1, encT q.2]
mutual
def ndT (p : List Str) : Tr → List (List Str × Tr)
  | .val i => [(p, .val i)]
  | .txt x => [(p, .txt x)]
  | .node m ps => (p, .node m ps) :: ndP p ps
def ndP (p : List Str) : List (Str × Tr) → List (List Str × Tr)
  | [] => []
  | (n, t) :: r => ndT (p ++ [n]) t ++ ndP p r
end
theorem ndT_len : ∀ (p : List Str) (t : Tr), (ndT p t).length = 1 + szT t := by
  have key : ∀ (s : Nat) (p : List Str) (t : Tr), szT t ≤ s → (ndT p t).length = 1 + szT t := by
    intro s
    induction s with
    | zero =>
      intro p t h
      cases t with
      | val i => rw [ndT, szT]; rfl
      | txt i => rw [ndT, szT]; rfl
      | node m ps =>
        rw [szT] at h ⊢
        cases ps with
        | nil => rw [ndT, ndP, szP]; rfl
        | cons q r => obtain ⟨n, t⟩ := q; rw [szP] at h; omega
    | succ s ih =>
      intro p t h
      cases t with
      | val i => rw [ndT, szT]; rfl
      | txt i => rw [ndT, szT]; rfl
      | node m ps =>
        rw [szT] at h
        rw [ndT, szT]
        have go : ∀ qs : List (Str × Tr), szP qs ≤ s + 1 → (ndP p qs).length = szP qs := by
          intro qs
          induction qs with
          | nil => intro _; rw [ndP, szP]; rfl
          | cons q qs ihq =>
            intro hq
            obtain ⟨n, t⟩ := q
            rw [szP] at hq
            rw [ndP, szP, List.length_append, ih (p ++ [n]) t (by omega), ihq (by omega)]
        rw [List.length_cons, go ps h]
        omega
  exact fun p t => key _ p t (Nat.le_refl _)
theorem ndP_len (p : List Str) : ∀ ps : List (Str × Tr), (ndP p ps).length = szP ps
  | [] => by rw [ndP, szP]; rfl
  | (n, t) :: r => by rw [ndP, szP, List.length_append, ndT_len, ndP_len p r]
abbrev N_nd : List Str := ["_law_tree_here", "_law_path", "_law_found", "_law_name", "_law_node"]
noncomputable def F_nd : Nat → List D → GH → R D
  | 0 => fNo
  | k + 1 => defF N_nd (b__law_nodes (F_nd k))
theorem not_value (x : Str) (b : D) (δ : DEnv) (G : GH) (hx : PyData.strOk x = true) : asB (eOp dNe (eOp dIx (eVar 0) (eC (.int 0))) (eC (.str "value"))) (some (.tup [.str x, b]) :: δ) G = .ok (!(x == "value")) G := by
  simp only [ap_asB, ap_eOp (f := dNe), ix_tup0, R.bind_ok, ap_eC, dNe_str G hx ok_value]
theorem m_nd {ns : List Str} : ∀ (r k : Nat) (t : Tr) (p : List Str) (G : GH), r ≤ k → okT ns r t → szT t < 4000 → p.length + r < 1000 → F_nd k [encT t, encW p] G = .ok (.lst ((ndT p t).map encN)) G
  | 0, _, _, _, _, _, h, _, _ => h.elim
  | r + 1, 0, _, _, _, h, _, _, _ => by omega
  | r + 1, k + 1, t, p, G, hk, ok, hl, hp => by
    have st : ∀ a b : D, startD N_nd [a, b] = [some a, some b, none, none, none] := fun _ _ => rfl
    show defF N_nd (b__law_nodes (F_nd k)) [encT t, encW p] G = _
    have sz1 : (1 : Nat) ≤ sizeLine := by decide
    have sz2 : (2 : Nat) ≤ sizeLine := by decide
    have s1 : ∀ a : D, sSet 2 (eLst (aCons (eTup (aCons (eVar 1) (aCons (eVar 0) aNil))) aNil)) [some a, some (encW p), none, none, none] G = .nx [some a, some (encW p), some (.lst [.tup [encW p, a]]), none, none] G := fun a => by
      simp [sz1, sz2]
    have s3 : ∀ a b c d e : Option D, ∀ x : D, sRet (eVar 2) [a, b, some x, d, e] G = .rt x G := fun _ _ _ _ _ _ => rfl
    cases t with
    | val i =>
      rw [encT_val, defF_ap, st]
      unfold b__law_nodes
      simp only [ap_sSeq, s1, RS.seq_nx, ap_sIf, not_value _ _ _ _ ok_value, R.thn_ok, vv, Bool.not_true, if_false, Bool.false_eq_true, ap_sNext]
      rw [ndT]
      simp [encN, encT_val]
    | txt i =>
      rw [encT_txt, defF_ap, st]
      unfold b__law_nodes
      simp only [ap_sSeq, s1, RS.seq_nx, ap_sIf, not_value _ _ _ _ ok_value, R.thn_ok, vv, Bool.not_true, if_false, Bool.false_eq_true, ap_sNext]
      rw [ndT]
      simp [encN, encT_txt]
    | node m ps =>
      obtain ⟨nd, inN, srt, sub⟩ := ok
      have hl' : szP ps < 4000 := by rw [szT] at hl; exact hl
      rw [szT_node] at hl
      rw [encT_node, defF_ap, st]
      unfold b__law_nodes
      have key : ∀ (us : List (Str × Tr)) (acc : List D) (x y : Option D), (∀ u ∈ us, u ∈ ps) → acc.length + szP us < 5000 → ∃ x' y', sForL (fun _ => true) (gTp 2 (gsCons (gNm 3) (gsCons (gNm 4) gsNil))) (sSet 2 (eOp (dAdd mkF) (eVar 2) (eCall 2 (F_nd k) [] (aCons (eVar 4) (aCons (eOp (dAdd mkF) (eVar 1) (eTup (aCons (eVar 3) aNil))) aNil)))))
          (us.map encPr) [some (.tup [.str (kindS m), .pt (ps.map encPr)]), some (encW p), some (.lst acc), x, y] G = .nx [some (.tup [.str (kindS m), .pt (ps.map encPr)]), some (encW p), some (.lst (acc ++ (ndP p us).map encN)), x', y'] G := by
        intro us
        induction us with
        | nil => intro acc x y _ _; exact ⟨x, y, by rw [ndP]; simp [sForL]⟩
        | cons u us ih =>
          intro acc x y hm hz
          obtain ⟨n, t⟩ := u
          rw [szP] at hz
          have hu := hm _ (.head _)
          have e := m_nd r k t (p ++ [n]) G (by omega) (sub _ hu) (by have := sz_mem hu; simp only at this; omega) (by rw [List.length_append, List.length_singleton]; omega)
          obtain ⟨x', y', ih⟩ := ih (acc ++ (ndT (p ++ [n]) t).map encN) (some (.str n)) (some (encT t)) (fun u hu => hm u (.tail _ hu)) (by rw [List.length_append, List.length_map, ndT_len]; omega)
          refine ⟨x', y', ?_⟩
          rw [List.map_cons]
          unfold sForL
          have eg : gTp 2 (gsCons (gNm 3) (gsCons (gNm 4) gsNil)) (encPr (n, t)) [some (.tup [.str (kindS m), .pt (ps.map encPr)]), some (encW p), some (.lst acc), x, y] G = .nx [some (.tup [.str (kindS m), .pt (ps.map encPr)]), some (encW p), some (.lst acc), some (.str n), some (encT t)] G := by simp [encPr]
          have pw : eOp (dAdd mkF) (eVar 1) (eTup (aCons (eVar 3) aNil)) [some (.tup [.str (kindS m), .pt (ps.map encPr)]), some (encW p), some (.lst acc), some (.str n), some (encT t)] G = .ok (encW (p ++ [n])) G := by
            have szp : p.length + 1 ≤ sizeLine := Nat.le_trans (by omega : p.length + 1 ≤ 1001) (by decide)
            simp [encW, sz1, szp]
          have es : sSet 2 (eOp (dAdd mkF) (eVar 2) (eCall 2 (F_nd k) [] (aCons (eVar 4) (aCons (eOp (dAdd mkF) (eVar 1) (eTup (aCons (eVar 3) aNil))) aNil)))) [some (.tup [.str (kindS m), .pt (ps.map encPr)]), some (encW p), some (.lst acc), some (.str n), some (encT t)] G = .nx [some (.tup [.str (kindS m), .pt (ps.map encPr)]), some (encW p), some (.lst (acc ++ (ndT (p ++ [n]) t).map encN)), some (.str n), some (encT t)] G := by
            have v2 : eVar 2 [some (D.tup [.str (kindS m), .pt (ps.map encPr)]), some (encW p), some (.lst acc), some (.str n), some (encT t)] G = .ok (.lst acc) G := rfl
            have v4 : eVar 4 [some (D.tup [.str (kindS m), .pt (ps.map encPr)]), some (encW p), some (.lst acc), some (.str n), some (encT t)] G = .ok (encT t) G := rfl
            have cl : eCall 2 (F_nd k) [] (aCons (eVar 4) (aCons (eOp (dAdd mkF) (eVar 1) (eTup (aCons (eVar 3) aNil))) aNil)) [some (D.tup [.str (kindS m), .pt (ps.map encPr)]), some (encW p), some (.lst acc), some (.str n), some (encT t)] G = .ok (.lst ((ndT (p ++ [n]) t).map encN)) G := by
              rw [ap_eCall, ap_aCons, v4, R.bind_ok, ap_aCons, pw, R.bind_ok, ap_aNil, R.bind_ok, R.bind_ok, R.bind_ok, List.append_nil, if_pos (show [encT t, encW (p ++ [n])].length = 2 from rfl), e]
            have szl : acc.length + ((ndT (p ++ [n]) t).map encN).length ≤ sizeLine := by
              rw [List.length_map, ndT_len]
              exact Nat.le_trans (by omega : acc.length + (1 + szT t) ≤ 5000) (by decide)
            rw [ap_sSet, ap_eOp, v2, R.bind_ok, cl, R.bind_ok, dAdd_lst, if_pos szl, ap_mkF, R.thn_ok]
            rfl
          rw [eg]
          dsimp only
          rw [es]
          dsimp only
          rw [if_pos rfl, ih, ndP]
          simp
      obtain ⟨x', y', l1⟩ := key ps [.tup [encW p, .tup [.str (kindS m), .pt (ps.map encPr)]]] none none (fun u h => h) (by simp; omega)
      have s2 : sFor (iSeq (eOp dIx (eVar 0) (eC (.int 1)))) (gTp 2 (gsCons (gNm 3) (gsCons (gNm 4) gsNil))) (sSet 2 (eOp (dAdd mkF) (eVar 2) (eCall 2 (F_nd k) [] (aCons (eVar 4) (aCons (eOp (dAdd mkF) (eVar 1) (eTup (aCons (eVar 3) aNil))) aNil))))) [some (.tup [.str (kindS m), .pt (ps.map encPr)]), some (encW p), some (.lst [.tup [encW p, .tup [.str (kindS m), .pt (ps.map encPr)]]]), none, none] G =
          .nx [some (.tup [.str (kindS m), .pt (ps.map encPr)]), some (encW p), some (.lst ([.tup [encW p, .tup [.str (kindS m), .pt (ps.map encPr)]]] ++ (ndP p ps).map encN)), x', y'] G := by
        have it : iSeq (eOp dIx (eVar 0) (eC (.int 1))) [some (.tup [.str (kindS m), .pt (ps.map encPr)]), some (encW p), some (.lst [.tup [encW p, .tup [.str (kindS m), .pt (ps.map encPr)]]]), none, none] G = .ok ⟨ps.map encPr, fun _ => true⟩ G := by simp only [ap_iSeq, ix_tup1, R.bind_ok, itsD_pt]
        rw [ap_sFor, it, R.thn_ok, if_pos rfl, l1]
      simp only [ap_sSeq, s1, RS.seq_nx, ap_sIf, not_value _ _ _ _ (ok_kind m), R.thn_ok, ne_value, Bool.not_false, if_true, s2, s3]
      rw [ndT]
      simp [encN, encT_node]
end K03
end CF
end
section
set_option maxRecDepth 100000
set_option maxHeartbeats 4000000
namespace CF
namespace K03
open PySem PySem.Spec PyProof.Rows L2
def kdT : Tr → Str
  | .val _ => "value"
  | .txt _ => "value"
  | .node m _ => kindS m
def rpT : Tr → Str
  | .val i => PyData.shown (.int i)
  | .txt x => PyData.shown (.str x)
  | .node _ _ => ""
abbrev Bq := List Str × Str × Str
def leafOk : Tr → Prop
  | .val i => -(10 ^ 30) < i ∧ i < 10 ^ 30
  | .txt x => okS x = true
  | .node _ _ => True
theorem ndT_ok {ns : List Str} : ∀ (r : Nat) (t : Tr) (p : List Str), okT ns r t → ∀ q ∈ ndT p t, leafOk q.2 ∧ (∀ n ∈ q.1, n ∈ p ∨ n ∈ ns)
  | 0, _, _, h, _, _ => h.elim
  | r + 1, .val i, p, h, q, hq => by
    rw [ndT] at hq
    simp at hq
    subst hq
    exact ⟨h, fun n hn => .inl hn⟩
  | r + 1, .txt i, p, h, q, hq => by
    rw [ndT] at hq
    simp at hq
    subst hq
    exact ⟨h, fun n hn => .inl hn⟩
  | r + 1, .node m ps, p, ⟨nd, inN, srt, sub⟩, q, hq => by
    rw [ndT] at hq
    rcases List.mem_cons.mp hq with rfl | hq
    · exact ⟨True.intro, fun n hn => .inl hn⟩
    · clear nd srt
      induction ps with
      | nil => rw [ndP] at hq; cases hq
      | cons u us ih =>
        obtain ⟨n, t⟩ := u
        rw [ndP] at hq
        rcases List.mem_append.mp hq with hq | hq
        · obtain ⟨h1, h2⟩ := ndT_ok r t (p ++ [n]) (sub _ (.head _)) q hq
          refine ⟨h1, fun x hx => ?_⟩
          rcases h2 x hx with h2 | h2
          · rcases List.mem_append.mp h2 with h2 | h2
            · exact .inl h2
            · rw [List.mem_singleton.mp h2]; exact .inr (inN n (by simp))
          · exact .inr h2
        · exact ih (fun x hx => inN x (by simp only [List.map_cons]; exact .tail _ hx)) (fun u hu => sub u (.tail _ hu)) (.tail _ hq) hq
theorem log_small {i : Int} (h : -(10 ^ 30) < i ∧ i < 10 ^ 30) : i.natAbs.log2 < 1920 := by
  by_cases hz : i.natAbs = 0
  · rw [hz]; decide
  · have h1 : i.natAbs < 2 ^ 100 := by
      have e : (2 : Nat) ^ 100 = 1267650600228229401496703205376 := by decide
      rw [e]; omega
    exact Nat.lt_trans ((Nat.log2_lt hz).mpr h1) (by decide)
end K03
end CF
end
section
set_option maxRecDepth 100000
set_option maxHeartbeats 4000000
namespace CF
namespace OA
open PySem PySem.Spec PyProof.Rows L2
noncomputable def b_is_name  : FS :=
    (sSeq (sIf (tOrD (tNotD (eTru (eOne (eVar 0) (dIsi "str")))) (tNotD (asB (eChain dLe dLe (eC (.int 1)) (eCB (one dLen) (aCons (eVar 0) aNil)) (eC (.int (8))))))) (sRet (eC (.bl false))) sNext)
    (sRet (eCB (one dAll) (aCons (eLc mkF (iSeq (eVar 0)) (gNm 1) tYesD (eOp dIn (eVar 1) (eC (.str "abcdefghijklmnopqrstuvwxyz"))) [1]) aNil))))
end OA
end CF
end
section
set_option maxRecDepth 100000
namespace CF
open PySem PySem.Spec PyProof.Rows L2
local macro_rules
  | `(tactic| exists $es,*) => `(tactic| simp (disch := first | assumption | omega | (simp only [List.length_set, List.length_append, List.length_cons, List.length_nil]; omega)) only [↓wp_ok, ↓wp_ex, ↓wp_bind, ↓wp_guard, ↓wp_nox, ↓sp_nx, ↓sp_rt, ↓sp_bk, ↓sp_ct, ↓sp_ex, ↓sp_seq, ↓sp_thn, ↓sp_guard,
      ↓w_eC, ↓w_eVar, ↓w_aNil, ↓w_aCons, ↓w_eTup, ↓w_eTupP, ↓w_eLst, ↓w_eLstM, ↓w_eOp, ↓w_eChain, ↓w_asB, ↓w_tAnd, ↓w_tOr, ↓w_tNot, ↓w_eTru, ↓w_eIf, ↓w_sNext, ↓w_sSeq, ↓w_sRet, ↓w_sRetN, ↓w_sIf, ↓w_sSet, ↓w_sDrop, ↓w_sBreak, ↓w_sCont, ↓w_gNm, ↓w_gsNil, ↓w_gsCons, ↓w_gTp, ↓w_sAsg, ↓w_eOne, ↓w_eUn, ↓w_eCB, ↓w_one, ↓w_eCall, ↓w_eAnd, ↓w_eOr, ↓w_eNot, ↓w_iSeq, ↓w_eLc, ↓w_mkF, ↓w_mkM, ↓w_tYes, ↓w_eMt, ↓w_eMt0, ↓w_iRg1, ↓w_sPut, ↓w_gPut, ↓w_sPar2, ↓w_sPar3, ↓w_sAugD, ↓w_eDict0, ↓w_mkKF, ↓w_mkKM, ↓w_eRev, ↓w_eGet2, ↓w_eLenSet2, ↓w_iEn, ↓w_iZp, ↓w_eCm, ↓w_cmDn, ↓w_cmDc, ↓w_emLd, ↓w_emKd, keyD_str, keyD_int, dKOf_dK, dKOf_ref, celL_ref, celD_ref, lstIts_lst, tupIts_tup, tupIts_pt, tupIts_lst, tupIts_scr, tupIts_ref, strsOf_map,
      wipeD_nil, wipeD_cons, List.cons_append, List.nil_append, List.append_nil, ap_setI, eSl_ap, eOpt_none, eOpt_some,
      List.getElem?_cons_zero, List.getElem?_cons_succ, List.set_cons_zero, List.set_cons_succ, List.length_cons, List.length_nil, List.length_set, Nat.zero_add, Nat.reduceAdd, Nat.reduceSub, Nat.add_one_sub_one, List.length_append,
      itsD_tup, itsD_pt, itsD_lst, itsD_scr, dIx_tup, dIx_pt, dIx_lst, dIx_scr, atI_0, atI_1, atI_2, dAdd_int, dAdd_tup, dAdd_pt, dAdd_lst, dAdd_str, dInt_int, dInt_bl, dStr_int, dStr_str, dIsi_ap, dLen_lst, dLen_tup, dLen_pt, dLen_scr, dIsN_non, dNotN_non, dNeg_ap, dIB_ap, dI_ap,
      dEq_int, dNe_int, truD_bl, truD_non, truD_int, dSl_tup, dSl_pt, dSl_lst, dSl_scr, dTupP_lst, decide_true, decide_false, if_true, if_false, Bool.false_eq_true, Bool.not_true, Bool.not_false, eq_self, true_and, and_true, sz_le, sz_lt, rngIts_items, rngIts_chk, beq_self_eq_true, R.bind_ok, R.nox_ok, tyM_ref, mAppend_ref, mExtend_ref, ge1, ge2a, ge2b, ge3a, ge3b, ge3c, ge3d, st1, st2a, st2b, st3a, st3b, st3c, st3d, tyN, Bool.and_self, Bool.and_true, Bool.true_and, Bool.and_false, Bool.false_and, Bool.or_true, Bool.true_or, Bool.or_false, Bool.false_or, Int.reduceLT, Int.reduceLE, Int.reduceGT, Int.reduceNeg, Int.reduceAdd, Int.reduceSub, Int.reduceBEq, Int.reduceBNe, Int.reduceEq, Int.reduceToNat, Nat.reduceEqDiff, Nat.reduceLeDiff, reduceCtorEq, Int.natCast_zero, Int.cast_ofNat_Int, Int.lt_irrefl, List.map_nil, decide_eq_true_eq,
      isi_NoneType_int, isi_NoneType_str, isi_NoneType_bool, isi_NoneType_tuple, isi_NoneType_list, isi_NoneType_dict, isi_bool_int, isi_bool_str, isi_bool_bool, isi_bool_tuple, isi_bool_list, isi_bool_dict, isi_int_int, isi_int_str, isi_int_bool, isi_int_tuple, isi_int_list, isi_int_dict, isi_str_int, isi_str_str, isi_str_bool, isi_str_tuple, isi_str_list, isi_str_dict, isi_tuple_int, isi_tuple_str, isi_tuple_bool, isi_tuple_tuple, isi_tuple_list, isi_tuple_dict, isi_list_int, isi_list_str, isi_list_bool, isi_list_tuple, isi_list_list, isi_list_dict, isi_dict_int, isi_dict_str, isi_dict_bool, isi_dict_tuple, isi_dict_list, isi_dict_dict, $[$es:term],*])
  | `(tactic| and_intros) => `(tactic| (rw [wp_def]; simp only [startD, List.map_cons, List.map_nil, List.length_cons, List.length_nil, Nat.zero_add, Nat.reduceAdd, Nat.reduceSub, List.replicate, List.cons_append, List.nil_append]))
section
set_option maxRecDepth 100000
set_option maxHeartbeats 4000000
namespace OA
open PySem PySem.Spec PyProof.Rows L2
structure Src where
  a : Int
  b : Int
  c : Int
def Src.cell (w : Src) : Cell := .lst [.int w.a, .int w.b, .int w.c]
def Src.ok (w : Src) (n : Int) : Prop := 0 ≤ w.b ∧ w.b < 2147483647 ∧ 0 ≤ w.c ∧ w.c < n
theorem Src.ok.mono {w : Src} {n m : Int} (h : w.ok n) (l : n ≤ m) : w.ok m := ⟨h.1, h.2.1, h.2.2.1, by have := h.2.2.2; omega⟩
def DrawOk (f : List D → GH → R D) : Prop := ∀ (w : Src) (m : Int) (n : Nat) (G : GH) (k : Int), G[n]? = some w.cell → 0 < m → m < 18446744073709551616 → w.ok k → k ≤ 1000000000 →
    ∃ (r : Int) (w' : Src), f [.ref n, .int m] G = .ok (.int r) (G.set n w'.cell) ∧ 0 ≤ r ∧ r < m ∧ w'.ok (k + 1)
theorem lt_of_get {G : GH} {n : Nat} {c : Cell} (h : G[n]? = some c) : n < G.length := (List.getElem?_eq_some_iff.mp h).1
theorem putO_list {G : GH} {n : Nat} {xs : List D} {z : Int} {j : Nat} (d : D) (h : G[n]? = some (.lst xs)) (hj : ixN xs.length z = some j) : putO G (.ref n) (.int z) d = some (G.set n (.lst (xs.set j d))) := by
  unfold putO
  rw [celL_ref, h]
  show (ixN xs.length z).map _ = _
  rw [hj]
  rfl
def LETT : Str := "abcdefghijklmnopqrstuvwxyz"
def inLett (c : Nat) : Bool := !(Builtin.Str.occurrences LETT ⟨#[c]⟩ 0 LETT.length 1).isEmpty
def nmOk (x : Str) : Bool := (decide (1 ≤ x.length) && decide (x.length ≤ 8)) && x.cps.toList.all inLett
noncomputable def F_name : List D → GH → R D := defF ["value", "sign"] b_is_name
def NameOk (f : List D → GH → R D) : Prop := ∀ (x : Str) (G : GH), nmOk x = true → f [.str x] G = .ok (.bl true) G
theorem m_name : NameOk F_name := by
  intro x G h
  unfold nmOk at h
  obtain ⟨h1, h3⟩ := Bool.and_eq_true_iff.mp h
  obtain ⟨h1, h2⟩ := Bool.and_eq_true_iff.mp h1
  have h1 := of_decide_eq_true h1
  have h2 := of_decide_eq_true h2
  have sz : x.length ≤ sizeLine := Nat.le_trans h2 (by decide)
  have st : startD ["value", "sign"] [D.str x] = [some (.str x), none] := rfl
  have i1 : (1 : Int) ≤ (x.length : Int) := by omega
  have i2 : (x.length : Int) ≤ 8 := by omega
  have s1 : (tOrD (tNotD (eTru (eOne (eVar 0) (dIsi "str")))) (tNotD (asB (eChain dLe dLe (eC (.int 1)) (eCB (one dLen) (aCons (eVar 0) aNil)) (eC (.int (8))))))) [some (.str x), none] G = .ok false G := by
    simp [isiB, sz, i1, i2]
  have lc : lcL (fun _ => true) (gNm 1) tYesD (eOp dIn (eVar 1) (eC (.str "abcdefghijklmnopqrstuvwxyz"))) [some (.str x), none] (x.cps.toList.map fun c => D.str ⟨#[c]⟩) [] G = .ok ([] ++ (x.cps.toList.map fun c => D.str ⟨#[c]⟩).map fun d => match d with | .str y => .bl (!(Builtin.Str.occurrences LETT y 0 LETT.length 1).isEmpty) | _ => .non) G := by
    refine lcL_map _ (fun d => [some (.str x), some d]) (fun d hd => ?_) (fun d hd => ?_) ?_
    · simp
    · obtain ⟨c, _, rfl⟩ := List.mem_map.mp hd
      simp [dIn, inD, LETT]
    · simp only [List.length_nil, Nat.zero_add, List.length_map]
      exact sz
  have s2 : sRet (eCB (one dAll) (aCons (eLc mkF (iSeq (eVar 0)) (gNm 1) tYesD (eOp dIn (eVar 1) (eC (.str "abcdefghijklmnopqrstuvwxyz"))) [1]) aNil)) [some (.str x), none] G = .rt (.bl true) G := by
    have it : iSeq (eVar 0) [some (.str x), none] G = .ok ⟨x.cps.toList.map fun c => D.str ⟨#[c]⟩, fun _ => true⟩ G := by simp
    have wd : wipeD [some (.str x), none] [1] = [some (D.str x), none] := rfl
    rw [List.nil_append, List.map_map] at lc
    have al := dAll_map G x.cps.toList inLett
    rw [h3] at al
    simp only [ap_sRet, ap_eCB, ap_aCons, ap_eLc, it, R.bind_ok, wd, if_true, lc, ap_mkF, ap_aNil, ap_one]
    have e : (fun d => match d with | D.str y => D.bl (!(Builtin.Str.occurrences LETT y 0 LETT.length 1).isEmpty) | _ => .non) ∘ (fun c => D.str ⟨#[c]⟩) = fun c : Nat => D.bl (inLett c) := rfl
    rw [e, al]
    rfl
  unfold F_name b_is_name
  rw [defF_ap]
  simp only [st, ap_sSeq, ap_sIf, s1, R.thn_ok, if_false, Bool.false_eq_true, ap_sNext, RS.seq_nx, s2]
theorem met_go : ∀ (xs acc : List Str), (acc ++ xs).Nodup → xs.foldl step_dedup acc = acc ++ xs
  | [], acc, _ => by simp
  | x :: xs, acc, h => by
    have hx : acc.any (· == x) = false := by
      cases q : acc.any (· == x) with
      | false => rfl
      | true =>
        obtain ⟨y, hy, e⟩ := List.any_eq_true.mp q
        have e' : y = x := eq_of_beq e
        subst e'
        exact absurd (List.nodup_append.mp h).2.2 (fun z => z y hy y (.head _) rfl)
    rw [List.foldl_cons]
    have e : step_dedup acc x = acc ++ [x] := by unfold step_dedup; rw [hx]; rfl
    rw [e, met_go xs (acc ++ [x]) (by simpa using h)]
    simp
theorem met_nodup {xs : List Str} (h : xs.Nodup) : met xs = xs := by
  have := met_go xs [] (by simpa using h)
  simpa [met] using this
theorem all_true {α : Type} (l : List α) : l.all (fun _ => true) = true := by simp
abbrev Ord := Bool × List Str
end OA
end
section
set_option maxRecDepth 100000
set_option maxHeartbeats 4000000
namespace OA
open PySem PySem.Spec PyProof.Rows L2
def prs (xs : List Str) : List (Str × Str) := xs.zip xs.tail
abbrev Lnk := Str × Str × Nat
def linksZ (ps : List (Ord × Nat)) : List Lnk := ps.flatMap fun p => (prs p.1.2).map fun q => (q.1, q.2, p.2)
def linksO (os : List Ord) : List Lnk := linksZ os.zipIdx
theorem cut_1 {α : Type} (xs : List α) : cutD xs (some 1) none = xs.tail := by
  cases xs with
  | nil => simp [cutD, HT.sIx]
  | cons x r => simp [cutD, HT.sIx]
theorem zipIdx_mem {α : Type} {xs : List α} {p : α × Nat} {n : Nat} (h : p ∈ xs.zipIdx n) : p.1 ∈ xs := by
  have := List.mem_zipIdx h
  obtain ⟨_, _, e⟩ := this
  rw [e]
  apply List.getElem_mem
end OA
end
section
set_option maxRecDepth 100000
set_option maxHeartbeats 4000000
namespace OA
open PySem PySem.Spec PyProof.Rows L2
theorem step_mem (acc : List Str) (x y : Str) : y ∈ step_dedup acc x ↔ y ∈ acc ∨ y = x := by
  unfold step_dedup
  by_cases h : acc.any (· == x) = true
  · rw [if_pos h]
    constructor
    · exact .inl
    · rintro (k | rfl)
      · exact k
      · obtain ⟨z, hz, e⟩ := List.any_eq_true.mp h
        exact eq_of_beq e ▸ hz
  · rw [if_neg h]; simp
theorem step_nd {acc : List Str} (h : acc.Nodup) (x : Str) : (step_dedup acc x).Nodup := by
  unfold step_dedup
  by_cases k : acc.any (· == x) = true
  · rw [if_pos k]; exact h
  · rw [if_neg k]
    refine List.nodup_append.mpr ⟨h, by simp, fun a ha b hb e => k ?_⟩
    simp at hb
    subst hb e
    exact List.any_eq_true.mpr ⟨a, ha, beq_self_eq_true a⟩
theorem fold_mem (y : Str) : ∀ (xs acc : List Str), y ∈ xs.foldl step_dedup acc ↔ y ∈ acc ∨ y ∈ xs
  | [], acc => by simp
  | x :: xs, acc => by rw [List.foldl_cons, fold_mem y xs, step_mem]; simp [or_assoc]
theorem fold_nd : ∀ (xs : List Str) {acc : List Str}, acc.Nodup → (xs.foldl step_dedup acc).Nodup
  | [], _, h => h
  | x :: xs, _, h => fold_nd xs (step_nd h x)
theorem met_mem {xs : List Str} {y : Str} : y ∈ met xs ↔ y ∈ xs := by unfold met; rw [fold_mem]; simp
theorem met_nd (xs : List Str) : (met xs).Nodup := fold_nd xs List.nodup_nil
theorem fzr_lst {G : GH} {n m k : Nat} {ds : List D} (h : n ≤ k) (e : G[k]? = some (.lst ds)) (p : pures0 ds) : fzr G n (m + 1) k = some (.lst ds) := by
  rw [fzr, if_neg (Nat.not_lt.mpr h), e]
  show (match fzWs (fzr G n m) ds with | some ys => some (D.lst ys) | none => none) = _
  rw [p]
def nmsO (os : List Ord) : List Str := met (os.flatMap (·.2))
def nxtO (ls : List Lnk) (x : Str) : List Str := (ls.filter fun l => l.1 == x).map fun l => l.2.1
def encN (os : List Ord) : D := .dK ((nmsO os).map fun x => ((Sum.inr x : Key), D.lst ((nxtO (linksO os) x).map .str)))
theorem prs_mem {xs : List Str} {p : Str × Str} (h : p ∈ prs xs) : p.1 ∈ xs ∧ p.2 ∈ xs := by
  unfold prs at h
  obtain ⟨a, b⟩ := p
  have := List.of_mem_zip h
  exact ⟨this.1, List.mem_of_mem_tail this.2⟩
theorem links_mem {os : List Ord} {l : Lnk} (h : l ∈ linksO os) : ∃ o ∈ os, os[l.2.2]? = some o ∧ (l.1, l.2.1) ∈ prs o.2 := by
  unfold linksO linksZ at h
  obtain ⟨p, hp, hl⟩ := List.mem_flatMap.mp h
  obtain ⟨q, hq, rfl⟩ := List.mem_map.mp hl
  obtain ⟨i1, i2, e⟩ := List.mem_zipIdx hp
  refine ⟨p.1, zipIdx_mem hp, ?_, hq⟩
  have : os[p.2]? = some p.1 := by
    have := List.mk_mem_zipIdx_iff_getElem?.mp hp
    simpa using this
  exact this
theorem names_of {os : List Ord} {o : Ord} (h : o ∈ os) {x : Str} (hx : x ∈ o.2) : x ∈ nmsO os := met_mem.mpr (List.mem_flatMap.mpr ⟨o, h, hx⟩)
theorem links_names {os : List Ord} {l : Lnk} (h : l ∈ linksO os) : l.1 ∈ nmsO os ∧ l.2.1 ∈ nmsO os := by
  obtain ⟨o, ho, _, hp⟩ := links_mem h
  obtain ⟨a, b⟩ := prs_mem hp
  exact ⟨names_of ho a, names_of ho b⟩
def NxI (G : GH) (ns : List Str) (vals : Str → List Str) (loc : Str → Nat) (G' : GH) : Prop := (∃ J, G' = G ++ J) ∧ (∀ x ∈ ns, G.length ≤ loc x ∧ G'[loc x]? = some (.lst ((vals x).map .str))) ∧ ∀ x ∈ ns, ∀ y ∈ ns, loc x = loc y → x = y
end OA
end
section
set_option maxRecDepth 100000
set_option maxHeartbeats 4000000
namespace OA
open PySem PySem.Spec PyProof.Rows L2
theorem NxI.new {G : GH} {ns : List Str} {loc : Str → Nat} {G' : GH} (h : NxI G ns (fun _ => []) loc G') (x : Str) : NxI G (step_dedup ns x) (fun _ => []) (fun y => if y = x then G'.length else loc y) (G' ++ [.lst []]) := by
  obtain ⟨⟨J, eJ⟩, h1, h2⟩ := h
  have lt : ∀ y ∈ ns, loc y < G'.length := fun y hy => (List.getElem?_eq_some_iff.mp (h1 y hy).2).1
  refine ⟨⟨J ++ [.lst []], by rw [eJ, List.append_assoc]⟩, fun y hy => ?_, fun y hy z hz e => ?_⟩
  · dsimp only
    by_cases e : y = x
    · rw [if_pos e]
      exact ⟨by rw [eJ]; simp, by simp⟩
    · rw [if_neg e]
      have hy' := ((step_mem ns x y).mp hy).resolve_right e
      exact ⟨(h1 y hy').1, by rw [List.getElem?_append_left (lt y hy')]; exact (h1 y hy').2⟩
  · by_cases e1 : y = x
    · by_cases e2 : z = x
      · rw [e1, e2]
      · simp only [e1, e2, if_true, if_false] at e
        have := lt z (((step_mem ns x z).mp hz).resolve_right e2)
        omega
    · by_cases e2 : z = x
      · simp only [e1, e2, if_true, if_false] at e
        have := lt y (((step_mem ns x y).mp hy).resolve_right e1)
        omega
      · simp only [e1, e2, if_false] at e
        exact h2 y (((step_mem ns x y).mp hy).resolve_right e1) z (((step_mem ns x z).mp hz).resolve_right e2) e
theorem NxI.put {G : GH} {ns : List Str} {vals : Str → List Str} {loc : Str → Nat} {G' : GH} (h : NxI G ns vals loc G') {x : Str} (hx : x ∈ ns) (z : Str) : NxI G ns (fun y => if y = x then vals y ++ [z] else vals y) loc (G'.set (loc x) (.lst ((vals x).map .str ++ [.str z]))) := by
  obtain ⟨⟨J, eJ⟩, h1, h2⟩ := h
  have lt : ∀ y ∈ ns, loc y < G'.length := fun y hy => (List.getElem?_eq_some_iff.mp (h1 y hy).2).1
  refine ⟨⟨J.set (loc x - G.length) (.lst ((vals x).map .str ++ [.str z])), by rw [eJ, List.set_append, if_neg (Nat.not_lt.mpr (h1 x hx).1)]⟩, fun y hy => ⟨(h1 y hy).1, ?_⟩, h2⟩
  dsimp only
  by_cases e : y = x
  · subst e
    rw [if_pos rfl, List.getElem?_set_self (lt y hy)]
    simp
  · rw [if_neg e, List.getElem?_set_ne fun k => e (h2 x hx y hy k).symm]
    exact (h1 y hy).2
end OA
end
section
set_option maxRecDepth 100000
set_option maxHeartbeats 4000000
namespace OA
open PySem PySem.Spec PyProof.Rows L2
def cntO (ls : List Lnk) (found : List Str) (x : Str) : Int := ((ls.filter fun l => l.2.1 == x && !(found.contains l.1)).length : Nat)
def keptP (ls : List Lnk) : Nat → List Str → List Str → Option (List Str)
  | 0, _, found => some found
  | n + 1, left, found => match left.find? (fun x => cntO ls found x == 0) with
    | some x => keptP ls n (left.erase x) (found ++ [x])
    | none => none
end OA
end
section
set_option maxRecDepth 100000
set_option maxHeartbeats 4000000
namespace OA
open PySem PySem.Spec PyProof.Rows L2
theorem keptP_eq (ls : List Lnk) (n : Nat) (left found : List Str) : keptP ls (n + 1) left found = match left.find? (fun x => cntO ls found x == 0) with
    | some x => keptP ls n (left.erase x) (found ++ [x])
    | none => none := rfl
def keptO (os : List Ord) : Option (List Str) := keptP (linksO os) (nmsO os).length (sortS (nmsO os)) []
end OA
end
section
set_option maxRecDepth 100000
set_option maxHeartbeats 4000000
namespace OA
open PySem PySem.Spec PyProof.Rows L2
def Lk1 (ls : List Lnk) (a b : Str) : Prop := ∃ i, (a, b, i) ∈ ls
inductive Rch (ls : List Lnk) : Str → Str → Prop
  | one {a b} : Lk1 ls a b → Rch ls a b
  | cons {a b c} : Lk1 ls a b → Rch ls b c → Rch ls a c
theorem Rch.snoc {ls : List Lnk} {a b c : Str} (h : Rch ls a b) (k : Lk1 ls b c) : Rch ls a c := by
  induction h with
  | one l => exact .cons l (.one k)
  | cons l _ ih => exact .cons l (ih k)
theorem Rch.trans {ls : List Lnk} {a b c : Str} (h : Rch ls a b) (k : Rch ls b c) : Rch ls a c := by
  induction h with
  | one l => exact .cons l k
  | cons l _ ih => exact .cons l (ih k)
theorem nd_le : ∀ {xs ys : List Str}, xs.Nodup → (∀ x ∈ xs, x ∈ ys) → xs.length ≤ ys.length
  | [], _, _, _ => Nat.zero_le _
  | x :: xs, ys, nd, h => by
    obtain ⟨n1, n2⟩ := List.nodup_cons.mp nd
    have hx := h x (List.mem_cons_self ..)
    have ih := nd_le (xs := xs) (ys := ys.erase x) n2 fun y hy => (List.mem_erase_of_ne (fun (e : y = x) => n1 (e ▸ hy))).mpr (h y (List.mem_cons_of_mem _ hy))
    rw [List.length_erase_of_mem hx] at ih
    have := List.length_pos_of_mem hx
    rw [List.length_cons]
    omega
end OA
end
section
set_option maxRecDepth 100000
set_option maxHeartbeats 4000000
namespace OA
open PySem PySem.Spec PyProof.Rows L2
open Classical in
noncomputable def ringL (os : List Ord) : List Lnk := (linksO os).filter fun l => decide (Rch (linksO os) l.2.1 l.1)
def ChainL (w : List Lnk) : Prop := ∀ (k : Nat) (l l' : Lnk), w[k]? = some l → w[k + 1]? = some l' → l.2.1 = l'.1
theorem ChainL.snoc {w : List Lnk} {l m : Lnk} (h : ChainL (w ++ [l])) (e : l.2.1 = m.1) : ChainL (w ++ [l] ++ [m]) := by
  intro k a b ha hb
  by_cases c : k + 1 < (w ++ [l]).length
  · rw [List.getElem?_append_left (by omega)] at ha
    rw [List.getElem?_append_left c] at hb
    exact h k a b ha hb
  · have lt := (List.getElem?_eq_some_iff.mp hb).1
    have lk : k = w.length := by simp at c lt; omega
    subst lk
    simp at ha hb
    rw [← ha, ← hb]
    exact e
theorem ChainL.drop {w : List Lnk} (h : ChainL w) (j : Nat) : ChainL (w.drop j) := by
  intro k a b ha hb
  rw [List.getElem?_drop] at ha hb
  exact h (j + k) a b ha (by rw [← hb]; congr 1)
theorem cut_n {α : Type} (xs : List α) (j : Nat) : cutD xs (some (j : Int)) none = xs.drop j := by
  unfold cutD
  have a : HT.sIx xs.length 0 (some (j : Int)) = min j xs.length := by
    unfold HT.sIx
    simp
    omega
  have b : HT.sIx xs.length xs.length none = xs.length := rfl
  rw [a, b]
  by_cases c : j ≤ xs.length
  · rw [Nat.min_eq_left c]
    exact List.take_of_length_le (by simp)
  · rw [Nat.min_eq_right (by omega), List.drop_eq_nil_of_le (Nat.le_refl _), List.drop_eq_nil_of_le (by omega)]
    simp
end OA
end
section
set_option maxRecDepth 100000
set_option maxHeartbeats 4000000
namespace OA
open PySem PySem.Spec PyProof.Rows L2
theorem rch_head {ls : List Lnk} {a c : Str} (h : Rch ls a c) : ∃ b, Lk1 ls a b ∧ (b = c ∨ Rch ls b c) := by
  cases h with
  | one l => exact ⟨_, l, .inl rfl⟩
  | cons l k => exact ⟨_, l, .inr k⟩
theorem ringL_mem {os : List Ord} {l : Lnk} : l ∈ ringL os ↔ l ∈ linksO os ∧ Rch (linksO os) l.2.1 l.1 := by
  unfold ringL
  rw [List.mem_filter]
  simp
theorem ring_of {ls : List Lnk} {S : List Str} (hS : S ≠ []) (hp : ∀ x ∈ S, ∃ y ∈ S, Lk1 ls y x) : ∃ x, Rch ls x x := by
  have go : ∀ n, (∃ x, Rch ls x x) ∨ ∃ h t, t.length = n ∧ (h :: t).Nodup ∧ (∀ x ∈ h :: t, x ∈ S) ∧ ∀ x ∈ t, Rch ls h x := by
    intro n
    induction n with
    | zero =>
      obtain ⟨x, r, rfl⟩ := List.exists_cons_of_ne_nil hS
      exact .inr ⟨x, [], rfl, by simp, by simp, by simp⟩
    | succ n ih =>
      rcases ih with k | ⟨h, t, e, nd, sub, k⟩
      · exact .inl k
      · obtain ⟨y, hy, l⟩ := hp h (sub h (List.mem_cons_self ..))
        by_cases c : y ∈ h :: t
        · refine .inl ?_
          rcases List.mem_cons.mp c with rfl | c
          · exact ⟨y, .one l⟩
          · exact ⟨y, .cons l (k y c)⟩
        · refine .inr ⟨y, h :: t, by simp [e], List.nodup_cons.mpr ⟨c, nd⟩, fun x hx => ?_, fun x hx => ?_⟩
          · rcases List.mem_cons.mp hx with rfl | hx
            · exact hy
            · exact sub x hx
          · rcases List.mem_cons.mp hx with rfl | hx
            · exact .one l
            · exact .cons l (k x hx)
  rcases go S.length with k | ⟨h, t, e, nd, sub, _⟩
  · exact k
  · have := nd_le nd sub
    rw [List.length_cons] at this
    omega
theorem cnt_pos {ls : List Lnk} {found : List Str} {x : Str} (h : (cntO ls found x == 0) = false) : ∃ y, y ∉ found ∧ Lk1 ls y x := by
  unfold cntO at h
  cases q : ls.filter fun l => l.2.1 == x && !(found.contains l.1) with
  | nil => rw [q] at h; simp at h
  | cons l r =>
    have hl : l ∈ ls.filter fun l => l.2.1 == x && !(found.contains l.1) := by rw [q]; simp
    obtain ⟨h1, h2⟩ := List.mem_filter.mp hl
    obtain ⟨h3, h4⟩ := Bool.and_eq_true_iff.mp h2
    have e := eq_of_beq h3
    subst e
    exact ⟨l.1, by simpa using h4, l.2.2, h1⟩
theorem keptP_none {ls : List Lnk} (N : List Str) (hN : ∀ l ∈ ls, l.1 ∈ N) : ∀ (n : Nat) (left found : List Str), left.length = n → (left ++ found).Perm N → keptP ls n left found = none →
    ∃ S, S ≠ [] ∧ (∀ x ∈ S, x ∈ N) ∧ ∀ x ∈ S, ∃ y ∈ S, Lk1 ls y x
  | 0, _, _, _, _, h => by cases h
  | n + 1, left, found, hl, hp, h => by
    rw [keptP_eq] at h
    cases q : left.find? (fun x => cntO ls found x == 0) with
    | none =>
      refine ⟨left, fun e => by rw [e] at hl; simp at hl, fun x hx => hp.mem_iff.mp (List.mem_append_left _ hx), fun x hx => ?_⟩
      have hz := List.find?_eq_none.mp q x hx
      obtain ⟨y, nf, i, l⟩ := cnt_pos (by simpa using hz)
      refine ⟨y, ?_, i, l⟩
      exact (List.mem_append.mp (hp.mem_iff.mpr (hN _ l))).resolve_right nf
    | some x =>
      rw [q] at h
      have hx := List.mem_of_find?_eq_some q
      refine keptP_none N hN n (left.erase x) (found ++ [x]) (by rw [List.length_erase_of_mem hx, hl]; rfl) ?_ h
      have p1 := List.perm_cons_erase hx
      have p2 : (left.erase x ++ (found ++ [x])).Perm (left ++ found) := by
        refine (List.Perm.append_left _ (List.perm_append_comm (l₁ := found) (l₂ := [x]))).trans ?_
        exact (List.perm_middle (l₁ := left.erase x) (a := x) (l₂ := found)).trans (List.Perm.append_right found p1.symm)
      exact p2.trans hp
theorem kept_ring {os : List Ord} (h : keptO os = none) : ringL os ≠ [] := by
  obtain ⟨S, h1, _, h2⟩ := keptP_none (nmsO os) (fun l hl => (links_names hl).1) _ (sortS (nmsO os)) [] (sortS_perm _).length_eq (by simpa using sortS_perm (nmsO os)) h
  obtain ⟨x, k⟩ := ring_of h1 h2
  obtain ⟨b, ⟨i, l⟩, c⟩ := rch_head k
  refine List.ne_nil_of_mem (ringL_mem.mpr ⟨l, ?_⟩)
  rcases c with rfl | c
  · exact k
  · exact c
end OA
end
section
set_option maxRecDepth 100000
set_option maxHeartbeats 4000000
namespace OA
open PySem PySem.Spec PyProof.Rows L2
def eight : List Str := ["a", "b", "c", "dd", "e", "eightlet", "x", "z"]
end OA
end
section
set_option maxRecDepth 100000
set_option maxHeartbeats 4000000
namespace OA
open PySem PySem.Spec PyProof.Rows L2
section
variable {G J : GH} {n : Nat} (w v a x c : Cell)
theorem hN (h : n < G.length) : (G.set n w ++ [a] ++ J)[n]? = some w := by rw [List.append_assoc, List.getElem?_append_left (by simpa using h)]; simp [h]
theorem h0 : (G.set n w ++ [a] ++ J)[G.length]? = some a := by simp
theorem hJ (i : Nat) : (G.set n w ++ [a] ++ J)[G.length + 1 + i]? = J[i]? := by
  rw [List.getElem?_append_right (by simp)]
  congr 1
  simp
theorem hL : (G.set n w ++ [a] ++ J).length = G.length + 1 + J.length := by simp; omega
end
def Row (ys : List Str) : Prop := ys.Nodup ∧ ys.length ≤ 8 ∧ ∀ x ∈ ys, x ∈ eight
theorem Row.sub {ys zs : List Str} (h : Row zs) (s : ys.Sublist zs) : Row ys := ⟨h.1.sublist s, Nat.le_trans s.length_le h.2.1, fun x hx => h.2.2 x (s.subset hx)⟩
end OA
end
section
set_option maxRecDepth 100000
set_option maxHeartbeats 4000000
namespace OA
open PySem PySem.Spec PyProof.Rows L2
theorem RS.use {r : RS} {nx nx' : SP} {rt : D → GH → Prop} {bk ct : SP} {ex : Ex → DEnv → GH → Prop} (h : r.wp nx fR fS fS fX) (i : ∀ δ G, nx δ G → nx' δ G) : r.wp nx' rt bk ct ex :=
  RS.wp_mono h i (fun _ _ z => z.elim) (fun _ _ z => z.elim) (fun _ _ z => z.elim) fun _ _ _ z => z.elim
end OA
end
section
set_option maxRecDepth 100000
set_option maxHeartbeats 4000000
namespace OA
open PySem PySem.Spec PyProof.Rows L2
theorem cnt_zero {ls : List Lnk} {found : List Str} {x : Str} : (cntO ls found x == 0) = true ↔ ∀ y, Lk1 ls y x → y ∈ found := by
  constructor
  · intro h y ⟨i, hl⟩
    have h := eq_of_beq h
    unfold cntO at h
    have h0 : (ls.filter fun l => l.2.1 == x && !(found.contains l.1)) = [] := List.length_eq_zero_iff.mp (by omega)
    have := List.filter_eq_nil_iff.mp h0 _ hl
    simpa using this
  · intro h
    cases q : cntO ls found x == 0 with
    | true => rfl
    | false =>
      obtain ⟨y, nf, l⟩ := cnt_pos q
      exact absurd (h y l) nf
theorem of_link {os : List Ord} {a b : Str} (h : Lk1 (linksO os) a b) : ∃ o ∈ os, ∃ i, o.2[i]? = some a ∧ o.2[i + 1]? = some b := by
  obtain ⟨t, h⟩ := h
  obtain ⟨o, ho, _, hp⟩ := links_mem h
  unfold prs at hp
  obtain ⟨i, hi⟩ := List.mem_iff_getElem?.mp hp
  rw [List.getElem?_zip_eq_some] at hi
  exact ⟨o, ho, i, hi.1, by rw [← List.getElem?_tail]; exact hi.2⟩
theorem nd_at {xs : List Str} (nd : xs.Nodup) {i j : Nat} {x : Str} (h1 : xs[i]? = some x) (h2 : xs[j]? = some x) : i = j := by
  have l1 := (List.getElem?_eq_some_iff.mp h1).1
  exact (List.getElem?_inj l1 nd).mp (h1.trans h2.symm)
theorem leS_antisymm {a b : Str} (h1 : leS a b = true) (h2 : leS b a = true) : a = b := by
  rw [leS_def] at h1 h2
  have h1 := of_decide_eq_true h1
  have h2 := of_decide_eq_true h2
  have e := List.le_antisymm h1 h2
  cases a; cases b
  simp only at e
  congr 1
  exact Array.toList_inj.mp e
theorem sortS_same {xs ys : List Str} (h : xs.Perm ys) : sortS xs = sortS ys :=
  ((sortS_perm xs).trans (h.trans (sortS_perm ys).symm)).eq_of_pairwise (fun a b _ _ h1 h2 => leS_antisymm h1 h2) (sortS_sorted xs) (sortS_sorted ys)
theorem nd_perm {xs ys : List Str} (h1 : xs.Nodup) (h2 : ys.Nodup) (h : ∀ x, x ∈ xs ↔ x ∈ ys) : xs.Perm ys := (List.perm_ext_iff_of_nodup h1 h2).mpr h
end OA
end
section
set_option maxRecDepth 100000
set_option maxHeartbeats 4000000
namespace OA
open PySem PySem.Spec PyProof.Rows L2
structure Sm (W : Nat) (q : PyData) : Prop where
  sh : q.showable = true
  dp : q.depth ≤ 60
  cl : q.canLay0 = true
  sm : q.intsShort 64 = true
  wt : q.weight ≤ W
theorem repr2_ok {G : GH} {d : D} {q : PyData} (e : (rsv G 3 d).py = some q) (h : Sm 100000 q) : dRepr2 d G = .ok (.str q.shown) G := by
  have l := PyData.shown_le 64 (by decide) q (PyData.leavesShort_of_canLay0 64 q h.cl h.sm)
  have l2 : q.shown.length ≤ sizeLine := by
    have := h.wt
    rw [sizeLine_eq]
    omega
  unfold dRepr2
  rw [e]
  exact if_pos ⟨h.sh, h.dp, l2⟩
theorem sm_strs {xs : List Str} (hs : ∀ x ∈ xs, PyData.strOk x = true ∧ x.length ≤ 8) : PyData.showableAll (xs.map .str) = true ∧ PyData.canLayAll0 (xs.map .str) = true ∧ PyData.intsShortAll 64 (xs.map .str) = true ∧ PyData.weightAll (xs.map .str) ≤ 9 * xs.length := by
  induction xs with
  | nil => exact ⟨rfl, rfl, rfl, Nat.zero_le _⟩
  | cons x r ih =>
    obtain ⟨a, b, c, d⟩ := ih fun y hy => hs y (List.mem_cons_of_mem _ hy)
    obtain ⟨h1, h2⟩ := hs x (List.mem_cons_self ..)
    have h2 : x.cps.size ≤ 8 := h2
    refine ⟨?_, ?_, ?_, ?_⟩
    · rw [List.map_cons, PyData.showableAll, PyData.showable, a]; rfl
    · rw [List.map_cons, PyData.canLayAll0, PyData.canLay0, b, h1]; rfl
    · rw [List.map_cons, PyData.intsShortAll, PyData.intsShort, c]; rfl
    · rw [List.map_cons, PyData.weightAll, PyData.weight, List.length_cons]; omega
theorem nm_len {x : Str} (h : nmOk x = true) : x.length ≤ 8 := by
  unfold nmOk at h
  exact of_decide_eq_true (Bool.and_eq_true_iff.mp (Bool.and_eq_true_iff.mp h).1).2
end OA
end
section
set_option maxRecDepth 100000
set_option maxHeartbeats 4000000
namespace OA
open PySem PySem.Spec PyProof.Rows L2
theorem keptP_perm {ls : List Lnk} : ∀ (n : Nat) (left found r : List Str), left.length = n → keptP ls n left found = some r → r.Perm (left ++ found)
  | 0, left, found, r, hl, h => by
    have e : left = [] := List.length_eq_zero_iff.mp hl
    subst e
    have h : some found = some r := h
    cases h
    exact .refl _
  | n + 1, left, found, r, hl, h => by
    rw [keptP_eq] at h
    cases q : left.find? (fun x => cntO ls found x == 0) with
    | none => rw [q] at h; cases h
    | some x =>
      rw [q] at h
      have hx := List.mem_of_find?_eq_some q
      have ih := keptP_perm n (left.erase x) (found ++ [x]) r (by rw [List.length_erase_of_mem hx, hl]; rfl) h
      have p1 := List.perm_cons_erase hx
      have p2 : (left.erase x ++ (found ++ [x])).Perm (left ++ found) := by
        refine (List.Perm.append_left _ (List.perm_append_comm (l₁ := found) (l₂ := [x]))).trans ?_
        exact (List.perm_middle (l₁ := left.erase x) (a := x) (l₂ := found)).trans (List.Perm.append_right found p1.symm)
      exact ih.trans p2
theorem kept_perm {os : List Ord} {ns : List Str} (h : keptO os = some ns) : ns.Perm (nmsO os) := by
  have := keptP_perm _ _ _ _ (sortS_perm (nmsO os)).length_eq h
  rw [List.append_nil] at this
  exact this.trans (sortS_perm _)
end OA
end
end CF
end
section
set_option maxRecDepth 100000
set_option maxHeartbeats 1000000
namespace CF
namespace OA
open PySem PySem.Spec PyProof.Rows L2
def KeepF (ls : List Lnk) (found p : List Str) : Prop := ∀ (i : Nat) (b : Str), p[i]? = some b → ∀ a, Lk1 ls a b → a ∈ found ∨ a ∈ p.take i
theorem KeepF.tail {ls : List Lnk} {found p : List Str} {y : Str} (h : KeepF ls found (y :: p)) : KeepF ls (found ++ [y]) p := fun i b hb a l => by
  rcases h (i + 1) b (by simpa using hb) a l with h | h
  · exact .inl (List.mem_append_left _ h)
  · rw [List.take_succ_cons] at h
    rcases List.mem_cons.mp h with rfl | h
    · exact .inl (by simp)
    · exact .inr h
theorem keptP_pre {ls : List Lnk} : ∀ (n : Nat) (left found r : List Str), keptP ls n left found = some r → ∃ r', r = found ++ r' ∧ KeepF ls found r'
  | 0, left, found, r, h => by
    have e : some found = some r := h
    cases e
    exact ⟨[], by simp, fun i b hb => by simp at hb⟩
  | n + 1, left, found, r, h => by
    rw [keptP_eq] at h
    cases e : left.find? (fun x => cntO ls found x == 0) with
    | none => rw [e] at h; cases h
    | some x =>
      rw [e] at h
      obtain ⟨r', e', k⟩ := keptP_pre n _ _ _ h
      refine ⟨x :: r', by rw [e']; simp, fun i b hb a l => ?_⟩
      cases i with
      | zero =>
        simp only [List.getElem?_cons_zero, Option.some.injEq] at hb
        subst hb
        exact .inl (cnt_zero.mp (List.find?_some (p := fun x => cntO ls found x == 0) e) a l)
      | succ i =>
        rcases k i b (by simpa using hb) a l with z | z
        · rcases List.mem_append.mp z with z | z
          · exact .inl z
          · exact .inr (by rw [List.take_succ_cons]; simp at z; simp [z])
        · exact .inr (by rw [List.take_succ_cons]; exact .tail _ z)
def Bf (p : List Str) (a b : Str) : Prop := ∃ i j : Nat, i < j ∧ p[i]? = some a ∧ p[j]? = some b
theorem Bf.anti {p : List Str} (nd : p.Nodup) {a b : Str} (h : Bf p a b) (k : Bf p b a) : False := by
  obtain ⟨i, j, lt, h1, h2⟩ := h
  obtain ⟨u, v, lt2, k1, k2⟩ := k
  have e1 := nd_at nd h1 k2
  have e2 := nd_at nd h2 k1
  omega
theorem Bf.irr {p : List Str} (nd : p.Nodup) {a : Str} (h : Bf p a a) : False := h.anti nd h
theorem Bf.trans {p : List Str} (nd : p.Nodup) {a b c : Str} (h : Bf p a b) (k : Bf p b c) : Bf p a c := by
  obtain ⟨i, j, lt, h1, h2⟩ := h
  obtain ⟨u, v, lt2, k1, k2⟩ := k
  have e1 := nd_at nd h2 k1
  exact ⟨i, v, by omega, h1, k2⟩
theorem bf_pair {p : List Str} : p.Pairwise (Bf p) := by
  rw [List.pairwise_iff_getElem]
  intro i j hi hj lt
  exact ⟨i, j, lt, by simp [hi], by simp [hj]⟩
theorem bf_sub {o p : List Str} (h : o.Sublist p) {a b : Str} (k : Bf o a b) : Bf p a b := by
  obtain ⟨i, j, lt, h1, h2⟩ := k
  have q : o.Pairwise (Bf p) := bf_pair.sublist h
  rw [List.pairwise_iff_getElem] at q
  obtain ⟨hi, e1⟩ := List.getElem?_eq_some_iff.mp h1
  obtain ⟨hj, e2⟩ := List.getElem?_eq_some_iff.mp h2
  have := q i j hi hj lt
  rwa [e1, e2] at this
def Keeps (ls : List Lnk) (p : List Str) : Prop := ∀ a b, Lk1 ls a b → Bf p a b
theorem keeps_of {ls : List Lnk} {p : List Str} (h : KeepF ls [] p) (hn : ∀ a b, Lk1 ls a b → b ∈ p) : Keeps ls p := fun a b l => by
  obtain ⟨j, hj⟩ := List.mem_iff_getElem?.mp (hn a b l)
  rcases h j b hj a l with z | z
  · simp at z
  · obtain ⟨i, hi⟩ := List.mem_iff_getElem?.mp z
    have lt : i < j := by
      have := (List.getElem?_eq_some_iff.mp hi).1
      rw [List.length_take] at this
      omega
    exact ⟨i, j, lt, by rwa [List.getElem?_take_of_lt lt] at hi, hj⟩
theorem keeps_rch {ls : List Lnk} {p : List Str} (nd : p.Nodup) (h : Keeps ls p) {a b : Str} (r : Rch ls a b) : Bf p a b := by
  induction r with
  | one l => exact h _ _ l
  | cons l _ ih => exact (h _ _ l).trans nd ih
theorem keeps_ring {os : List Ord} {p : List Str} (nd : p.Nodup) (h : Keeps (linksO os) p) : ringL os = [] := by
  cases e : ringL os with
  | nil => rfl
  | cons l r =>
    have m : l ∈ ringL os := by rw [e]; exact .head _
    obtain ⟨m1, m2⟩ := ringL_mem.mp m
    exact ((keeps_rch nd h (.cons ⟨l.2.2, m1⟩ m2)).irr nd).elim
theorem keeps_some {os : List Ord} {p : List Str} (nd : p.Nodup) (h : Keeps (linksO os) p) : ∃ ns, keptO os = some ns := by
  cases e : keptO os with
  | none => exact absurd (keeps_ring nd h) (kept_ring e)
  | some ns => exact ⟨ns, rfl⟩
theorem kept_keeps {os : List Ord} {ns : List Str} (h : keptO os = some ns) : Keeps (linksO os) ns := by
  obtain ⟨r', e, k⟩ := keptP_pre _ _ _ _ h
  rw [List.nil_append] at e
  subst e
  exact keeps_of k fun a b ⟨i, l⟩ => (kept_perm h).mem_iff.mpr (links_names l).2
theorem kept_nd {os : List Ord} {ns : List Str} (h : keptO os = some ns) : ns.Nodup := (kept_perm h).nodup_iff.mpr (met_nd _)
theorem link_bf {os : List Ord} {p : List Str} (h : ∀ o ∈ os, o.2.Sublist p) : Keeps (linksO os) p := fun a b l => by
  obtain ⟨o, ho, i, h1, h2⟩ := of_link l
  exact bf_sub (h o ho) ⟨i, i + 1, Nat.lt_succ_self _, h1, h2⟩
theorem parts_some {os : List Ord} {p : List Str} (nd : p.Nodup) (h : ∀ o ∈ os, o.2.Sublist p) : ∃ ns, keptO os = some ns := keeps_some nd (link_bf h)
end OA
end CF
end
section
set_option maxRecDepth 100000
set_option maxHeartbeats 1000000
namespace CF
namespace OA
open PySem PySem.Spec PyProof.Rows L2
noncomputable def onrK (os : List Ord) : List Key := sortK (dedK ((ringL os).map fun l => Sum.inl (l.2.2 : Int)))
theorem onr_mem {os : List Ord} {i : Nat} : (Sum.inl (i : Int) : Key) ∈ onrK os ↔ ∃ l ∈ ringL os, l.2.2 = i := by
  unfold onrK
  rw [(sortK_perm _).mem_iff, dedK_mem, List.mem_map]
  constructor
  · rintro ⟨l, hl, e⟩
    refine ⟨l, hl, ?_⟩
    have := Sum.inl.inj e
    omega
  · rintro ⟨l, hl, rfl⟩
    exact ⟨l, hl, rfl⟩
theorem onr_nil {os : List Ord} (h : ringL os = []) : onrK os = [] := by
  unfold onrK
  rw [h]
  exact List.mergeSort_nil
end OA
end CF
end
section
set_option maxRecDepth 100000
set_option maxHeartbeats 4000000
namespace CF
namespace OA
open PySem PySem.Spec PyProof.Rows L2
noncomputable def b_is_integer  : FS :=
    (sRet (eAnd (eOne (eVar 0) (dIsi "int")) (eNot (eTru (eOne (eVar 0) (dIsi "bool"))))))
end OA
end CF
end
section
set_option maxRecDepth 100000
set_option maxHeartbeats 1000000
namespace CF
namespace BB
open PySem PySem.Spec PyProof.Rows L2
abbrev Pth := List Str
structure Hd where
  tr : Tr
  od : List Pth
def kidsT : Tr → List (Str × Tr)
  | .node _ ps => ps
  | _ => []
def lookP : List (Str × Tr) → Str → Option Tr
  | [], _ => none
  | (m, t) :: r, n => if m = n then some t else lookP r n
def atT : Tr → Pth → Option Tr
  | t, [] => some t
  | t, n :: p => match lookP (kidsT t) n with
    | some u => atT u p
    | none => none
def cutT : Pth → Tr → Tr
  | n :: p, .node m ps => .node m (ps.filterMap fun q => if q.1 = n then (if p = [] then none else some (q.1, cutT p q.2)) else some q)
  | _, t => t
def rowT (t : Tr) : List Str := (kidsT t).map (·.1)
def isL : Tr → Bool
  | .node false _ => true
  | _ => false
def isVal : Tr → Bool
  | .node _ _ => false
  | _ => true
def lstsT (t : Tr) : List Pth := ((K03.ndT [] t).filter fun q => isL q.2).map (·.1)
def hdOf (t : Tr) : Hd := ⟨t, lstsT t⟩
def Hd.less (h : Hd) (p : Pth) : Hd := ⟨cutT p h.tr, h.od.filter fun a => decide (a.take p.length ≠ p)⟩
def Hd.unord (h : Hd) (p : Pth) : Hd := ⟨h.tr, h.od.filter fun a => decide (a ≠ p)⟩
abbrev Oth := Str × Hd × Tr
def partsAt (os : List Oth) (n : Str) : List Oth := os.filterMap fun o => (lookP (kidsT o.2.2) n).map fun t => (o.1, o.2.1, t)
def atO (os : List Oth) (q : Pth) : List Oth := os.filterMap fun o => (atT o.2.2 q).map fun t => (o.1, o.2.1, t)
abbrev Flt := Pth × Str × List Str
def unK (t : Tr) (os : List Oth) : List Str := (os.filter fun o => decide (K03.kdT o.2.2 ≠ K03.kdT t)).map (·.1)
open Classical in
noncomputable def unV (t : Tr) (os : List Oth) : List Str := (os.filter fun o => decide (o.2.2 ≠ t)).map (·.1)
def heldO (P : Pth) (os : List Oth) : List Oth := os.filter fun o => decide (P ∈ o.2.1.od)
def rowsO (t : Tr) (hs : List Oth) : List OA.Ord := (true, rowT t) :: hs.map fun o => (true, rowT o.2.2)
noncomputable def onI (os : List OA.Ord) (i : Nat) : Bool := @decide ((Sum.inl (i : Int) : Key) ∈ OA.onrK os) (Classical.propDecidable _)
theorem onI_iff {os : List OA.Ord} {i : Nat} : onI os i = true ↔ (Sum.inl (i : Int) : Key) ∈ OA.onrK os := by unfold onI; exact @decide_eq_true_iff _ (Classical.propDecidable _)
noncomputable def unO (t : Tr) (P : Pth) (os : List Oth) : List Str :=
  (((heldO P os).zipIdx 1).filter fun q => onI (rowsO t (heldO P os)) q.2).map fun q => q.1.1
def flt1 (P : Pth) (w : Str) (ns : List Str) : List Flt := if ns = [] then [] else [(P, w, ns)]
noncomputable def lfT (t : Tr) (P : Pth) (os : List Oth) : List Flt := match t with
  | .node false _ => flt1 P "order" (unO t P os)
  | .node true _ => []
  | t => flt1 P "value" (unV t os)
mutual
noncomputable def nfT : Tr → Pth → List Oth → List Flt
  | .val i, P, os => if unK (.val i) os = [] then lfT (.val i) P os else [(P, "kind", unK (.val i) os)]
  | .txt x, P, os => if unK (.txt x) os = [] then lfT (.txt x) P os else [(P, "kind", unK (.txt x) os)]
  | .node m ps, P, os => if unK (.node m ps) os = [] then lfT (.node m ps) P os ++ nfP ps P os else [(P, "kind", unK (.node m ps) os)]
noncomputable def nfP : List (Str × Tr) → Pth → List Oth → List Flt
  | [], _, _ => []
  | (n, t) :: r, P, os => nfT t (P ++ [n]) (partsAt os n) ++ nfP r P os
end
abbrev Hs := List (Str × Hd)
def namesH (hs : Hs) : List Str := hs.map (·.1)
def lookH (hs : Hs) (n : Str) : Hd := match hs.find? fun p => decide (p.1 = n) with
  | some p => p.2
  | none => ⟨.node true [], []⟩
def putH (hs : Hs) (n : Str) (h : Hd) : Hs := if n ∈ namesH hs then hs.map fun p => if p.1 = n then (n, h) else p else hs ++ [(n, h)]
def dropH (hs : Hs) (n : Str) : Hs := hs.filter fun p => decide (p.1 ≠ n)
def othersH (hs : Hs) (w : Str) : List Oth := ((sortS (namesH hs)).filter fun n => decide (n ≠ w)).map fun n => (n, lookH hs n, (lookH hs n).tr)
def pyF (f : Flt) : PyData := .tuple [.tuple (f.1.map .str), .str f.2.1, .list (f.2.2.map .str)]
def sortF (fs : List Flt) : List Flt := fs.mergeSort (PySem.W.dataLe false pyF)
noncomputable def foundH (hs : Hs) (w : Str) (t : Tr) : List Flt := sortF (nfT t [] (othersH hs w))
abbrev Clm := Str × Pth × Str
def belowT (t : Tr) (p : Pth) : List Pth := ((K03.ndT [] t).filter fun q => decide (q.1.take p.length = p)).map (·.1)
def tk1N (p : Pth) : List Str → List Clm × Hs → List Clm × Hs
  | [], s => s
  | n :: ns, s => tk1N p ns (s.1 ++ (belowT (lookH s.2 n).tr p).map fun a => (n, a, ("field" : Str)), putH s.2 n ((lookH s.2 n).less p))
def tk1 : List Flt → List Clm × Hs → List Clm × Hs
  | [], s => s
  | f :: fs, s => tk1 fs (if f.2.1 = "order" then s else tk1N f.1 f.2.2 s)
def tk2N (p : Pth) : List Str → List Clm × Hs → List Clm × Hs
  | [], s => s
  | n :: ns, s => tk2N p ns (s.1 ++ [(n, p, ("order" : Str))], putH s.2 n ((lookH s.2 n).unord p))
def tk2 : List Flt → List Clm × Hs → List Clm × Hs
  | [], s => s
  | f :: fs, s => tk2 fs (tk2N f.1 f.2.2 s)
noncomputable def takeA (hs : Hs) (w : Str) (t : Tr) : List Clm × Hs := tk1 (foundH hs w t) ([], hs)
noncomputable def takeB (hs : Hs) (w : Str) (t : Tr) : List Clm × Hs := tk2 (foundH (takeA hs w t).2 w t) (takeA hs w t)
abbrev encW (p : Pth) : D := K03.encW p
def encH (C : Addr) (h : Hd) : D := .ins C [("nodes", encT h.tr), ("ordered", .lst (h.od.map encW))]
def encF (f : Flt) : D := .tup [encW f.1, .str f.2.1, .lst (f.2.2.map .str)]
def encC (c : Clm) : D := .tup [.str c.1, encW c.2.1, .str c.2.2]
def encHs (C : Addr) (hs : Hs) : List (Key × D) := hs.map fun p => ((Sum.inr p.1 : Key), encH C p.2)
def pthOk (p : Pth) : Prop := (∀ n ∈ p, OA.nmOk n = true ∧ PyData.strOk n = true) ∧ p.length ≤ 60
structure HdOk (ns : List Str) (h : Hd) : Prop where
  tr : okT ns 6 h.tr
  sz : szT h.tr ≤ 40
  mp : ∃ ps, h.tr = .node true ps
  od : ∀ p ∈ h.od, pthOk p
  ol : h.od.length ≤ 400
structure HsOk (ns : List Str) (hs : Hs) : Prop where
  nd : (namesH hs).Nodup
  len : hs.length ≤ 8
  nm : ∀ n ∈ namesH hs, OA.nmOk n = true ∧ PyData.strOk n = true
  hd : ∀ p ∈ hs, HdOk ns p.2
end BB
end CF
end
section
set_option maxRecDepth 100000
namespace CF
open PySem PySem.Spec PyProof.Rows L2
local macro_rules
  | `(tactic| exists $es,*) => `(tactic| simp (disch := first | assumption | omega | (simp only [List.length_set, List.length_append, List.length_cons, List.length_nil]; omega)) only [↓wp_ok, ↓wp_ex, ↓wp_bind, ↓wp_guard, ↓wp_nox, ↓sp_nx, ↓sp_rt, ↓sp_bk, ↓sp_ct, ↓sp_ex, ↓sp_seq, ↓sp_thn, ↓sp_guard,
      ↓w_eC, ↓w_eVar, ↓w_aNil, ↓w_aCons, ↓w_eTup, ↓w_eTupP, ↓w_eLst, ↓w_eLstM, ↓w_eOp, ↓w_eChain, ↓w_asB, ↓w_tAnd, ↓w_tOr, ↓w_tNot, ↓w_eTru, ↓w_eIf, ↓w_sNext, ↓w_sSeq, ↓w_sRet, ↓w_sRetN, ↓w_sIf, ↓w_sSet, ↓w_sDrop, ↓w_sBreak, ↓w_sCont, ↓w_gNm, ↓w_gsNil, ↓w_gsCons, ↓w_gTp, ↓w_sAsg, ↓w_eOne, ↓w_eUn, ↓w_eCB, ↓w_one, ↓w_eCall, ↓w_eAnd, ↓w_eOr, ↓w_eNot, ↓w_iSeq, ↓w_eLc, ↓w_mkF, ↓w_mkM, ↓w_tYes, ↓w_eMt, ↓w_eMt0, ↓w_iRg1, ↓w_sPut, ↓w_gPut, ↓w_sPar2, ↓w_sPar3, ↓w_sAugD, ↓w_eDict0, ↓w_mkKF, ↓w_mkKM, ↓w_eRev, ↓w_eGet2, ↓w_eLenSet2, ↓w_iEn, ↓w_iZp, ↓w_eCm, ↓w_cmDn, ↓w_cmDc, ↓w_eFld, ↓w_eMeth, ↓w_eMethK, ↓w_eMake, ↓w_sFldD, ↓w_sRaise, ↓w_sAugE, insOf_ins, putFD_nil, lstX_l, List.lookup_cons, List.lookup_nil, ↓w_emLd, ↓w_emKd, keyD_str, keyD_int, dKOf_dK, dKOf_ref, celL_ref, celD_ref, lstIts_lst, tupIts_tup, dEqT_str, dNeT_str, tupIts_pt, tupIts_lst, tupIts_scr, tupIts_ref, strsOf_map,
      wipeD_nil, wipeD_cons, List.cons_append, List.nil_append, List.append_nil, ap_setI, eSl_ap, eOpt_none, eOpt_some,
      List.getElem?_cons_zero, List.getElem?_cons_succ, List.set_cons_zero, List.set_cons_succ, List.length_cons, List.length_nil, List.length_set, Nat.zero_add, Nat.reduceAdd, Nat.reduceSub, Nat.add_one_sub_one, List.length_append,
      itsD_tup, itsD_pt, itsD_lst, itsD_scr, dIx_tup, dIx_pt, dIx_lst, dIx_scr, atI_0, atI_1, atI_2, dAdd_int, dAdd_tup, dAdd_pt, dAdd_lst, dAdd_str, dInt_int, dInt_bl, dStr_int, dStr_str, dIsi_ap, dLen_lst, dLen_tup, dLen_pt, dLen_scr, dIsN_non, dNotN_non, dNeg_ap, dIB_ap, dI_ap,
      dEq_int, dNe_int, truD_bl, truD_non, truD_int, dSl_tup, dSl_pt, dSl_lst, dSl_scr, dTupP_lst, decide_true, decide_false, if_true, if_false, Bool.false_eq_true, Bool.not_true, Bool.not_false, eq_self, true_and, and_true, sz_le, sz_lt, rngIts_items, rngIts_chk, beq_self_eq_true, R.bind_ok, R.nox_ok, tyM_ref, mAppend_ref, mExtend_ref, ge1, ge2a, ge2b, ge3a, ge3b, ge3c, ge3d, st1, st2a, st2b, st3a, st3b, st3c, st3d, tyN, Bool.and_self, Bool.and_true, Bool.true_and, Bool.and_false, Bool.false_and, Bool.or_true, Bool.true_or, Bool.or_false, Bool.false_or, Int.reduceLT, Int.reduceLE, Int.reduceGT, Int.reduceNeg, Int.reduceAdd, Int.reduceSub, Int.reduceBEq, Int.reduceBNe, Int.reduceEq, Int.reduceToNat, Nat.reduceEqDiff, Nat.reduceLeDiff, reduceCtorEq, Int.natCast_zero, Int.cast_ofNat_Int, Int.lt_irrefl, List.map_nil, decide_eq_true_eq,
      isi_NoneType_int, isi_NoneType_str, isi_NoneType_bool, isi_NoneType_tuple, isi_NoneType_list, isi_NoneType_dict, isi_bool_int, isi_bool_str, isi_bool_bool, isi_bool_tuple, isi_bool_list, isi_bool_dict, isi_int_int, isi_int_str, isi_int_bool, isi_int_tuple, isi_int_list, isi_int_dict, isi_str_int, isi_str_str, isi_str_bool, isi_str_tuple, isi_str_list, isi_str_dict, isi_tuple_int, isi_tuple_str, isi_tuple_bool, isi_tuple_tuple, isi_tuple_list, isi_tuple_dict, isi_list_int, isi_list_str, isi_list_bool, isi_list_tuple, isi_list_list, isi_list_dict, isi_dict_int, isi_dict_str, isi_dict_bool, isi_dict_tuple, isi_dict_list, isi_dict_dict, $[$es:term],*])
  | `(tactic| and_intros) => `(tactic| (rw [wp_def]; simp only [startD, List.map_cons, List.map_nil, List.length_cons, List.length_nil, Nat.zero_add, Nat.reduceAdd, Nat.reduceSub, List.replicate, List.cons_append, List.nil_append]))
section
set_option maxRecDepth 100000
set_option maxHeartbeats 4000000
namespace BB
open PySem PySem.Spec PyProof.Rows L2
mutual
theorem pure0_T : ∀ t : Tr, pure0 (encT t)
  | .val i => by rw [encT]; exact pure0_tup (pures0_cons (pure0_str _) (pures0_cons (pure0_int _) pures0_nil))
  | .txt i => by rw [encT]; exact pure0_tup (pures0_cons (pure0_str _) (pures0_cons (pure0_str _) pures0_nil))
  | .node m ps => by rw [encT]; exact pure0_tup (pures0_cons (pure0_str _) (pures0_cons (pure0_pt (pures0_P ps)) pures0_nil))
theorem pures0_P : ∀ ps : List (Str × Tr), pures0 (CF.encP ps)
  | [] => by rw [CF.encP]; exact pures0_nil
  | (n, t) :: r => by rw [CF.encP]; exact pures0_cons (pure0_tup (pures0_cons (pure0_str _) (pures0_cons (pure0_T t) pures0_nil))) (pures0_P r)
end
theorem pure0_W (p : Pth) : pure0 (encW p) := pure0_tup (pures0_map pure0_str p)
theorem pure0_N (q : Pth × Tr) : pure0 (K03.encN q) := pure0_tup (pures0_cons (pure0_W _) (pures0_cons (pure0_T _) pures0_nil))
def inT : Tr → D
  | .val i => .int i
  | .txt x => .str x
  | .node _ ps => .pt (ps.map encPr)
theorem encT_eq (t : Tr) : encT t = .tup [.str (K03.kdT t), inT t] := by
  cases t with
  | val i => exact encT_val i
  | txt x => exact encT_txt x
  | node m ps => exact encT_node m ps
theorem ix0 (t : Tr) (G : GH) : dIx (encT t) (.int 0) G = .ok (.str (K03.kdT t)) G := by rw [encT_eq, dIx_tup, atI_0]
theorem ix1 (t : Tr) (G : GH) : dIx (encT t) (.int 1) G = .ok (inT t) G := by rw [encT_eq, dIx_tup, atI_1]
theorem kd_ok (t : Tr) : PyData.strOk (K03.kdT t) = true := by
  cases t with
  | val i => exact K03.ok_value
  | txt x => exact K03.ok_value
  | node m ps => exact K03.ok_kind m
theorem kd_value (t : Tr) : (K03.kdT t == ("value" : Str)) = isVal t := by
  cases t with
  | val i => exact K03.vv
  | txt x => exact K03.vv
  | node m ps => exact K03.ne_value m
theorem vl : (("value" : Str) == ("list" : Str)) = false := by decide +kernel
theorem kd_list (t : Tr) : (K03.kdT t == ("list" : Str)) = isL t := by
  cases t with
  | val i => exact vl
  | txt x => exact vl
  | node m ps => cases m <;> (show (kindS _ == ("list" : Str)) = _) <;> rw [K03.eq_list] <;> rfl
theorem dEq_value (t : Tr) (G : GH) : dEq (.str (K03.kdT t)) (.str "value") G = .ok (.bl (isVal t)) G := by rw [dEq_str G (kd_ok t) K03.ok_value, kd_value]
theorem dNe_value (t : Tr) (G : GH) : dNe (.str (K03.kdT t)) (.str "value") G = .ok (.bl (!isVal t)) G := by rw [dNe_str G (kd_ok t) K03.ok_value, kd_value]
noncomputable def F_cpath : List D → GH → R D := defF ["path", "name"] (b_check_path OA.F_name)
theorem m_cpath {p : Pth} (h : pthOk p) (G : GH) : F_cpath [encW p] G = .ok .non G := by
  refine R.eqn ?_
  unfold F_cpath b_check_path
  and_intros
  have hz : p.length ≤ sizeLine := Nat.le_trans h.2 (by decide)
  exists K03.encW
  refine lc_pure D.str p (fun _ => true) (fun _ => .bl true) hz rfl (fun x hx => ?_) ?_
  · exists OA.m_name
    exact fun _ => R.wp_of (OA.m_name x G (h.1 x hx).1) ⟨rfl, rfl⟩
  · have al : dAll (.lst ((p.filter fun _ => true).map fun _ => D.bl true)) G = .ok (.bl true) G := by
      rw [dAll_map G (p.filter fun _ => true) (fun _ => true)]; simp
    exists al
abbrev N_alln : List Str := ["tree", "path", "found", "name", "node"]
noncomputable def F_alln : Nat → List D → GH → R D
  | 0 => fNo
  | k + 1 => fun ds G => fzR G (defF N_alln (b_all_nodes (F_alln k)) ds G)
theorem alln_run {ns : List Str} (hns : K03.nsOk ns) {f : List D → GH → R D} {r : Nat} {t : Tr} {p : Pth} (G : GH) (ok : okT ns r t) (hl : szT t < 4000) (hp : p.length + r < 1000)
    (hf : ∀ q ∈ kidsT t, ∀ G, f [encT q.2, encW (p ++ [q.1])] G = .ok (.lst ((K03.ndT (p ++ [q.1]) q.2).map K03.encN)) G) :
    defF N_alln (b_all_nodes f) [encT t, encW p] G = .ok (.ref G.length) (G ++ [.lst ((K03.ndT p t).map K03.encN)]) := by
  refine R.eqn ?_
  unfold b_all_nodes
  and_intros
  exists ix0, dNe_value
  cases hv : isVal t with
  | true =>
    have e : (K03.ndT p t).map K03.encN = [D.tup [encW p, encT t]] := by
      cases t with
      | val i => rfl
      | txt x => rfl
      | node m ps => cases hv
    rw [e]
    exists nilL
  | false =>
    obtain ⟨m, ps, rfl⟩ : ∃ m ps, t = .node m ps := by
      cases t with
      | val i => cases hv
      | txt x => cases hv
      | node m ps => exact ⟨m, ps, rfl⟩
    have hl' : szP ps < 4000 := by rw [szT] at hl; exact hl
    have i1 : ∀ G, dIx (encT (.node m ps)) (.int 1) G = .ok (.pt (ps.map encPr)) G := fun G => ix1 _ G
    exists w_sFor, i1
    refine for_inv encPr ps (fun pre δ G2 => (∃ a b, δ = [some (encT (.node m ps)), some (encW p), some (.ref G.length), a, b]) ∧ G2 = G ++ [.lst (D.tup [encW p, encT (.node m ps)] :: (K03.ndP p pre).map K03.encN)]) ⟨⟨_, _, rfl⟩, by rw [K03.ndP]; rfl⟩ (fun pre x post δ G2 e ⟨⟨a, b, e1⟩, e2⟩ => ?_) fun δ G2 ⟨⟨a, b, e1⟩, e2⟩ => ?_
    · subst e1 e2
      have hx : x ∈ ps := by rw [e]; simp
      have hc := hf x hx
      have ndP_app : ∀ (as bs : List (Str × Tr)), K03.ndP p (as ++ bs) = K03.ndP p as ++ K03.ndP p bs := by
        intro as
        induction as with
        | nil => intro bs; rw [K03.ndP]; rfl
        | cons a as ih => intro bs; obtain ⟨n, u⟩ := a; rw [List.cons_append, K03.ndP, K03.ndP, ih, List.append_assoc]
      have pw : ∀ G, dAdd mkF (encW p) (.tup [.str x.1]) G = .ok (encW (p ++ [x.1])) G := fun G => by
        show dAdd mkF (.tup (p.map D.str)) (.tup [.str x.1]) G = _
        rw [dAdd_tup, List.length_map, if_pos (show p.length + [D.str x.1].length ≤ sizeLine from Nat.le_trans (show p.length + 1 ≤ 1001 by omega) (by decide))]
        simp [K03.encW]
      have lz : ((K03.ndP p pre).map K03.encN).length + 1 + ((K03.ndT (p ++ [x.1]) x.2).map K03.encN).length ≤ sizeLine := by
        have h1 := K03.ndP_len p ps
        have ea : K03.ndP p ps = K03.ndP p pre ++ (K03.ndT (p ++ [x.1]) x.2 ++ K03.ndP p post) := by
          rw [e, ndP_app]
          show _ ++ K03.ndP p ((x.1, x.2) :: post) = _
          rw [K03.ndP]
        rw [ea, List.length_append, List.length_append] at h1
        simp only [List.length_map]
        exact Nat.le_trans (show _ ≤ 5000 by omega) (by decide)
      exists encPr, pw, hc, lz
      refine ⟨⟨_, _, rfl⟩, ?_⟩
      rw [ndP_app, show K03.ndP p [x] = K03.ndT (p ++ [x.1]) x.2 by show K03.ndP p [(x.1, x.2)] = _; rw [K03.ndP, K03.ndP, List.append_nil], List.map_append]
    · subst e1 e2
      exists nilL
      rw [K03.ndT]; rfl
theorem pures_N (p : Pth) (t : Tr) : pures0 ((K03.ndT p t).map K03.encN) := pures0_map pure0_N _
theorem m_alln {ns : List Str} (hns : K03.nsOk ns) : ∀ (r k : Nat) (t : Tr) (p : Pth) (G : GH), r ≤ k → okT ns r t → szT t < 4000 → p.length + r < 1000 → F_alln k [encT t, encW p] G = .ok (.lst ((K03.ndT p t).map K03.encN)) G
  | 0, _, _, _, _, _, h, _, _ => h.elim
  | r + 1, 0, _, _, _, h, _, _, _ => by omega
  | r + 1, k + 1, t, p, G, hk, ok, hl, hp => by
    show fzR G (defF N_alln (b_all_nodes (F_alln k)) [encT t, encW p] G) = _
    rw [alln_run hns G ok hl hp fun q hq G => ?_]
    · exact fzR_ok (OA.fzr_lst (Nat.le_refl _) (ge1 ..) (pures_N p t))
    · cases t with
      | val i => cases hq
      | txt x => cases hq
      | node m ps =>
        have h1 := ok.2.2.2 q hq
        have h2 := K03.sz_mem (ps := ps) hq
        rw [szT_node] at hl
        exact m_alln hns r k q.2 (p ++ [q.1]) G (by omega) h1 (by omega) (by rw [List.length_append, List.length_singleton]; omega)
end BB
end
end CF
end
section
set_option maxRecDepth 100000
set_option maxHeartbeats 1000000
namespace CF
namespace BB
open PySem PySem.Spec PyProof.Rows L2
theorem lookP_mem : ∀ {ps : List (Str × Tr)} {x : Str} {u : Tr}, lookP ps x = some u → (x, u) ∈ ps
  | (m, t) :: r, x, u, h => by
    rw [lookP] at h
    by_cases c : m = x
    · rw [if_pos c] at h
      cases h
      rw [← c]; exact .head _
    · rw [if_neg c] at h
      exact .tail _ (lookP_mem h)
theorem lookP_of : ∀ {ps : List (Str × Tr)} {x : Str} {u : Tr}, (ps.map (·.1)).Nodup → (x, u) ∈ ps → lookP ps x = some u
  | (m, t) :: r, x, u, nd, h => by
    rw [List.map_cons, List.nodup_cons] at nd
    rw [lookP]
    rcases List.mem_cons.mp h with e | h
    · cases e; rw [if_pos rfl]
    · have : m ≠ x := fun z => nd.1 (List.mem_map.mpr ⟨(x, u), h, z.symm⟩)
      rw [if_neg this]; exact lookP_of nd.2 h
theorem kids_nd {ns : List Str} {r : Nat} {t : Tr} (ok : okT ns r t) : ((kidsT t).map (·.1)).Nodup := by
  cases r with
  | zero => exact ok.elim
  | succ r =>
    cases t with
    | val i => exact List.nodup_nil
    | txt x => exact List.nodup_nil
    | node m ps => exact ok.1
theorem kids_ok {ns : List Str} {r : Nat} {t : Tr} (ok : okT ns (r + 1) t) {q : Str × Tr} (h : q ∈ kidsT t) : okT ns r q.2 := by
  cases t with
  | val i => cases h
  | txt x => cases h
  | node m ps => exact ok.2.2.2 q h
theorem kids_nm {ns : List Str} {r : Nat} {t : Tr} (ok : okT ns r t) {q : Str × Tr} (h : q ∈ kidsT t) : q.1 ∈ ns := by
  cases r with
  | zero => exact ok.elim
  | succ r =>
    cases t with
    | val i => cases h
    | txt x => cases h
    | node m ps => exact ok.2.1 q.1 (List.mem_map_of_mem h)
theorem okT_up1 {ns : List Str} {r : Nat} {t : Tr} (ok : okT ns r t) : ∃ s, okT ns (s + 1) t ∧ s ≤ r := by
  cases r with
  | zero => exact ok.elim
  | succ r => exact ⟨r, ok, by omega⟩
theorem atT_cons (t : Tr) (n : Str) (p : Pth) : atT t (n :: p) = (lookP (kidsT t) n).bind fun u => atT u p := by
  rw [atT]; cases lookP (kidsT t) n <;> rfl
theorem atT_nil (t : Tr) : atT t [] = some t := by rw [atT]
theorem atT_append : ∀ (p : Pth) (t : Tr) (q : Pth), atT t (p ++ q) = (atT t p).bind fun u => atT u q
  | [], t, q => by rw [atT_nil]; rfl
  | n :: p, t, q => by
    rw [List.cons_append, atT_cons, atT_cons]
    cases lookP (kidsT t) n with
    | none => rfl
    | some u => exact atT_append p u q
theorem atT_ok {ns : List Str} : ∀ {p : Pth} {r : Nat} {t u : Tr}, okT ns r t → atT t p = some u → ∃ s, okT ns s u ∧ s ≤ r
  | [], r, t, u, ok, h => by rw [atT_nil] at h; cases h; exact ⟨r, ok, Nat.le_refl _⟩
  | n :: p, r, t, u, ok, h => by
    obtain ⟨s, oks, hs⟩ := okT_up1 ok
    rw [atT_cons] at h
    cases k : lookP (kidsT t) n with
    | none => rw [k] at h; cases h
    | some v =>
      rw [k] at h
      obtain ⟨s', ok', hs'⟩ := atT_ok (kids_ok oks (lookP_mem k)) h
      exact ⟨s', ok', by omega⟩
theorem atT_names {ns : List Str} : ∀ {p : Pth} {r : Nat} {t u : Tr}, okT ns r t → atT t p = some u → (∀ n ∈ p, n ∈ ns) ∧ p.length < r
  | [], r, t, u, ok, h => by
    refine ⟨(fun n h => nomatch h), ?_⟩
    cases r with
    | zero => exact ok.elim
    | succ r => exact Nat.succ_pos r
  | n :: p, r, t, u, ok, h => by
    cases r with
    | zero => exact ok.elim
    | succ r =>
      rw [atT_cons] at h
      cases k : lookP (kidsT t) n with
      | none => rw [k] at h; cases h
      | some v =>
        rw [k] at h
        obtain ⟨i1, i2⟩ := atT_names (kids_ok ok (lookP_mem k)) h
        refine ⟨fun m hm => ?_, by rw [List.length_cons]; omega⟩
        rcases List.mem_cons.mp hm with rfl | hm
        · exact kids_nm (q := (m, v)) ok (lookP_mem k)
        · exact i1 m hm
theorem atO_nil (os : List Oth) : atO os [] = os := by
  unfold atO
  induction os with
  | nil => rfl
  | cons o os ih => rw [List.filterMap_cons, atT_nil]; exact congrArg (o :: ·) ih
theorem atO_cons (os : List Oth) (n : Str) (q : Pth) : atO os (n :: q) = atO (partsAt os n) q := by
  unfold atO partsAt
  rw [List.filterMap_filterMap]
  refine congrArg (fun f => List.filterMap f os) (funext fun o => ?_)
  rw [atT_cons]
  cases lookP (kidsT o.2.2) n <;> rfl
theorem mem_atO {os : List Oth} {q : Pth} {o : Oth} : o ∈ atO os q ↔ ∃ o' ∈ os, atT o'.2.2 q = some o.2.2 ∧ o'.1 = o.1 ∧ o'.2.1 = o.2.1 := by
  unfold atO
  rw [List.mem_filterMap]
  constructor
  · rintro ⟨o', h1, h2⟩
    cases k : atT o'.2.2 q with
    | none => rw [k] at h2; cases h2
    | some u => rw [k] at h2; cases h2; exact ⟨o', h1, k, rfl, rfl⟩
  · rintro ⟨o', h1, h2, h3, h4⟩
    refine ⟨o', h1, ?_⟩
    rw [h2]
    obtain ⟨a, b, c⟩ := o
    obtain ⟨a', b', c'⟩ := o'
    cases h3; cases h4; rfl
theorem nfP_eq : ∀ (ps : List (Str × Tr)) (P : Pth) (os : List Oth), nfP ps P os = ps.flatMap fun q => nfT q.2 (P ++ [q.1]) (partsAt os q.1)
  | [], P, os => by rw [nfP]; rfl
  | (n, t) :: r, P, os => by rw [nfP, nfP_eq r P os, List.flatMap_cons]
noncomputable def locT (u : Tr) (P : Pth) (os : List Oth) : List Flt := if unK u os = [] then lfT u P os else [(P, "kind", unK u os)]
theorem nfT_eq (t : Tr) (P : Pth) (os : List Oth) : nfT t P os = locT t P os ++ (if unK t os = [] then (kidsT t).flatMap fun q => nfT q.2 (P ++ [q.1]) (partsAt os q.1) else []) := by
  cases t with
  | val i =>
    rw [nfT, locT]
    by_cases c : unK (.val i) os = []
    · rw [if_pos c, if_pos c]; simp [kidsT]
    · rw [if_neg c, if_neg c]; simp
  | txt x =>
    rw [nfT, locT]
    by_cases c : unK (.txt x) os = []
    · rw [if_pos c, if_pos c]; simp [kidsT]
    · rw [if_neg c, if_neg c]; simp
  | node m ps =>
    rw [nfT, locT]
    by_cases c : unK (.node m ps) os = []
    · rw [if_pos c, if_pos c, if_pos c, nfP_eq]; rfl
    · rw [if_neg c, if_neg c, if_neg c]; simp
def freeAt (t : Tr) (os : List Oth) (q : Pth) : Prop := ∀ r s : Pth, q = r ++ s → s ≠ [] → ∀ v, atT t r = some v → unK v (atO os r) = []
theorem mem_nfT {ns : List Str} : ∀ (d : Nat) (t : Tr) (P : Pth) (os : List Oth) (f : Flt), okT ns d t → (f ∈ nfT t P os ↔ ∃ q u, atT t q = some u ∧ freeAt t os q ∧ f ∈ locT u (P ++ q) (atO os q))
  | 0, _, _, _, _, ok => ok.elim
  | d + 1, t, P, os, f, ok => by
    rw [nfT_eq, List.mem_append]
    constructor
    · rintro (h | h)
      · exact ⟨[], t, atT_nil t, fun r s e hs => absurd (List.append_eq_nil_iff.mp e.symm).2 hs, by rw [List.append_nil, atO_nil]; exact h⟩
      · by_cases c : unK t os = []
        · rw [if_pos c] at h
          obtain ⟨x, hx, h⟩ := List.mem_flatMap.mp h
          obtain ⟨q, u, h1, h2, h3⟩ := (mem_nfT d x.2 (P ++ [x.1]) (partsAt os x.1) f (kids_ok ok hx)).mp h
          have hl : lookP (kidsT t) x.1 = some x.2 := lookP_of (kids_nd ok) hx
          refine ⟨x.1 :: q, u, by rw [atT_cons, hl]; exact h1, fun r s e hs v hv => ?_, by rw [atO_cons]; simpa using h3⟩
          cases r with
          | nil => rw [atT_nil] at hv; cases hv; rw [atO_nil]; exact c
          | cons n r =>
            rw [List.cons_append] at e
            injection e with e1 e2
            subst e1
            rw [atO_cons]
            rw [atT_cons, hl] at hv
            exact h2 r s e2 hs v hv
        · rw [if_neg c] at h; cases h
    · rintro ⟨q, u, h1, h2, h3⟩
      cases q with
      | nil =>
        rw [atT_nil] at h1; cases h1
        rw [List.append_nil, atO_nil] at h3
        exact .inl h3
      | cons n q =>
        have c := h2 [] (n :: q) rfl (by simp) t (atT_nil t)
        rw [atO_nil] at c
        rw [atT_cons] at h1
        cases k : lookP (kidsT t) n with
        | none => rw [k] at h1; cases h1
        | some v =>
          rw [k] at h1
          refine .inr ?_
          rw [if_pos c]
          refine List.mem_flatMap.mpr ⟨(n, v), lookP_mem k, ?_⟩
          refine (mem_nfT d v (P ++ [n]) (partsAt os n) f (kids_ok ok (lookP_mem k))).mpr ⟨q, u, h1, fun r s e hs w hw => ?_, by rw [atO_cons] at h3; simpa using h3⟩
          have := h2 (n :: r) s (by rw [e]; rfl) hs w (by rw [atT_cons, k]; exact hw)
          rwa [atO_cons] at this
theorem mem_flt1 {P : Pth} {w : Str} {xs : List Str} {f : Flt} : f ∈ flt1 P w xs ↔ xs ≠ [] ∧ f = (P, w, xs) := by
  unfold flt1
  by_cases c : xs = []
  · rw [if_pos c]; simp [c]
  · rw [if_neg c]; simp [c]
theorem lf_path {u : Tr} {P : Pth} {os : List Oth} {f : Flt} (h : f ∈ lfT u P os) : f.1 = P := by
  cases u with
  | val i => exact congrArg (·.1) (mem_flt1.mp h).2
  | txt x => exact congrArg (·.1) (mem_flt1.mp h).2
  | node m ps =>
    cases m with
    | true => cases h
    | false => exact congrArg (·.1) (mem_flt1.mp h).2
theorem loc_path {u : Tr} {P : Pth} {os : List Oth} {f : Flt} (h : f ∈ locT u P os) : f.1 = P := by
  unfold locT at h
  by_cases c : unK u os = []
  · rw [if_pos c] at h; exact lf_path h
  · rw [if_neg c] at h; rw [List.mem_singleton.mp h]
theorem unK_sub {t : Tr} {os : List Oth} {n : Str} (h : n ∈ unK t os) : ∃ o ∈ os, o.1 = n ∧ K03.kdT o.2.2 ≠ K03.kdT t := by
  unfold unK at h
  obtain ⟨o, h1, rfl⟩ := List.mem_map.mp h
  obtain ⟨h2, h3⟩ := List.mem_filter.mp h1
  exact ⟨o, h2, rfl, of_decide_eq_true h3⟩
theorem mem_unK {t : Tr} {os : List Oth} {o : Oth} (h : o ∈ os) (k : K03.kdT o.2.2 ≠ K03.kdT t) : o.1 ∈ unK t os := List.mem_map.mpr ⟨o, List.mem_filter.mpr ⟨h, decide_eq_true k⟩, rfl⟩
theorem unV_sub {t : Tr} {os : List Oth} {n : Str} (h : n ∈ unV t os) : ∃ o ∈ os, o.1 = n ∧ o.2.2 ≠ t := by
  unfold unV at h
  obtain ⟨o, h1, rfl⟩ := List.mem_map.mp h
  obtain ⟨h2, h3⟩ := List.mem_filter.mp h1
  exact ⟨o, h2, rfl, by simpa using h3⟩
theorem mem_unV {t : Tr} {os : List Oth} {o : Oth} (h : o ∈ os) (k : o.2.2 ≠ t) : o.1 ∈ unV t os := by
  unfold unV
  exact List.mem_map.mpr ⟨o, List.mem_filter.mpr ⟨h, by simpa using k⟩, rfl⟩
theorem unO_sub {t : Tr} {P : Pth} {os : List Oth} {n : Str} (h : n ∈ unO t P os) : ∃ o ∈ os, o.1 = n ∧ P ∈ o.2.1.od := by
  unfold unO at h
  obtain ⟨q, h1, rfl⟩ := List.mem_map.mp h
  have h2 := (List.mem_filter.mp h1).1
  have h3 : q.1 ∈ heldO P os := (List.mem_zipIdx h2).2.2 ▸ List.getElem_mem _
  obtain ⟨h4, h5⟩ := List.mem_filter.mp h3
  exact ⟨q.1, h4, rfl, of_decide_eq_true h5⟩
theorem loc_names {u : Tr} {P : Pth} {os : List Oth} {f : Flt} (h : f ∈ locT u P os) : f.2.2 ≠ [] ∧ ∀ n ∈ f.2.2, ∃ o ∈ os, o.1 = n := by
  have key : ∀ {w : Str} {xs : List Str}, f ∈ flt1 P w xs → (∀ n ∈ xs, ∃ o ∈ os, o.1 = n) → f.2.2 ≠ [] ∧ ∀ n ∈ f.2.2, ∃ o ∈ os, o.1 = n := fun h k => by
    obtain ⟨h1, rfl⟩ := mem_flt1.mp h
    exact ⟨h1, k⟩
  have up : ∀ {p : Oth → Prop} {n : Str}, (∃ o ∈ os, o.1 = n ∧ p o) → ∃ o ∈ os, o.1 = n := fun ⟨o, a, b, _⟩ => ⟨o, a, b⟩
  unfold locT at h
  by_cases c : unK u os = []
  · rw [if_pos c] at h
    cases u with
    | val i => exact key h fun n hn => up (unV_sub hn)
    | txt x => exact key h fun n hn => up (unV_sub hn)
    | node m ps =>
      cases m with
      | true => cases h
      | false => exact key h fun n hn => up (unO_sub hn)
  · rw [if_neg c] at h
    rw [List.mem_singleton.mp h]
    exact ⟨c, fun n hn => up (unK_sub hn)⟩
theorem word_kind {u : Tr} {P : Pth} {os : List Oth} {f : Flt} (h : f ∈ locT u P os) : (f.2.1 = "kind" ∧ unK u os ≠ [] ∧ f.2.2 = unK u os) ∨ (f.2.1 = "value" ∧ unK u os = [] ∧ kidsT u = [] ∧ isVal u = true ∧ f.2.2 = unV u os) ∨ (f.2.1 = "order" ∧ unK u os = [] ∧ isL u = true ∧ f.2.2 = unO u P os) := by
  unfold locT at h
  by_cases c : unK u os = []
  · rw [if_pos c] at h
    cases u with
    | val i =>
      obtain ⟨h1, rfl⟩ := mem_flt1.mp h
      exact .inr (.inl ⟨rfl, c, rfl, rfl, rfl⟩)
    | txt x =>
      obtain ⟨h1, rfl⟩ := mem_flt1.mp h
      exact .inr (.inl ⟨rfl, c, rfl, rfl, rfl⟩)
    | node m ps =>
      cases m with
      | true => cases h
      | false =>
        obtain ⟨h1, rfl⟩ := mem_flt1.mp h
        exact .inr (.inr ⟨rfl, c, rfl, rfl⟩)
  · rw [if_neg c] at h
    rw [List.mem_singleton.mp h]
    exact .inl ⟨rfl, c, rfl⟩
end BB
end CF
end
section
set_option maxRecDepth 100000
set_option maxHeartbeats 1000000
namespace CF
namespace BB
open PySem PySem.Spec PyProof.Rows L2
def cutF (n : Str) (p : Pth) (q : Str × Tr) : Option (Str × Tr) := if q.1 = n then (if p = [] then none else some (q.1, cutT p q.2)) else some q
theorem cutT_node (m : Bool) (ps : List (Str × Tr)) (n : Str) (p : Pth) : cutT (n :: p) (.node m ps) = .node m (ps.filterMap (cutF n p)) := by
  rw [cutT]; rfl
theorem cutT_nil (t : Tr) : cutT [] t = t := by
  cases t with
  | val i => rw [cutT]; intro _ _ _ _ h; cases h
  | txt x => rw [cutT]; intro _ _ _ _ h; cases h
  | node m ps => rw [cutT]; intro _ _ _ _ h; cases h
theorem cutT_val {t : Tr} (h : isVal t = true) : ∀ p, cutT p t = t
  | [] => cutT_nil t
  | n :: p => by
    cases t with
    | val i => rw [cutT]; intro _ _ _ _ _ z; cases z
    | txt x => rw [cutT]; intro _ _ _ _ _ z; cases z
    | node m ps => cases h
theorem kdT_cut (p : Pth) (t : Tr) : K03.kdT (cutT p t) = K03.kdT t := by
  cases p with
  | nil => rw [cutT_nil]
  | cons n p =>
    cases t with
    | val i => rw [cutT_val rfl]
    | txt x => rw [cutT_val rfl]
    | node m ps => rw [cutT_node]; rfl
theorem kids_cut (t : Tr) (n : Str) (p : Pth) : kidsT (cutT (n :: p) t) = (kidsT t).filterMap (cutF n p) := by
  cases t with
  | val i => rw [cutT_val rfl]; rfl
  | txt x => rw [cutT_val rfl]; rfl
  | node m ps => rw [cutT_node]; rfl
theorem look_cut (n : Str) (p : Pth) : ∀ (ps : List (Str × Tr)) (m : Str), lookP (ps.filterMap (cutF n p)) m = if m = n then (if p = [] then none else (lookP ps m).map (cutT p)) else lookP ps m
  | [], m => by
    show none = _
    by_cases c : m = n
    · rw [if_pos c]
      by_cases d : p = []
      · rw [if_pos d]
      · rw [if_neg d]; rfl
    · rw [if_neg c]; rfl
  | (k, t) :: r, m => by
    have ih := look_cut n p r m
    rw [List.filterMap_cons]
    by_cases a : k = n
    · subst a
      by_cases d : p = []
      · have e : cutF k p (k, t) = none := by simp [cutF, d]
        rw [e]
        show lookP (r.filterMap (cutF k p)) m = _
        rw [ih, lookP]
        by_cases c : m = k
        · rw [if_pos c, if_pos c, if_pos d, if_pos d]
        · have : ¬ k = m := fun z => c z.symm
          rw [if_neg c, if_neg c, if_neg this]
      · have e : cutF k p (k, t) = some (k, cutT p t) := by simp [cutF, d]
        rw [e]
        show lookP ((k, cutT p t) :: r.filterMap (cutF k p)) m = _
        rw [lookP, ih, lookP]
        by_cases c : m = k
        · have : k = m := c.symm
          rw [if_pos this, if_pos c, if_neg d, if_pos this]; rfl
        · have : ¬ k = m := fun z => c z.symm
          rw [if_neg this, if_neg c, if_neg c, if_neg this]
    · have e : cutF n p (k, t) = some (k, t) := by simp [cutF, a]
      rw [e]
      show lookP ((k, t) :: r.filterMap (cutF n p)) m = _
      rw [lookP, ih, lookP]
      by_cases c : m = n
      · have : ¬ k = m := fun z => a (z.trans c)
        rw [if_neg this, if_neg this]
      · rw [if_neg c, if_neg c]
theorem at_cut_in : ∀ (p : Pth) (t : Tr) (s : Pth), p ≠ [] → atT (cutT p t) (p ++ s) = none
  | [], _, _, h => absurd rfl h
  | n :: p, t, s, _ => by
    rw [List.cons_append, atT_cons, kids_cut, look_cut, if_pos rfl]
    by_cases d : p = []
    · rw [if_pos d]; rfl
    · rw [if_neg d]
      cases lookP (kidsT t) n with
      | none => rfl
      | some u => exact at_cut_in p u s d
theorem at_cut_out : ∀ (p : Pth) (t : Tr) (q : Pth), (∀ s, q ≠ p ++ s) → (∃ s, s ≠ [] ∧ p = q ++ s ∧ atT (cutT p t) q = (atT t q).map (cutT s)) ∨ ((∀ s, p ≠ q ++ s) ∧ atT (cutT p t) q = atT t q)
  | [], t, q, h => absurd rfl (h q)
  | n :: p, t, [], h => .inl ⟨n :: p, by simp, rfl, by rw [atT_nil, atT_nil]; rfl⟩
  | n :: p, t, m :: q, h => by
    rw [atT_cons, atT_cons, kids_cut, look_cut]
    by_cases c : m = n
    · subst c
      have h' : ∀ s, q ≠ p ++ s := fun s e => h s (by rw [e]; rfl)
      have d : p ≠ [] := fun z => h' q (by rw [z]; rfl)
      rw [if_pos rfl, if_neg d]
      cases k : lookP (kidsT t) m with
      | none =>
        by_cases e : ∃ s, s ≠ [] ∧ p = q ++ s
        · obtain ⟨s, e1, e2⟩ := e
          exact .inl ⟨s, e1, by rw [e2]; rfl, rfl⟩
        · refine .inr ⟨fun s es => ?_, rfl⟩
          injection es with _ es
          by_cases z : s = []
          · subst z
            have es : p = q ++ [] := es
            rw [List.append_nil] at es
            exact h' [] (by rw [es, List.append_nil])
          · exact e ⟨s, z, es⟩
      | some u =>
        show (∃ s, _ ∧ _ ∧ atT (cutT p u) q = (atT u q).map (cutT s)) ∨ _ ∧ atT (cutT p u) q = atT u q
        rcases at_cut_out p u q h' with ⟨s, e1, e2, e3⟩ | ⟨e1, e2⟩
        · exact .inl ⟨s, e1, by rw [e2]; rfl, e3⟩
        · refine .inr ⟨fun s es => ?_, e2⟩
          injection es with _ es
          exact e1 s es
    · rw [if_neg c]
      refine .inr ⟨fun s es => ?_, rfl⟩
      injection es with es _
      exact c es.symm
theorem at_cut_kd {p : Pth} {t : Tr} {q : Pth} {u : Tr} (hp : p ≠ []) (h : atT (cutT p t) q = some u) : (∀ s, q ≠ p ++ s) ∧ ∃ v, atT t q = some v ∧ K03.kdT u = K03.kdT v ∧ (isVal v = true → u = v) := by
  have h0 : ∀ s, q ≠ p ++ s := fun s e => by rw [e, at_cut_in p t s hp] at h; cases h
  refine ⟨h0, ?_⟩
  rcases at_cut_out p t q h0 with ⟨s, _, _, e3⟩ | ⟨_, e2⟩
  · rw [e3] at h
    cases k : atT t q with
    | none => rw [k] at h; cases h
    | some v => rw [k] at h; cases h; exact ⟨v, rfl, kdT_cut s v, fun z => cutT_val z s⟩
  · rw [e2] at h
    exact ⟨u, h, rfl, fun _ => rfl⟩
theorem at_cut_some {p : Pth} {t : Tr} {q : Pth} {v : Tr} (h : ∀ s, q ≠ p ++ s) (k : atT t q = some v) : ∃ u, atT (cutT p t) q = some u ∧ K03.kdT u = K03.kdT v := by
  rcases at_cut_out p t q h with ⟨s, _, _, e3⟩ | ⟨_, e2⟩
  · exact ⟨_, by rw [e3, k]; rfl, kdT_cut s v⟩
  · exact ⟨v, by rw [e2]; exact k, rfl⟩
theorem cutF_sub {n : Str} {p : Pth} {ps : List (Str × Tr)} : ((ps.filterMap (cutF n p)).map (·.1)).Sublist (ps.map (·.1)) := by
  induction ps with
  | nil => exact .slnil
  | cons q r ih =>
    rw [List.filterMap_cons]
    cases e : cutF n p q with
    | none => exact ih.cons _
    | some x =>
      have : x.1 = q.1 := by
        unfold cutF at e
        by_cases c : q.1 = n
        · rw [if_pos c] at e
          by_cases d : p = []
          · rw [if_pos d] at e; cases e
          · rw [if_neg d] at e; cases e; rfl
        · rw [if_neg c] at e; cases e; rfl
      show (x.1 :: _).Sublist (q.1 :: _)
      rw [this]
      exact ih.cons₂ _
theorem cutF_mem {n : Str} {p : Pth} {ps : List (Str × Tr)} {x : Str × Tr} (h : x ∈ ps.filterMap (cutF n p)) : ∃ q ∈ ps, q.1 = x.1 ∧ (x.2 = q.2 ∨ x.2 = cutT p q.2) := by
  obtain ⟨q, h1, h2⟩ := List.mem_filterMap.mp h
  unfold cutF at h2
  by_cases c : q.1 = n
  · rw [if_pos c] at h2
    by_cases d : p = []
    · rw [if_pos d] at h2; cases h2
    · rw [if_neg d] at h2; cases h2; exact ⟨q, h1, rfl, .inr rfl⟩
  · rw [if_neg c] at h2
    injection h2 with h2
    subst h2
    exact ⟨_, h1, rfl, .inl rfl⟩
theorem okT_cut {ns : List Str} : ∀ (p : Pth) (r : Nat) (t : Tr), okT ns r t → okT ns r (cutT p t)
  | [], r, t, h => by rw [cutT_nil]; exact h
  | n :: p, 0, t, h => h.elim
  | n :: p, r + 1, t, h => by
    cases t with
    | val i => rw [cutT_val rfl]; exact h
    | txt x => rw [cutT_val rfl]; exact h
    | node m ps =>
      obtain ⟨h1, h2, h3, h4⟩ := h
      rw [cutT_node]
      have sb := cutF_sub (n := n) (p := p) (ps := ps)
      refine ⟨h1.sublist sb, fun x hx => h2 x (sb.subset hx), fun hm => (h3 hm).sublist sb, fun x hx => ?_⟩
      obtain ⟨q, hq, _, e⟩ := cutF_mem hx
      rcases e with e | e
      · rw [e]; exact h4 q hq
      · rw [e]; exact okT_cut p r q.2 (h4 q hq)
theorem szT_cut : ∀ (p : Pth) (t : Tr), szT (cutT p t) ≤ szT t
  | [], t => by rw [cutT_nil]; exact Nat.le_refl _
  | n :: p, t => by
    cases t with
    | val i => rw [cutT_val rfl]; exact Nat.le_refl _
    | txt x => rw [cutT_val rfl]; exact Nat.le_refl _
    | node m ps =>
      rw [cutT_node, szT_node, szT_node]
      induction ps with
      | nil => exact Nat.le_refl _
      | cons q r ih =>
        rw [List.filterMap_cons, List.map_cons, List.sum_cons]
        cases e : cutF n p q with
        | none => exact Nat.le_trans ih (Nat.le_add_left _ _)
        | some x =>
          have : szT x.2 ≤ szT q.2 := by
            unfold cutF at e
            by_cases c : q.1 = n
            · rw [if_pos c] at e
              by_cases d : p = []
              · rw [if_pos d] at e; cases e
              · rw [if_neg d] at e; cases e; exact szT_cut p q.2
            · rw [if_neg c] at e; cases e; exact Nat.le_refl _
          show ((x :: r.filterMap (cutF n p)).map fun p => 1 + szT p.2).sum ≤ _
          rw [List.map_cons, List.sum_cons]
          omega
theorem HdOk.less {ns : List Str} {h : Hd} (ok : HdOk ns h) (p : Pth) (hp : p ≠ []) : HdOk ns (h.less p) where
  tr := okT_cut p 6 h.tr ok.tr
  sz := Nat.le_trans (szT_cut p h.tr) ok.sz
  mp := by
    obtain ⟨ps, e⟩ := ok.mp
    cases p with
    | nil => exact absurd rfl hp
    | cons n p => exact ⟨_, by show cutT (n :: p) h.tr = _; rw [e, cutT_node]⟩
  od := fun q hq => ok.od q (List.mem_filter.mp hq).1
  ol := Nat.le_trans (List.length_filter_le _ _) ok.ol
theorem HdOk.unord {ns : List Str} {h : Hd} (ok : HdOk ns h) (p : Pth) : HdOk ns (h.unord p) where
  tr := ok.tr
  sz := ok.sz
  mp := ok.mp
  od := fun q hq => ok.od q (List.mem_filter.mp hq).1
  ol := Nat.le_trans (List.length_filter_le _ _) ok.ol
theorem find_hs {hs : Hs} {n : Str} (h : n ∈ namesH hs) : ∃ p ∈ hs, p.1 = n ∧ (hs.find? fun p => decide (p.1 = n)) = some p ∧ lookH hs n = p.2 := by
  obtain ⟨p0, hp, hn⟩ := List.mem_map.mp h
  cases e : hs.find? fun p => decide (p.1 = n) with
  | none =>
    have := List.find?_eq_none.mp e p0 hp
    exact absurd hn (by simpa using this)
  | some p =>
    have h1 := List.find?_some e
    refine ⟨p, List.mem_of_find?_eq_some e, of_decide_eq_true h1, rfl, ?_⟩
    unfold lookH; rw [e]
theorem find_no {hs : Hs} {n : Str} (h : n ∉ namesH hs) : (hs.find? fun p => decide (p.1 = n)) = none := by
  rw [List.find?_eq_none]
  intro p hp
  simp only [decide_eq_true_eq]
  exact fun z => h (List.mem_map.mpr ⟨p, hp, z⟩)
theorem look_ok {ns : List Str} {hs : Hs} (ok : HsOk ns hs) {n : Str} (h : n ∈ namesH hs) : HdOk ns (lookH hs n) := by
  obtain ⟨p, h1, _, _, h4⟩ := find_hs h
  rw [h4]; exact ok.hd p h1
theorem pair_inj : ∀ {l : Hs}, (namesH l).Nodup → ∀ {x y : Str × Hd}, x ∈ l → y ∈ l → x.1 = y.1 → x = y
  | [], _, x, y, hx, _, _ => nomatch hx
  | b :: l, nd, x, y, hx, hy, e => by
    have nl := List.nodup_cons.mp (show (b.1 :: namesH l).Nodup from nd)
    rcases List.mem_cons.mp hx with ex | hx' <;> rcases List.mem_cons.mp hy with ey | hy'
    · rw [ex, ey]
    · subst ex
      exact absurd (show x.1 ∈ namesH l from List.mem_map.mpr ⟨y, hy', e.symm⟩) nl.1
    · subst ey
      exact absurd (show y.1 ∈ namesH l from List.mem_map.mpr ⟨x, hx', e⟩) nl.1
    · exact pair_inj nl.2 hx' hy' e
theorem look_of {hs : Hs} (nd : (namesH hs).Nodup) {p : Str × Hd} (h : p ∈ hs) : lookH hs p.1 = p.2 := by
  obtain ⟨q, h1, h2, _, h4⟩ := find_hs (hs := hs) (n := p.1) (List.mem_map_of_mem (f := (·.1)) h)
  rw [h4, pair_inj nd h1 h h2]
theorem names_put_mem {hs : Hs} {n : Str} (hn : n ∈ namesH hs) (h : Hd) : namesH (putH hs n h) = namesH hs := by
  unfold putH
  rw [if_pos hn]
  unfold namesH
  rw [List.map_map]
  refine List.map_congr_left fun p _ => ?_
  show (if p.1 = n then (n, h) else p).1 = p.1
  by_cases c : p.1 = n
  · rw [if_pos c]; exact c.symm
  · rw [if_neg c]
theorem names_put_new {hs : Hs} {n : Str} (hn : n ∉ namesH hs) (h : Hd) : namesH (putH hs n h) = namesH hs ++ [n] := by
  unfold putH
  rw [if_neg hn]
  unfold namesH
  rw [List.map_append]; rfl
theorem look_put (hs : Hs) (n : Str) (h : Hd) (m : Str) : lookH (putH hs n h) m = if m = n then h else lookH hs m := by
  have key : ∀ hs : Hs, n ∈ namesH hs → lookH (hs.map fun p => if p.1 = n then (n, h) else p) m = if m = n then h else lookH hs m := by
    intro hs
    induction hs with
    | nil => intro hn; cases hn
    | cons p r ih =>
      intro hn
      unfold lookH at ih ⊢
      rw [List.map_cons, List.find?_cons, List.find?_cons]
      by_cases c : p.1 = n
      · rw [if_pos c]
        by_cases d : m = n
        · rw [if_pos d]
          have : decide (n = m) = true := decide_eq_true d.symm
          show (match (match decide (n = m) with | true => some (n, h) | false => _) with | some p => p.2 | none => _) = _
          rw [this]
        · have e1 : decide (n = m) = false := decide_eq_false fun z => d z.symm
          have e2 : decide (p.1 = m) = false := decide_eq_false fun z => d (z.symm.trans c)
          show (match (match decide (n = m) with | true => some (n, h) | false => _) with | some p => p.2 | none => _) = _
          rw [e1, e2, if_neg d]
          by_cases hr : n ∈ namesH r
          · have := ih hr
            rw [if_neg d] at this
            exact this
          · have e : (r.map fun p => if p.1 = n then (n, h) else p) = r := by
              refine (List.map_congr_left fun q hq => ?_).trans (List.map_id r)
              have : ¬ q.1 = n := fun z => hr (List.mem_map.mpr ⟨q, hq, z⟩)
              show (if q.1 = n then (n, h) else q) = q
              rw [if_neg this]
            rw [e]
            try rfl
      · rw [if_neg c]
        have hr : n ∈ namesH r := (List.mem_cons.mp hn).resolve_left fun z => c z.symm
        cases e : decide (p.1 = m) with
        | true =>
          have d : ¬ m = n := fun z => c ((of_decide_eq_true e).trans z)
          dsimp only
          rw [if_neg d]
        | false => exact ih hr
  unfold putH
  by_cases hn : n ∈ namesH hs
  · rw [if_pos hn]; exact key hs hn
  · rw [if_neg hn]
    unfold lookH
    rw [List.find?_append]
    by_cases d : m = n
    · subst d
      rw [find_no hn, if_pos rfl]
      simp
    · rw [if_neg d]
      cases e : hs.find? fun p => decide (p.1 = m) with
      | some p => rfl
      | none =>
        have : decide (n = m) = false := decide_eq_false fun z => d z.symm
        simp [this]
theorem mem_put {hs : Hs} {n : Str} {h : Hd} {p : Str × Hd} (hp : p ∈ putH hs n h) : p = (n, h) ∨ p ∈ hs := by
  unfold putH at hp
  by_cases hn : n ∈ namesH hs
  · rw [if_pos hn] at hp
    obtain ⟨q, hq, e⟩ := List.mem_map.mp hp
    by_cases c : q.1 = n
    · rw [if_pos c] at e; exact .inl e.symm
    · rw [if_neg c] at e; exact .inr (e ▸ hq)
  · rw [if_neg hn] at hp
    rcases List.mem_append.mp hp with h | h
    · exact .inr h
    · exact .inl (List.mem_singleton.mp h)
theorem len_put {hs : Hs} {n : Str} (hn : n ∈ namesH hs) (h : Hd) : (putH hs n h).length = hs.length := by
  unfold putH; rw [if_pos hn, List.length_map]
theorem HsOk.put {ns : List Str} {hs : Hs} (ok : HsOk ns hs) {n : Str} {h : Hd} (hn : OA.nmOk n = true ∧ PyData.strOk n = true) (hh : HdOk ns h) (hl : n ∈ namesH hs ∨ hs.length < 8) : HsOk ns (putH hs n h) where
  nd := by
    by_cases c : n ∈ namesH hs
    · rw [names_put_mem c]; exact ok.nd
    · rw [names_put_new c, List.nodup_append]
      refine ⟨ok.nd, by simp, fun a ha b hb e => ?_⟩
      rw [List.mem_singleton] at hb
      subst hb e
      exact c ha
  len := by
    by_cases c : n ∈ namesH hs
    · rw [len_put c]; exact ok.len
    · unfold putH
      rw [if_neg c, List.length_append, List.length_singleton]
      have := hl.resolve_left c
      omega
  nm := by
    intro m hm
    by_cases c : n ∈ namesH hs
    · rw [names_put_mem c] at hm; exact ok.nm m hm
    · rw [names_put_new c] at hm
      rcases List.mem_append.mp hm with h | h
      · exact ok.nm m h
      · rw [List.mem_singleton.mp h]; exact hn
  hd := fun p hp => by
    rcases mem_put hp with e | h
    · rw [e]; exact hh
    · exact ok.hd p h
theorem names_drop (hs : Hs) (n : Str) : namesH (dropH hs n) = (namesH hs).filter fun m => decide (m ≠ n) := by
  unfold namesH dropH
  rw [List.filter_map]
  rfl
theorem look_drop {hs : Hs} {n m : Str} (h : m ≠ n) : lookH (dropH hs n) m = lookH hs m := by
  unfold lookH dropH
  rw [List.find?_filter]
  congr 2
  funext p
  by_cases c : p.1 = m
  · have : p.1 ≠ n := fun z => h (c.symm.trans z)
    simp [c, h]
  · simp [c]
theorem HsOk.drop {ns : List Str} {hs : Hs} (ok : HsOk ns hs) (n : Str) : HsOk ns (dropH hs n) where
  nd := by rw [names_drop]; exact ok.nd.filter _
  len := Nat.le_trans (List.length_filter_le _ _) ok.len
  nm := fun m hm => by rw [names_drop] at hm; exact ok.nm m (List.mem_filter.mp hm).1
  hd := fun p hp => ok.hd p (List.mem_filter.mp hp).1
end BB
end CF
end
section
set_option maxRecDepth 100000
namespace CF
open PySem PySem.Spec PyProof.Rows L2
local macro_rules
  | `(tactic| exists $es,*) => `(tactic| simp (disch := first | assumption | omega | (simp only [List.length_set, List.length_append, List.length_cons, List.length_nil]; omega)) only [↓wp_ok, ↓wp_ex, ↓wp_bind, ↓wp_guard, ↓wp_nox, ↓sp_nx, ↓sp_rt, ↓sp_bk, ↓sp_ct, ↓sp_ex, ↓sp_seq, ↓sp_thn, ↓sp_guard,
      ↓w_eC, ↓w_eVar, ↓w_aNil, ↓w_aCons, ↓w_eTup, ↓w_eTupP, ↓w_eLst, ↓w_eLstM, ↓w_eOp, ↓w_eChain, ↓w_asB, ↓w_tAnd, ↓w_tOr, ↓w_tNot, ↓w_eTru, ↓w_eIf, ↓w_sNext, ↓w_sSeq, ↓w_sRet, ↓w_sRetN, ↓w_sIf, ↓w_sSet, ↓w_sDrop, ↓w_sBreak, ↓w_sCont, ↓w_gNm, ↓w_gsNil, ↓w_gsCons, ↓w_gTp, ↓w_sAsg, ↓w_eOne, ↓w_eUn, ↓w_eCB, ↓w_one, ↓w_eCall, ↓w_eAnd, ↓w_eOr, ↓w_eNot, ↓w_iSeq, ↓w_eLc, ↓w_mkF, ↓w_mkM, ↓w_tYes, ↓w_eMt, ↓w_eMt0, ↓w_iRg1, ↓w_sPut, ↓w_gPut, ↓w_sPar2, ↓w_sPar3, ↓w_sAugD, ↓w_eDict0, ↓w_mkKF, ↓w_mkKM, ↓w_eRev, ↓w_eGet2, ↓w_eLenSet2, ↓w_iEn, ↓w_iZp, ↓w_eCm, ↓w_cmDn, ↓w_cmDc, ↓w_eFld, ↓w_eMeth, ↓w_eMethK, ↓w_eMake, ↓w_sFldD, ↓w_sRaise, ↓w_sAugE, insOf_ins, putFD_nil, lstX_l, List.lookup_cons, List.lookup_nil, ↓w_emLd, ↓w_emKd, keyD_str, keyD_int, dKOf_dK, dKOf_ref, celL_ref, celD_ref, lstIts_lst, tupIts_tup, dEqT_str, dNeT_str, tupIts_pt, tupIts_lst, tupIts_scr, tupIts_ref, strsOf_map,
      wipeD_nil, wipeD_cons, List.cons_append, List.nil_append, List.append_nil, ap_setI, eSl_ap, eOpt_none, eOpt_some,
      List.getElem?_cons_zero, List.getElem?_cons_succ, List.set_cons_zero, List.set_cons_succ, List.length_cons, List.length_nil, List.length_set, Nat.zero_add, Nat.reduceAdd, Nat.reduceSub, Nat.add_one_sub_one, List.length_append,
      itsD_tup, itsD_pt, itsD_lst, itsD_scr, dIx_tup, dIx_pt, dIx_lst, dIx_scr, atI_0, atI_1, atI_2, dAdd_int, dAdd_tup, dAdd_pt, dAdd_lst, dAdd_str, dInt_int, dInt_bl, dStr_int, dStr_str, dIsi_ap, dLen_lst, dLen_tup, dLen_pt, dLen_scr, dIsN_non, dNotN_non, dNeg_ap, dIB_ap, dI_ap,
      dEq_int, dNe_int, truD_bl, truD_non, truD_int, dSl_tup, dSl_pt, dSl_lst, dSl_scr, dTupP_lst, decide_true, decide_false, if_true, if_false, Bool.false_eq_true, Bool.not_true, Bool.not_false, eq_self, true_and, and_true, sz_le, sz_lt, rngIts_items, rngIts_chk, beq_self_eq_true, R.bind_ok, R.nox_ok, tyM_ref, mAppend_ref, mExtend_ref, ge1, ge2a, ge2b, ge3a, ge3b, ge3c, ge3d, st1, st2a, st2b, st3a, st3b, st3c, st3d, tyN, Bool.and_self, Bool.and_true, Bool.true_and, Bool.and_false, Bool.false_and, Bool.or_true, Bool.true_or, Bool.or_false, Bool.false_or, Int.reduceLT, Int.reduceLE, Int.reduceGT, Int.reduceNeg, Int.reduceAdd, Int.reduceSub, Int.reduceBEq, Int.reduceBNe, Int.reduceEq, Int.reduceToNat, Nat.reduceEqDiff, Nat.reduceLeDiff, reduceCtorEq, Int.natCast_zero, Int.cast_ofNat_Int, Int.lt_irrefl, List.map_nil, decide_eq_true_eq,
      isi_NoneType_int, isi_NoneType_str, isi_NoneType_bool, isi_NoneType_tuple, isi_NoneType_list, isi_NoneType_dict, isi_bool_int, isi_bool_str, isi_bool_bool, isi_bool_tuple, isi_bool_list, isi_bool_dict, isi_int_int, isi_int_str, isi_int_bool, isi_int_tuple, isi_int_list, isi_int_dict, isi_str_int, isi_str_str, isi_str_bool, isi_str_tuple, isi_str_list, isi_str_dict, isi_tuple_int, isi_tuple_str, isi_tuple_bool, isi_tuple_tuple, isi_tuple_list, isi_tuple_dict, isi_list_int, isi_list_str, isi_list_bool, isi_list_tuple, isi_list_list, isi_list_dict, isi_dict_int, isi_dict_str, isi_dict_bool, isi_dict_tuple, isi_dict_list, isi_dict_dict, $[$es:term],*])
  | `(tactic| and_intros) => `(tactic| (rw [wp_def]; simp only [startD, List.map_cons, List.map_nil, List.length_cons, List.length_nil, Nat.zero_add, Nat.reduceAdd, Nat.reduceSub, List.replicate, List.cons_append, List.nil_append]))
section
set_option maxRecDepth 100000
set_option maxHeartbeats 4000000
namespace BB
open PySem PySem.Spec PyProof.Rows L2
def kDict (ps : List (Str × Tr)) : List (Key × D) := ps.map fun p => ((Sum.inr p.1 : Key), encT p.2)
theorem look_kd : ∀ (ps : List (Str × Tr)) (x : Str), lookK (kDict ps) (.inr x) = (lookP ps x).map encT
  | [], x => rfl
  | (m, t) :: r, x => by
    have ih := look_kd r x
    unfold lookK kDict at ih ⊢
    rw [List.map_cons, List.find?_cons, lookP]
    by_cases c : m = x
    · subst c
      rw [if_pos rfl, show decide ((Sum.inr m : Key) = Sum.inr m) = true from decide_eq_true rfl]; rfl
    · rw [if_neg c, show decide ((Sum.inr m : Key) = Sum.inr x) = false from decide_eq_false fun z => c (Sum.inr.inj z)]
      exact ih
theorem dNotIn_kd (ps : List (Str × Tr)) (x : Str) (G : GH) : dNotIn (.str x) (.dK (kDict ps)) G = .ok (.bl (lookP ps x).isNone) G := by
  have h : inD G (.str x) (.dK (kDict ps)) = some (lookP ps x).isSome := by
    unfold inD
    simp only [dGetO, dKOf_dK, keyD_str, look_kd, Option.map_some]
    cases lookP ps x <;> rfl
  unfold dNotIn
  rw [h]
  cases lookP ps x <;> rfl
theorem dIx_kd {ps : List (Str × Tr)} {x : Str} {u : Tr} (h : lookP ps x = some u) (G : GH) : dIx (.dK (kDict ps)) (.str x) G = .ok (encT u) G := by
  show (match dGetO G (.dK (kDict ps)) (.str x) with | some (some d) => R.ok d G | _ => .no) = _
  simp only [dGetO, dKOf_dK, keyD_str, look_kd, h, Option.map_some]
theorem inT_dict {ns : List Str} {r : Nat} {t : Tr} (ok : okT ns r t) (hv : isVal t = false) (G : GH) : dDict mkKF (inT t) G = .ok (.dK (kDict (kidsT t))) G := by
  cases t with
  | val i => cases hv
  | txt x => cases hv
  | node m ps => exact K03.dict_enc (kids_nd ok) G
abbrev N_find : List Str := ["tree", "path", "name"]
noncomputable def F_find : List D → GH → R D := defF N_find b_find_node
def encOp : Option Tr → D
  | some u => encT u
  | none => .non
theorem m_find {ns : List Str} {r : Nat} {t : Tr} (ok : okT ns r t) (p : Pth) (G : GH) : F_find [encT t, encW p] G = .ok (encOp (atT t p)) G := by
  refine R.eqn ?_
  unfold F_find b_find_node
  and_intros
  have ei : ∀ G, itsD G (encW p) = some ⟨p.map D.str, fun _ => true⟩ := fun G => rfl
  exists w_sFor, ei
  refine for_inv D.str p (fun pre δ G2 => G2 = G ∧ ∃ u a s, δ = [some (encT u), some (encW p), a] ∧ okT ns s u ∧ ∀ post, p = pre ++ post → atT t p = atT u post) ⟨rfl, t, none, r, rfl, ok, fun post e => by rw [e]; rfl⟩ (fun pre x post δ G2 e ⟨e2, u, a, s, e1, oku, hu⟩ => ?_) fun δ G2 ⟨e2, u, a, s, e1, oku, hu⟩ => ?_
  · subst e1 e2
    have h1 := hu (x :: post) e
    rw [atT_cons] at h1
    cases hv : isVal u with
    | true =>
      have hk : kidsT u = [] := by
        cases u with
        | val i => rfl
        | txt x => rfl
        | node m ps => cases hv
      rw [hk] at h1
      have h1 : atT t p = none := h1
      rw [h1]
      exists ix0, dEq_value, hv
      rfl
    | false =>
      have dd := fun G => inT_dict oku hv G
      cases hl : lookP (kidsT u) x with
      | none =>
        rw [hl] at h1
        have h1 : atT t p = none := h1
        rw [h1]
        exists ix0, dEq_value, hv, ix1, dd, dNotIn_kd, hl, Option.isNone_none
        rfl
      | some v =>
        rw [hl] at h1
        have h1 : atT t p = atT v post := h1
        have d2 := fun G => dIx_kd hl G
        exists ix0, dEq_value, hv, ix1, dd, dNotIn_kd, hl, Option.isNone_some, d2
        obtain ⟨s', ok', _⟩ := okT_up1 oku
        refine ⟨v, _, s', rfl, kids_ok ok' (lookP_mem hl), fun post' e' => ?_⟩
        have : post' = post := by
          have h2 := e.symm.trans e'
          simpa using h2.symm
        rw [this]; exact h1
  · subst e1 e2
    have h1 := hu [] (by simp)
    rw [atT_nil] at h1
    rw [h1]
    exists nilL
    rfl
abbrev N_cut : List Str := ["tree", "path", "pairs", "name", "node"]
noncomputable def F_cut : Nat → List D → GH → R D
  | 0 => fNo
  | k + 1 => fun ds G => fzR G (defF N_cut (b_cut (F_cut k)) ds G)
theorem cut_run {ns : List Str} (hns : K03.nsOk ns) {f : List D → GH → R D} {r : Nat} {m : Bool} {ps : List (Str × Tr)} {n : Str} {p : Pth} (G : GH) (ok : okT ns r (.node m ps)) (hl : ps.length < 4000) (hn : PyData.strOk n = true)
    (hf : ∀ u, (n, u) ∈ ps → p ≠ [] → ∀ G, f [encT u, encW p] G = .ok (encT (cutT p u)) G) :
    defF N_cut (b_cut f) [encT (.node m ps), encW (n :: p)] G = .ok (encT (cutT (n :: p) (.node m ps))) (G ++ [.lst ((ps.filterMap (cutF n p)).map encPr)]) := by
  refine R.eqn ?_
  unfold b_cut
  and_intros
  have i1 : ∀ G, dIx (encT (.node m ps)) (.int 1) G = .ok (.pt (ps.map encPr)) G := fun G => ix1 _ G
  have p0 : ∀ G, dIx (encW (n :: p)) (.int 0) G = .ok (.str n) G := fun G => by
    show dIx (.tup (.str n :: p.map D.str)) (.int 0) G = _
    rw [dIx_tup, atI_0]
  have pl : ∀ G, dLen (encW (n :: p)) G = .ok (.int ((p.length : Int) + 1)) G := fun G => by
    show dLen (.tup ((n :: p).map D.str)) G = _
    rw [dLen_tup, List.length_map]; rfl
  have ps1 : ∀ G, dSl mkF (encW (n :: p)) (some 1) none G = .ok (encW p) G := fun G => by
    show dSl mkF (.tup ((n :: p).map D.str)) _ _ G = _
    rw [dSl_tup, OA.cut_1]; rfl
  exists w_sFor, i1
  refine for_inv encPr ps (fun pre δ G2 => (∃ a b, δ = [some (encT (.node m ps)), some (encW (n :: p)), some (.ref G.length), a, b]) ∧ G2 = G ++ [.lst ((pre.filterMap (cutF n p)).map encPr)]) ⟨⟨_, _, rfl⟩, rfl⟩ (fun pre x post δ G2 e ⟨⟨a, b, e1⟩, e2⟩ => ?_) fun δ G2 ⟨⟨a, b, e1⟩, e2⟩ => ?_
  · subst e1 e2
    obtain ⟨k, u⟩ := x
    have hx : (k, u) ∈ ps := by rw [e]; simp
    have sk := (hns k (kids_nm (t := .node m ps) ok hx)).2
    have ne : ∀ G, dNe (.str k) (.str n) G = .ok (.bl (!(k == n))) G := fun G => dNe_str G sk hn
    have lz : ((pre.filterMap (cutF n p)).map encPr).length < sizeLine := by
      rw [List.length_map]
      have h1 := List.length_filterMap_le (cutF n p) pre
      have h2 : ps.length = pre.length + (post.length + 1) := by rw [e]; simp
      exact sz_lt' (by omega)
    have fm : ∀ y : Option (Str × Tr), cutF n p (k, u) = y → (pre ++ [(k, u)]).filterMap (cutF n p) = pre.filterMap (cutF n p) ++ y.toList := fun y hy => by
      rw [List.filterMap_append]
      congr 1
      rw [List.filterMap_cons, hy]
      cases y <;> rfl
    by_cases c : k = n
    · subst c
      have bt : (k == k) = true := beq_self_eq_true k
      by_cases hp : p = []
      · subst hp
        have f1 := fm none (by simp [cutF])
        have g1 : decide ((1 : Int) < ((([] : Pth).length : Int)) + 1) = false := by decide
        rw [f1]
        exists encPr, p0, ne, bt, pl, g1
        exact ⟨⟨_, _, rfl⟩, by simp⟩
      · have f1 := fm (some (k, cutT p u)) (by simp [cutF, hp])
        have g1 : decide ((1 : Int) < (p.length : Int) + 1) = true := by
          have : 0 < p.length := List.length_pos_iff.mpr hp
          simp; omega
        have hc := hf u hx hp
        rw [f1]
        exists encPr, p0, ne, bt, pl, g1, ps1, hc, lz
        refine ⟨⟨_, _, rfl⟩, ?_⟩
        rw [List.map_append]; rfl
    · have bf : (k == n) = false := by simpa using c
      have f1 := fm (some (k, u)) (by simp [cutF, c])
      rw [f1]
      exists encPr, p0, ne, bf, lz
      refine ⟨⟨_, _, rfl⟩, ?_⟩
      rw [List.map_append]; rfl
  · subst e1 e2
    have tp : ∀ {xs : List D}, dTupP (.ref G.length) (G ++ [.lst xs]) = .ok (.pt xs) (G ++ [.lst xs]) := dTupP_ref _ _ (ge1 ..)
    exists ix0, tp
    rw [cutT_node, encT_eq]
    rfl
theorem m_cut {ns : List Str} (hns : K03.nsOk ns) : ∀ (r k : Nat) (t : Tr) (p : Pth) (G : GH), r ≤ k → okT ns r t → szT t < 4000 → p ≠ [] → (∀ x ∈ p, PyData.strOk x = true) → (atT t p).isSome = true → F_cut k [encT t, encW p] G = .ok (encT (cutT p t)) G
  | 0, _, _, _, _, _, h, _, _, _, _ => h.elim
  | r + 1, 0, _, _, _, h, _, _, _, _, _ => by omega
  | r + 1, k + 1, t, p, G, hk, ok, hl, hp, hs, ha => by
    match p, hp with
    | n :: p, _ =>
      cases t with
      | val i => rw [atT_cons] at ha; cases ha
      | txt i => rw [atT_cons] at ha; cases ha
      | node m ps =>
        show fzR G (defF N_cut (b_cut (F_cut k)) [encT (.node m ps), encW (n :: p)] G) = _
        have hl2 := hl
        rw [szT_node] at hl2
        have ll := K03.len_sz ps
        rw [cut_run hns G ok (by omega) (hs n (.head _)) fun u hu hp G => ?_]
        · exact fzR_ok (pure0_T _ _)
        · rw [atT_cons, show kidsT (.node m ps) = ps from rfl, lookP_of ok.1 hu] at ha
          have h2 : 1 + szT u ≤ _ := K03.sz_mem (ps := ps) hu
          exact m_cut hns r k u p G (by omega) (ok.2.2.2 _ hu) (by omega) hp (fun x hx => hs x (.tail _ hx)) ha
end BB
end
section
set_option maxRecDepth 100000
set_option maxHeartbeats 4000000
namespace BB
open PySem PySem.Spec PyProof.Rows L2
theorem py_W {p : Pth} (h : ∀ x ∈ p, PyData.strOk x = true) : (encW p).py = some (.tuple (p.map .str)) := by
  show (D.tup (p.map D.str)).py = _
  rw [D.py, pyAll_strs h]
theorem pyEq_W {p q : Pth} (hp : ∀ x ∈ p, PyData.strOk x = true) (hq : ∀ x ∈ q, PyData.strOk x = true) (G : GH) : pyEq G (encW p) (encW q) = some (decide (p = q)) := by
  unfold pyEq
  rw [show res G (encW p) = encW p from rfl, show res G (encW q) = encW q from rfl, py_W hp, py_W hq]
  dsimp only
  rw [if_pos (by simp [PyData.depth, depth_strs]), PyData.eqv, eqvAll_strs]
theorem dEq_W {p q : Pth} (hp : ∀ x ∈ p, PyData.strOk x = true) (hq : ∀ x ∈ q, PyData.strOk x = true) (G : GH) : dEq (encW p) (encW q) G = .ok (.bl (decide (p = q))) G := by unfold dEq; rw [pyEq_W hp hq]
theorem dNe_W {p q : Pth} (hp : ∀ x ∈ p, PyData.strOk x = true) (hq : ∀ x ∈ q, PyData.strOk x = true) (G : GH) : dNe (encW p) (encW q) G = .ok (.bl (!decide (p = q))) G := by unfold dNe; rw [pyEq_W hp hq]
end BB
end
section
set_option maxRecDepth 100000
set_option maxHeartbeats 4000000
namespace BB
open PySem PySem.Spec PyProof.Rows L2
theorem kids_len (t : Tr) : (kidsT t).length ≤ szT t := by
  cases t with
  | val i => exact Nat.zero_le _
  | txt x => exact Nat.zero_le _
  | node m ps => rw [szT_node]; exact K03.len_sz ps
theorem dInD_W {P : Pth} {ps : List Pth} (hp : ∀ x ∈ P, PyData.strOk x = true) (hq : ∀ q ∈ ps, ∀ x ∈ q, PyData.strOk x = true) (G : GH) : dInD (encW P) (.lst (ps.map encW)) G = .ok (.bl (decide (P ∈ ps))) G := by
  have rs : ∀ (n : Nat) (p : Pth), (p.map D.str).map (rsv G n) = p.map D.str := fun n p => by
    rw [List.map_map]
    refine List.map_congr_left fun x _ => ?_
    cases n <;> rfl
  have rw1 : ∀ (n : Nat) (p : Pth), rsv G (n + 1) (encW p) = encW p := fun n p => by
    show rsv G (n + 1) (.tup (p.map D.str)) = _
    rw [rsv, rs]; rfl
  have e2 : rsv G 3 (.lst (ps.map encW)) = .lst (ps.map encW) := by
    rw [rsv, List.map_map]
    congr 1
    exact List.map_congr_left fun p _ => rw1 1 p
  have pyl : ∀ {ps : List Pth}, (∀ q ∈ ps, ∀ x ∈ q, PyData.strOk x = true) → D.pyAll (ps.map encW) = some (ps.map fun p => .tuple (p.map .str)) := by
    intro ps
    induction ps with
    | nil => intro _; rfl
    | cons p ps ih =>
      intro h
      rw [List.map_cons, D.pyAll, py_W (h p (.head _)), ih fun q hq => h q (.tail _ hq)]; rfl
  unfold dInD inDD
  rw [rw1 2, e2, py_W hp, D.py, pyl hq]
  dsimp only
  rw [if_pos (by simp [PyData.depth, depth_strs])]
  rw [List.any_map]
  have ha : (ps.any ((fun z => z.eqv (PyData.tuple (List.map PyData.str P))) ∘ fun p => PyData.tuple (List.map PyData.str p))) = decide (P ∈ ps) := by
    clear e2 hq
    induction ps with
    | nil => rfl
    | cons p r ih =>
      have h1 : PyData.eqv (.tuple (p.map .str)) (.tuple (P.map .str)) = decide (p = P) := by rw [PyData.eqv, eqvAll_strs]
      rw [List.any_cons, Function.comp, h1, ih]
      by_cases c : p = P
      · subst c; simp
      · have : ¬ P = p := fun z => c z.symm
        simp [c, this]
  rw [ha]
end BB
end
end CF
end
section
set_option maxRecDepth 100000
namespace CF
open PySem PySem.Spec PyProof.Rows L2
local macro_rules
  | `(tactic| exists $es,*) => `(tactic| simp (disch := first | assumption | omega | (simp only [List.length_set, List.length_append, List.length_cons, List.length_nil]; omega)) only [↓wp_ok, ↓wp_ex, ↓wp_bind, ↓wp_guard, ↓wp_nox, ↓sp_nx, ↓sp_rt, ↓sp_bk, ↓sp_ct, ↓sp_ex, ↓sp_seq, ↓sp_thn, ↓sp_guard,
      ↓w_eC, ↓w_eVar, ↓w_aNil, ↓w_aCons, ↓w_eTup, ↓w_eTupP, ↓w_eLst, ↓w_eLstM, ↓w_eOp, ↓w_eChain, ↓w_asB, ↓w_tAnd, ↓w_tOr, ↓w_tNot, ↓w_eTru, ↓w_eIf, ↓w_sNext, ↓w_sSeq, ↓w_sRet, ↓w_sRetN, ↓w_sIf, ↓w_sSet, ↓w_sDrop, ↓w_sBreak, ↓w_sCont, ↓w_gNm, ↓w_gsNil, ↓w_gsCons, ↓w_gTp, ↓w_sAsg, ↓w_eOne, ↓w_eUn, ↓w_eCB, ↓w_one, ↓w_eCall, ↓w_eAnd, ↓w_eOr, ↓w_eNot, ↓w_iSeq, ↓w_eLc, ↓w_mkF, ↓w_mkM, ↓w_tYes, ↓w_eMt, ↓w_eMt0, ↓w_iRg1, ↓w_sPut, ↓w_gPut, ↓w_sPar2, ↓w_sPar3, ↓w_sAugD, ↓w_eDict0, ↓w_mkKF, ↓w_mkKM, ↓w_eRev, ↓w_eGet2, ↓w_eLenSet2, ↓w_iEn, ↓w_iZp, ↓w_eCm, ↓w_cmDn, ↓w_cmDc, ↓w_emLd, ↓w_emKd, keyD_str, keyD_int, dKOf_dK, dKOf_ref, celL_ref, celD_ref, lstIts_lst, tupIts_tup, dEqT_str, dNeT_str, tupIts_pt, tupIts_lst, tupIts_scr, tupIts_ref, strsOf_map,
      wipeD_nil, wipeD_cons, List.cons_append, List.nil_append, List.append_nil, ap_setI, eSl_ap, eOpt_none, eOpt_some,
      List.getElem?_cons_zero, List.getElem?_cons_succ, List.set_cons_zero, List.set_cons_succ, List.length_cons, List.length_nil, List.length_set, Nat.zero_add, Nat.reduceAdd, Nat.reduceSub, Nat.add_one_sub_one, List.length_append,
      itsD_tup, itsD_pt, itsD_lst, itsD_scr, dIx_tup, dIx_pt, dIx_lst, dIx_scr, atI_0, atI_1, atI_2, dAdd_int, dAdd_tup, dAdd_pt, dAdd_lst, dAdd_str, dInt_int, dInt_bl, dStr_int, dStr_str, dIsi_ap, dLen_lst, dLen_tup, dLen_pt, dLen_scr, dIsN_non, dNotN_non, dNeg_ap, dIB_ap, dI_ap,
      dEq_int, dNe_int, truD_bl, truD_non, truD_int, dSl_tup, dSl_pt, dSl_lst, dSl_scr, dTupP_lst, decide_true, decide_false, if_true, if_false, Bool.false_eq_true, Bool.not_true, Bool.not_false, eq_self, true_and, and_true, sz_le, sz_lt, rngIts_items, rngIts_chk, beq_self_eq_true, R.bind_ok, R.nox_ok, tyM_ref, mAppend_ref, mExtend_ref, ge1, ge2a, ge2b, ge3a, ge3b, ge3c, ge3d, st1, st2a, st2b, st3a, st3b, st3c, st3d, tyN, Bool.and_self, Bool.and_true, Bool.true_and, Bool.and_false, Bool.false_and, Bool.or_true, Bool.true_or, Bool.or_false, Bool.false_or, Int.reduceLT, Int.reduceLE, Int.reduceGT, Int.reduceNeg, Int.reduceAdd, Int.reduceSub, Int.reduceBEq, Int.reduceBNe, Int.reduceEq, Int.reduceToNat, Nat.reduceEqDiff, Nat.reduceLeDiff, reduceCtorEq, Int.natCast_zero, Int.cast_ofNat_Int, Int.lt_irrefl, List.map_nil, decide_eq_true_eq,
      isi_NoneType_int, isi_NoneType_str, isi_NoneType_bool, isi_NoneType_tuple, isi_NoneType_list, isi_NoneType_dict, isi_bool_int, isi_bool_str, isi_bool_bool, isi_bool_tuple, isi_bool_list, isi_bool_dict, isi_int_int, isi_int_str, isi_int_bool, isi_int_tuple, isi_int_list, isi_int_dict, isi_str_int, isi_str_str, isi_str_bool, isi_str_tuple, isi_str_list, isi_str_dict, isi_tuple_int, isi_tuple_str, isi_tuple_bool, isi_tuple_tuple, isi_tuple_list, isi_tuple_dict, isi_list_int, isi_list_str, isi_list_bool, isi_list_tuple, isi_list_list, isi_list_dict, isi_dict_int, isi_dict_str, isi_dict_bool, isi_dict_tuple, isi_dict_list, isi_dict_dict, $[$es:term],*])
  | `(tactic| and_intros) => `(tactic| (rw [wp_def]; simp only [startD, List.map_cons, List.map_nil, List.length_cons, List.length_nil, Nat.zero_add, Nat.reduceAdd, Nat.reduceSub, List.replicate, List.cons_append, List.nil_append]))
section
set_option maxRecDepth 100000
set_option maxHeartbeats 4000000
namespace OA
open PySem PySem.Spec PyProof.Rows L2
noncomputable def F_int : List D → GH → R D := defF ["value"] b_is_integer
abbrev encW (r : List Str) : D := .lst (r.map .str)
end OA
end
section
set_option maxRecDepth 100000
set_option maxHeartbeats 4000000
namespace OA
open PySem PySem.Spec PyProof.Rows L2
theorem alike_strs : ∀ xs ys : List Str, PySem.W.alikeAll (xs.map .str) (ys.map .str) = true
  | [], _ => by cases ‹List Str› <;> simp [PySem.W.alikeAll]
  | _ :: _, [] => by simp [PySem.W.alikeAll]
  | x :: xs, y :: ys => by
    rw [List.map_cons, List.map_cons, PySem.W.alikeAll, alike_strs xs ys]
    simp [PySem.W.alike]
end OA
end
end CF
end
section
set_option maxRecDepth 100000
set_option maxHeartbeats 4000000
namespace CF
namespace OA
open PySem PySem.Spec PyProof.Rows L2
theorem onr_none {os : List Ord} (h : onrK os = []) : ringL os = [] := by
  cases e : ringL os with
  | nil => rfl
  | cons l r =>
    have : (Sum.inl (l.2.2 : Int) : Key) ∈ onrK os := onr_mem.mpr ⟨l, by rw [e]; exact .head _, rfl⟩
    rw [h] at this; cases this
theorem due_iff (os : List Ord) : (onrK os).isEmpty = (keptO os).isSome := by
  cases e : keptO os with
  | none =>
    have h1 := kept_ring e
    cases e2 : onrK os with
    | nil => exact absurd (onr_none e2) h1
    | cons => rfl
  | some ns => rw [onr_nil (keeps_ring (kept_nd e) (kept_keeps e))]; rfl
end OA
end CF
end
section
set_option maxRecDepth 100000
namespace CF
open PySem PySem.Spec PyProof.Rows L2
local macro_rules
  | `(tactic| exists $es,*) => `(tactic| simp (disch := first | assumption | omega | (simp only [List.length_set, List.length_append, List.length_cons, List.length_nil]; omega)) only [↓wp_ok, ↓wp_ex, ↓wp_bind, ↓wp_guard, ↓wp_nox, ↓sp_nx, ↓sp_rt, ↓sp_bk, ↓sp_ct, ↓sp_ex, ↓sp_seq, ↓sp_thn, ↓sp_guard,
      ↓w_eC, ↓w_eVar, ↓w_aNil, ↓w_aCons, ↓w_eTup, ↓w_eTupP, ↓w_eLst, ↓w_eLstM, ↓w_eOp, ↓w_eChain, ↓w_asB, ↓w_tAnd, ↓w_tOr, ↓w_tNot, ↓w_eTru, ↓w_eIf, ↓w_sNext, ↓w_sSeq, ↓w_sRet, ↓w_sRetN, ↓w_sIf, ↓w_sSet, ↓w_sDrop, ↓w_sBreak, ↓w_sCont, ↓w_gNm, ↓w_gsNil, ↓w_gsCons, ↓w_gTp, ↓w_sAsg, ↓w_eOne, ↓w_eUn, ↓w_eCB, ↓w_one, ↓w_eCall, ↓w_eAnd, ↓w_eOr, ↓w_eNot, ↓w_iSeq, ↓w_eLc, ↓w_mkF, ↓w_mkM, ↓w_tYes, ↓w_eMt, ↓w_eMt0, ↓w_iRg1, ↓w_sPut, ↓w_gPut, ↓w_sPar2, ↓w_sPar3, ↓w_sAugD, ↓w_eDict0, ↓w_mkKF, ↓w_mkKM, ↓w_eRev, ↓w_eGet2, ↓w_eLenSet2, ↓w_iEn, ↓w_iZp, ↓w_eCm, ↓w_cmDn, ↓w_cmDc, ↓w_eFld, ↓w_eMeth, ↓w_eMethK, ↓w_eMake, ↓w_sFldD, ↓w_sRaise, ↓w_sAugE, insOf_ins, putFD_nil, lstX_l, List.lookup_cons, List.lookup_nil, ↓w_emLd, ↓w_emKd, keyD_str, keyD_int, dKOf_dK, dKOf_ref, celL_ref, celD_ref, lstIts_lst, tupIts_tup, dEqT_str, dNeT_str, tupIts_pt, tupIts_lst, tupIts_scr, tupIts_ref, strsOf_map,
      wipeD_nil, wipeD_cons, List.cons_append, List.nil_append, List.append_nil, ap_setI, eSl_ap, eOpt_none, eOpt_some,
      List.getElem?_cons_zero, List.getElem?_cons_succ, List.set_cons_zero, List.set_cons_succ, List.length_cons, List.length_nil, List.length_set, Nat.zero_add, Nat.reduceAdd, Nat.reduceSub, Nat.add_one_sub_one, List.length_append,
      itsD_tup, itsD_pt, itsD_lst, itsD_scr, dIx_tup, dIx_pt, dIx_lst, dIx_scr, atI_0, atI_1, atI_2, dAdd_int, dAdd_tup, dAdd_pt, dAdd_lst, dAdd_str, dInt_int, dInt_bl, dStr_int, dStr_str, dIsi_ap, dLen_lst, dLen_tup, dLen_pt, dLen_scr, dIsN_non, dNotN_non, dNeg_ap, dIB_ap, dI_ap,
      dEq_int, dNe_int, truD_bl, truD_non, truD_int, dSl_tup, dSl_pt, dSl_lst, dSl_scr, dTupP_lst, decide_true, decide_false, if_true, if_false, Bool.false_eq_true, Bool.not_true, Bool.not_false, eq_self, true_and, and_true, sz_le, sz_lt, rngIts_items, rngIts_chk, beq_self_eq_true, R.bind_ok, R.nox_ok, tyM_ref, mAppend_ref, mExtend_ref, ge1, ge2a, ge2b, ge3a, ge3b, ge3c, ge3d, st1, st2a, st2b, st3a, st3b, st3c, st3d, tyN, Bool.and_self, Bool.and_true, Bool.true_and, Bool.and_false, Bool.false_and, Bool.or_true, Bool.true_or, Bool.or_false, Bool.false_or, Int.reduceLT, Int.reduceLE, Int.reduceGT, Int.reduceNeg, Int.reduceAdd, Int.reduceSub, Int.reduceBEq, Int.reduceBNe, Int.reduceEq, Int.reduceToNat, Nat.reduceEqDiff, Nat.reduceLeDiff, reduceCtorEq, Int.natCast_zero, Int.cast_ofNat_Int, Int.lt_irrefl, List.map_nil, decide_eq_true_eq,
      isi_NoneType_int, isi_NoneType_str, isi_NoneType_bool, isi_NoneType_tuple, isi_NoneType_list, isi_NoneType_dict, isi_bool_int, isi_bool_str, isi_bool_bool, isi_bool_tuple, isi_bool_list, isi_bool_dict, isi_int_int, isi_int_str, isi_int_bool, isi_int_tuple, isi_int_list, isi_int_dict, isi_str_int, isi_str_str, isi_str_bool, isi_str_tuple, isi_str_list, isi_str_dict, isi_tuple_int, isi_tuple_str, isi_tuple_bool, isi_tuple_tuple, isi_tuple_list, isi_tuple_dict, isi_list_int, isi_list_str, isi_list_bool, isi_list_tuple, isi_list_list, isi_list_dict, isi_dict_int, isi_dict_str, isi_dict_bool, isi_dict_tuple, isi_dict_list, isi_dict_dict, $[$es:term],*])
  | `(tactic| and_intros) => `(tactic| (rw [wp_def]; simp only [startD, List.map_cons, List.map_nil, List.length_cons, List.length_nil, Nat.zero_add, Nat.reduceAdd, Nat.reduceSub, List.replicate, List.cons_append, List.nil_append]))
section
set_option maxRecDepth 100000
set_option maxHeartbeats 4000000
namespace BB
open PySem PySem.Spec PyProof.Rows L2
section
variable {ns : List Str} {C : Addr} {f : List D → GH → R D} {r : Nat} {t : Tr} {P : Pth} {os : List Oth}
theorem pw_W {p : Pth} (n : Str) (h : p.length < 1000) (G : GH) : dAdd mkF (encW p) (.tup [.str n]) G = .ok (encW (p ++ [n])) G := by
  show dAdd mkF (.tup (p.map D.str)) (.tup [.str n]) G = _
  rw [dAdd_tup, List.length_map, if_pos (show p.length + [D.str n].length ≤ sizeLine from Nat.le_trans (show p.length + 1 ≤ 1001 by omega) (by decide))]
  simp [K03.encW]
end
end BB
end
end CF
end
section
set_option maxRecDepth 100000
set_option maxHeartbeats 4000000
namespace CF
namespace K03
open PySem PySem.Spec PyProof.Rows L2
def okB (b : Bq) : Prop := (∀ n ∈ b.1, PyData.strOk n = true) ∧ PyData.strOk b.2.1 = true ∧ PyData.strOk b.2.2 = true
theorem alike_strs : ∀ xs ys : List Str, PySem.W.alikeAll (xs.map .str) (ys.map .str) = true
  | [], _ => by simp [PySem.W.alikeAll]
  | _ :: _, [] => by simp [PySem.W.alikeAll]
  | x :: xs, y :: ys => by
    rw [List.map_cons, List.map_cons, PySem.W.alikeAll, alike_strs xs ys]
    simp [PySem.W.alike]
end K03
end CF
end
section
set_option maxRecDepth 100000
namespace CF
open PySem PySem.Spec PyProof.Rows L2
local macro_rules
  | `(tactic| exists $es,*) => `(tactic| simp (disch := first | assumption | omega | (simp only [List.length_set, List.length_append, List.length_cons, List.length_nil]; omega)) only [↓wp_ok, ↓wp_ex, ↓wp_bind, ↓wp_guard, ↓wp_nox, ↓sp_nx, ↓sp_rt, ↓sp_bk, ↓sp_ct, ↓sp_ex, ↓sp_seq, ↓sp_thn, ↓sp_guard,
      ↓w_eC, ↓w_eVar, ↓w_aNil, ↓w_aCons, ↓w_eTup, ↓w_eTupP, ↓w_eLst, ↓w_eLstM, ↓w_eOp, ↓w_eChain, ↓w_asB, ↓w_tAnd, ↓w_tOr, ↓w_tNot, ↓w_eTru, ↓w_eIf, ↓w_sNext, ↓w_sSeq, ↓w_sRet, ↓w_sRetN, ↓w_sIf, ↓w_sSet, ↓w_sDrop, ↓w_sBreak, ↓w_sCont, ↓w_gNm, ↓w_gsNil, ↓w_gsCons, ↓w_gTp, ↓w_sAsg, ↓w_eOne, ↓w_eUn, ↓w_eCB, ↓w_one, ↓w_eCall, ↓w_eAnd, ↓w_eOr, ↓w_eNot, ↓w_iSeq, ↓w_eLc, ↓w_mkF, ↓w_mkM, ↓w_tYes, ↓w_eMt, ↓w_eMt0, ↓w_iRg1, ↓w_sPut, ↓w_gPut, ↓w_sPar2, ↓w_sPar3, ↓w_sAugD, ↓w_eDict0, ↓w_mkKF, ↓w_mkKM, ↓w_eRev, ↓w_eGet2, ↓w_eLenSet2, ↓w_iEn, ↓w_iZp, ↓w_eCm, ↓w_cmDn, ↓w_cmDc, ↓w_eFld, ↓w_eMeth, ↓w_eMethK, ↓w_eMake, ↓w_sFldD, ↓w_sRaise, ↓w_sAugE, insOf_ins, putFD_nil, lstX_l, List.lookup_cons, List.lookup_nil, ↓w_emLd, ↓w_emKd, keyD_str, keyD_int, dKOf_dK, dKOf_ref, celL_ref, celD_ref, lstIts_lst, tupIts_tup, dEqT_str, dNeT_str, tupIts_pt, tupIts_lst, tupIts_scr, tupIts_ref, strsOf_map,
      wipeD_nil, wipeD_cons, List.cons_append, List.nil_append, List.append_nil, ap_setI, eSl_ap, eOpt_none, eOpt_some,
      List.getElem?_cons_zero, List.getElem?_cons_succ, List.set_cons_zero, List.set_cons_succ, List.length_cons, List.length_nil, List.length_set, Nat.zero_add, Nat.reduceAdd, Nat.reduceSub, Nat.add_one_sub_one, List.length_append,
      itsD_tup, itsD_pt, itsD_lst, itsD_scr, dIx_tup, dIx_pt, dIx_lst, dIx_scr, atI_0, atI_1, atI_2, dAdd_int, dAdd_tup, dAdd_pt, dAdd_lst, dAdd_str, dInt_int, dInt_bl, dStr_int, dStr_str, dIsi_ap, dLen_lst, dLen_tup, dLen_pt, dLen_scr, dIsN_non, dNotN_non, dNeg_ap, dIB_ap, dI_ap,
      dEq_int, dNe_int, truD_bl, truD_non, truD_int, dSl_tup, dSl_pt, dSl_lst, dSl_scr, dTupP_lst, decide_true, decide_false, if_true, if_false, Bool.false_eq_true, Bool.not_true, Bool.not_false, eq_self, true_and, and_true, sz_le, sz_lt, rngIts_items, rngIts_chk, beq_self_eq_true, R.bind_ok, R.nox_ok, tyM_ref, mAppend_ref, mExtend_ref, ge1, ge2a, ge2b, ge3a, ge3b, ge3c, ge3d, st1, st2a, st2b, st3a, st3b, st3c, st3d, tyN, Bool.and_self, Bool.and_true, Bool.true_and, Bool.and_false, Bool.false_and, Bool.or_true, Bool.true_or, Bool.or_false, Bool.false_or, Int.reduceLT, Int.reduceLE, Int.reduceGT, Int.reduceNeg, Int.reduceAdd, Int.reduceSub, Int.reduceBEq, Int.reduceBNe, Int.reduceEq, Int.reduceToNat, Nat.reduceEqDiff, Nat.reduceLeDiff, reduceCtorEq, Int.natCast_zero, Int.cast_ofNat_Int, Int.lt_irrefl, List.map_nil, decide_eq_true_eq,
      isi_NoneType_int, isi_NoneType_str, isi_NoneType_bool, isi_NoneType_tuple, isi_NoneType_list, isi_NoneType_dict, isi_bool_int, isi_bool_str, isi_bool_bool, isi_bool_tuple, isi_bool_list, isi_bool_dict, isi_int_int, isi_int_str, isi_int_bool, isi_int_tuple, isi_int_list, isi_int_dict, isi_str_int, isi_str_str, isi_str_bool, isi_str_tuple, isi_str_list, isi_str_dict, isi_tuple_int, isi_tuple_str, isi_tuple_bool, isi_tuple_tuple, isi_tuple_list, isi_tuple_dict, isi_list_int, isi_list_str, isi_list_bool, isi_list_tuple, isi_list_list, isi_list_dict, isi_dict_int, isi_dict_str, isi_dict_bool, isi_dict_tuple, isi_dict_list, isi_dict_dict, $[$es:term],*])
  | `(tactic| and_intros) => `(tactic| (rw [wp_def]; simp only [startD, List.map_cons, List.map_nil, List.length_cons, List.length_nil, Nat.zero_add, Nat.reduceAdd, Nat.reduceSub, List.replicate, List.cons_append, List.nil_append]))
section
set_option maxRecDepth 100000
set_option maxHeartbeats 4000000
namespace BB
open PySem PySem.Spec PyProof.Rows L2
theorem w_order : PyData.strOk "order" = true := by decide +kernel
theorem w_field : PyData.strOk "field" = true := by decide +kernel
theorem nd_strs {ns : List Str} (hns : K03.nsOk ns) {r : Nat} {t : Tr} (ok : okT ns r t) : ∀ q ∈ K03.ndT [] t, ∀ x ∈ q.1, PyData.strOk x = true := by
  intro q hq x hx
  rcases (K03.ndT_ok r t [] ok q hq).2 x hx with h | h
  · cases h
  · exact (hns x h).2
end BB
end
end CF
end
section
set_option maxRecDepth 100000
set_option maxHeartbeats 1000000
namespace CF
namespace BB
open PySem PySem.Spec PyProof.Rows L2
def lessL (ps : List Pth) (h : Hd) : Hd := ps.foldl Hd.less h
def unordL (ps : List Pth) (h : Hd) : Hd := ps.foldl Hd.unord h
abbrev Act := Pth × Str
def cuts (as : List Act) (hs : Hs) : Hs := as.foldl (fun hs a => putH hs a.2 ((lookH hs a.2).less a.1)) hs
def uns (as : List Act) (hs : Hs) : Hs := as.foldl (fun hs a => putH hs a.2 ((lookH hs a.2).unord a.1)) hs
def actsF (fs : List Flt) : List Act := fs.flatMap fun f => if f.2.1 = ("order" : Str) then [] else f.2.2.map fun n => (f.1, n)
def actsO (fs : List Flt) : List Act := fs.flatMap fun f => f.2.2.map fun n => (f.1, n)
def pathsOf (as : List Act) (n : Str) : List Pth := (as.filter fun a => decide (a.2 = n)).map (·.1)
theorem names_cuts : ∀ (as : List Act) (hs : Hs), (∀ a ∈ as, a.2 ∈ namesH hs) → namesH (cuts as hs) = namesH hs
  | [], hs, _ => rfl
  | a :: as, hs, h => by
    have e := names_put_mem (h a (.head _)) ((lookH hs a.2).less a.1)
    show namesH (cuts as (putH hs a.2 _)) = _
    rw [names_cuts as _ (fun b hb => by rw [e]; exact h b (.tail _ hb)), e]
theorem names_uns : ∀ (as : List Act) (hs : Hs), (∀ a ∈ as, a.2 ∈ namesH hs) → namesH (uns as hs) = namesH hs
  | [], hs, _ => rfl
  | a :: as, hs, h => by
    have e := names_put_mem (h a (.head _)) ((lookH hs a.2).unord a.1)
    show namesH (uns as (putH hs a.2 _)) = _
    rw [names_uns as _ (fun b hb => by rw [e]; exact h b (.tail _ hb)), e]
theorem look_cuts : ∀ (as : List Act) (hs : Hs) (n : Str), lookH (cuts as hs) n = lessL (pathsOf as n) (lookH hs n)
  | [], hs, n => rfl
  | a :: as, hs, n => by
    show lookH (cuts as (putH hs a.2 _)) n = _
    rw [look_cuts as, look_put]
    by_cases c : n = a.2
    · rw [if_pos c, ← c]
      have e : pathsOf (a :: as) n = a.1 :: pathsOf as n := by
        unfold pathsOf
        rw [List.filter_cons, if_pos (decide_eq_true c.symm), List.map_cons]
      rw [e]; rfl
    · rw [if_neg c]
      have e : pathsOf (a :: as) n = pathsOf as n := by
        unfold pathsOf
        rw [List.filter_cons, if_neg (by simp; exact fun z => c z.symm)]
      rw [e]
theorem look_uns : ∀ (as : List Act) (hs : Hs) (n : Str), lookH (uns as hs) n = unordL (pathsOf as n) (lookH hs n)
  | [], hs, n => rfl
  | a :: as, hs, n => by
    show lookH (uns as (putH hs a.2 _)) n = _
    rw [look_uns as, look_put]
    by_cases c : n = a.2
    · rw [if_pos c, ← c]
      have e : pathsOf (a :: as) n = a.1 :: pathsOf as n := by
        unfold pathsOf
        rw [List.filter_cons, if_pos (decide_eq_true c.symm), List.map_cons]
      rw [e]; rfl
    · rw [if_neg c]
      have e : pathsOf (a :: as) n = pathsOf as n := by
        unfold pathsOf
        rw [List.filter_cons, if_neg (by simp; exact fun z => c z.symm)]
      rw [e]
theorem mem_paths {as : List Act} {n : Str} {p : Pth} : p ∈ pathsOf as n ↔ (p, n) ∈ as := by
  unfold pathsOf
  rw [List.mem_map]
  constructor
  · rintro ⟨a, h, rfl⟩
    obtain ⟨h1, h2⟩ := List.mem_filter.mp h
    have h2 : a.2 = n := of_decide_eq_true h2
    rw [← h2]; exact h1
  · exact fun h => ⟨(p, n), List.mem_filter.mpr ⟨h, decide_eq_true rfl⟩, rfl⟩
theorem cuts_ok {ns : List Str} : ∀ (as : List Act) {hs : Hs}, HsOk ns hs → (∀ a ∈ as, a.2 ∈ namesH hs ∧ a.1 ≠ []) → HsOk ns (cuts as hs)
  | [], hs, ok, _ => ok
  | a :: as, hs, ok, h => by
    have ha := h a (.head _)
    have e := names_put_mem ha.1 ((lookH hs a.2).less a.1)
    exact cuts_ok as (ok.put (ok.nm _ ha.1) ((look_ok ok ha.1).less a.1 ha.2) (.inl ha.1)) fun b hb => by rw [e]; exact h b (.tail _ hb)
theorem uns_ok {ns : List Str} : ∀ (as : List Act) {hs : Hs}, HsOk ns hs → (∀ a ∈ as, a.2 ∈ namesH hs) → HsOk ns (uns as hs)
  | [], hs, ok, _ => ok
  | a :: as, hs, ok, h => by
    have ha := h a (.head _)
    have e := names_put_mem ha ((lookH hs a.2).unord a.1)
    exact uns_ok as (ok.put (ok.nm _ ha) ((look_ok ok ha).unord a.1) (.inl ha)) fun b hb => by rw [e]; exact h b (.tail _ hb)
theorem lessL_at : ∀ {ps : List Pth} {h : Hd} {q : Pth} {u : Tr}, (∀ p ∈ ps, p ≠ []) → atT (lessL ps h).tr q = some u → (∀ p ∈ ps, ∀ s, q ≠ p ++ s) ∧ ∃ v, atT h.tr q = some v ∧ K03.kdT u = K03.kdT v ∧ (isVal v = true → u = v)
  | [], h, q, u, _, e => ⟨fun p hp => (nomatch hp), u, e, rfl, fun _ => rfl⟩
  | p :: ps, h, q, u, hp, e => by
    obtain ⟨i1, v, i2, i3, i4⟩ := lessL_at (ps := ps) (h := h.less p) (fun p hq => hp p (.tail _ hq)) e
    obtain ⟨j1, w, j2, j3, j4⟩ := at_cut_kd (hp p (.head _)) i2
    refine ⟨fun p' hp' => ?_, w, j2, i3.trans j3, fun z => ?_⟩
    · rcases List.mem_cons.mp hp' with e | hp'
      · rw [e]; exact j1
      · exact i1 p' hp'
    · have e2 := j4 z
      rw [← e2]
      exact i4 (by rw [e2]; exact z)
theorem unordL_tr : ∀ (ps : List Pth) (h : Hd), (unordL ps h).tr = h.tr
  | [], h => rfl
  | p :: ps, h => unordL_tr ps (h.unord p)
theorem unordL_od : ∀ {ps : List Pth} {h : Hd} {P : Pth}, P ∈ (unordL ps h).od ↔ P ∈ h.od ∧ P ∉ ps
  | [], h, P => by simp [unordL]
  | p :: ps, h, P => by
    have ih := unordL_od (ps := ps) (h := h.unord p) (P := P)
    show P ∈ (unordL ps (h.unord p)).od ↔ _
    rw [ih]
    show P ∈ h.od.filter (fun a => decide (a ≠ p)) ∧ _ ↔ _
    rw [List.mem_filter, List.mem_cons]
    simp
    constructor
    · rintro ⟨⟨a, b⟩, c⟩; exact ⟨a, b, c⟩
    · rintro ⟨a, b, c⟩; exact ⟨⟨a, b⟩, c⟩
theorem tk1N_snd (p : Pth) : ∀ (ns : List Str) (s : List Clm × Hs), (tk1N p ns s).2 = cuts (ns.map fun n => (p, n)) s.2
  | [], s => rfl
  | n :: ns, s => by rw [tk1N, tk1N_snd p ns]; rfl
theorem cuts_app (as bs : List Act) (hs : Hs) : cuts (as ++ bs) hs = cuts bs (cuts as hs) := List.foldl_append
theorem uns_app (as bs : List Act) (hs : Hs) : uns (as ++ bs) hs = uns bs (uns as hs) := List.foldl_append
theorem tk1_snd : ∀ (fs : List Flt) (s : List Clm × Hs), (tk1 fs s).2 = cuts (actsF fs) s.2
  | [], s => rfl
  | f :: fs, s => by
    rw [tk1, tk1_snd fs]
    unfold actsF
    rw [List.flatMap_cons, cuts_app]
    by_cases c : f.2.1 = ("order" : Str)
    · rw [if_pos c, if_pos c]; rfl
    · rw [if_neg c, if_neg c, tk1N_snd]
theorem tk2N_snd (p : Pth) : ∀ (ns : List Str) (s : List Clm × Hs), (tk2N p ns s).2 = uns (ns.map fun n => (p, n)) s.2
  | [], s => rfl
  | n :: ns, s => by rw [tk2N, tk2N_snd p ns]; rfl
theorem tk2_snd : ∀ (fs : List Flt) (s : List Clm × Hs), (tk2 fs s).2 = uns (actsO fs) s.2
  | [], s => rfl
  | f :: fs, s => by
    rw [tk2, tk2_snd fs]
    unfold actsO
    rw [List.flatMap_cons, uns_app, tk2N_snd]
theorem mem_actsF {fs : List Flt} {a : Act} : a ∈ actsF fs ↔ ∃ f ∈ fs, f.2.1 ≠ ("order" : Str) ∧ f.1 = a.1 ∧ a.2 ∈ f.2.2 := by
  unfold actsF
  rw [List.mem_flatMap]
  constructor
  · rintro ⟨f, h1, h2⟩
    by_cases c : f.2.1 = ("order" : Str)
    · rw [if_pos c] at h2; cases h2
    · rw [if_neg c] at h2
      obtain ⟨n, hn, rfl⟩ := List.mem_map.mp h2
      exact ⟨f, h1, c, rfl, hn⟩
  · rintro ⟨f, h1, c, h2, h3⟩
    refine ⟨f, h1, ?_⟩
    rw [if_neg c]
    exact List.mem_map.mpr ⟨a.2, h3, by rw [h2]⟩
theorem mem_actsO {fs : List Flt} {a : Act} : a ∈ actsO fs ↔ ∃ f ∈ fs, f.1 = a.1 ∧ a.2 ∈ f.2.2 := by
  unfold actsO
  rw [List.mem_flatMap]
  constructor
  · rintro ⟨f, h1, h2⟩
    obtain ⟨n, hn, rfl⟩ := List.mem_map.mp h2
    exact ⟨f, h1, rfl, hn⟩
  · rintro ⟨f, h1, h2, h3⟩
    exact ⟨f, h1, List.mem_map.mpr ⟨a.2, h3, by rw [h2]⟩⟩
theorem sort_mem {xs : List Str} {n : Str} : n ∈ sortS xs ↔ n ∈ xs := (sortS_perm xs).mem_iff
theorem mem_oth {hs : Hs} {w : Str} {o : Oth} : o ∈ othersH hs w ↔ o.1 ∈ namesH hs ∧ o.1 ≠ w ∧ o.2 = (lookH hs o.1, (lookH hs o.1).tr) := by
  unfold othersH
  rw [List.mem_map]
  constructor
  · rintro ⟨n, h, rfl⟩
    obtain ⟨h1, h2⟩ := List.mem_filter.mp h
    exact ⟨sort_mem.mp h1, of_decide_eq_true h2, rfl⟩
  · rintro ⟨h1, h2, h3⟩
    exact ⟨o.1, List.mem_filter.mpr ⟨sort_mem.mpr h1, decide_eq_true h2⟩, by rw [← h3]⟩
theorem mem_at {hs : Hs} {w : Str} {q : Pth} {o : Oth} : o ∈ atO (othersH hs w) q ↔ o.1 ∈ namesH hs ∧ o.1 ≠ w ∧ o.2.1 = lookH hs o.1 ∧ atT (lookH hs o.1).tr q = some o.2.2 := by
  rw [mem_atO]
  constructor
  · rintro ⟨o', h1, h2, h3, h4⟩
    obtain ⟨k1, k2, k3⟩ := mem_oth.mp h1
    obtain ⟨a, b, c⟩ := o'
    have k3 : (b, c) = (lookH hs a, (lookH hs a).tr) := k3
    injection k3 with e1 e2
    have h3 : a = o.1 := h3
    subst h3
    refine ⟨k1, k2, h4.symm.trans e1, ?_⟩
    rw [← e2]; exact h2
  · rintro ⟨h1, h2, h3, h4⟩
    exact ⟨(o.1, lookH hs o.1, (lookH hs o.1).tr), mem_oth.mpr ⟨h1, h2, rfl⟩, h4, rfl, h3.symm⟩
theorem mem_found {ns : List Str} {hs : Hs} {w : Str} {t : Tr} (ok : okT ns 6 t) {f : Flt} : f ∈ foundH hs w t ↔ ∃ u, atT t f.1 = some u ∧ freeAt t (othersH hs w) f.1 ∧ f ∈ locT u f.1 (atO (othersH hs w) f.1) := by
  unfold foundH sortF
  rw [List.mem_mergeSort, mem_nfT 6 t [] (othersH hs w) f ok]
  constructor
  · rintro ⟨q, u, h1, h2, h3⟩
    have e : f.1 = q := loc_path h3
    rw [← e] at h1 h2 h3
    exact ⟨u, h1, h2, h3⟩
  · rintro ⟨u, h1, h2, h3⟩
    exact ⟨f.1, u, h1, h2, h3⟩
theorem found_at {ns : List Str} {hs : Hs} {w : Str} {t : Tr} (ok : okT ns 6 t) {f : Flt} (hf : f ∈ foundH hs w t) {n : Str} (hn : n ∈ f.2.2) : n ∈ namesH hs ∧ n ≠ w ∧ ∃ v, atT (lookH hs n).tr f.1 = some v := by
  obtain ⟨u, h1, h2, h3⟩ := (mem_found ok).mp hf
  obtain ⟨o, ho, rfl⟩ := (loc_names h3).2 n hn
  obtain ⟨k1, k2, _, k4⟩ := mem_at.mp ho
  exact ⟨k1, k2, _, k4⟩
theorem found_root {ns : List Str} {hs : Hs} (okh : HsOk ns hs) {w : Str} {t : Tr} (ok : okT ns 6 t) (mp : ∃ ps, t = .node true ps) {f : Flt} (hf : f ∈ foundH hs w t) : f.1 ≠ [] := by
  intro e
  obtain ⟨u, h1, h2, h3⟩ := (mem_found ok).mp hf
  rw [e, atT_nil] at h1
  cases h1
  obtain ⟨ps, rfl⟩ := mp
  have k : unK (.node true ps) (atO (othersH hs w) f.1) = [] := by
    unfold unK
    rw [List.map_eq_nil_iff, List.filter_eq_nil_iff]
    intro o ho
    obtain ⟨k1, _, _, k4⟩ := mem_at.mp ho
    obtain ⟨qs, eq⟩ := (look_ok okh k1).mp
    rw [e, atT_nil] at k4
    have k4 : (lookH hs o.1).tr = o.2.2 := Option.some.inj k4
    rw [← k4, eq]
    simp [K03.kdT]
  rcases word_kind h3 with ⟨_, z, _⟩ | ⟨_, _, _, z, _⟩ | ⟨_, _, z, _⟩
  · exact z k
  · cases z
  · cases z
theorem nodup_filter_map {α β : Type} [DecidableEq β] {f : α → β} {q : α → Bool} : ∀ {l : List α}, (l.map f).Nodup → ((l.filter q).map f).Nodup := fun {l} h => h.sublist (List.filter_sublist.map f)
end BB
end CF
end
section
set_option maxRecDepth 100000
set_option maxHeartbeats 1000000
namespace CF
namespace BB
open PySem PySem.Spec PyProof.Rows L2
theorem takeA_snd (hs : Hs) (w : Str) (t : Tr) : (takeA hs w t).2 = cuts (actsF (foundH hs w t)) hs := tk1_snd _ _
theorem takeB_snd (hs : Hs) (w : Str) (t : Tr) : (takeB hs w t).2 = uns (actsO (foundH (takeA hs w t).2 w t)) (takeA hs w t).2 := tk2_snd _ _
section
variable {ns : List Str} {hs : Hs} (okh : HsOk ns hs) {w : Str} {t : Tr} (ok : okT ns 6 t) (mp : ∃ ps, t = .node true ps)
include okh ok mp
theorem takeA_acts : ∀ a ∈ actsF (foundH hs w t), a.2 ∈ namesH hs ∧ a.1 ≠ [] := by
  intro a ha
  obtain ⟨g, g1, g2, g3, g4⟩ := mem_actsF.mp ha
  exact ⟨(found_at ok g1 g4).1, by rw [← g3]; exact found_root okh ok mp g1⟩
theorem takeA_ok : HsOk ns (takeA hs w t).2 := by rw [takeA_snd]; exact cuts_ok _ okh (takeA_acts okh ok mp)
theorem takeA_names : namesH (takeA hs w t).2 = namesH hs := by rw [takeA_snd]; exact names_cuts _ _ fun a ha => (takeA_acts okh ok mp a ha).1
theorem takeB_acts : ∀ a ∈ actsO (foundH (takeA hs w t).2 w t), a.2 ∈ namesH (takeA hs w t).2 := by
  intro a ha
  obtain ⟨g, g1, g3, g4⟩ := mem_actsO.mp ha
  exact (found_at ok g1 g4).1
theorem takeB_ok : HsOk ns (takeB hs w t).2 := by rw [takeB_snd]; exact uns_ok _ (takeA_ok okh ok mp) (takeB_acts okh ok mp)
theorem takeB_names : namesH (takeB hs w t).2 = namesH hs := by rw [takeB_snd, names_uns _ _ (takeB_acts okh ok mp), takeA_names okh ok mp]
end
theorem below_len {ns : List Str} {h : Hd} (ok : HdOk ns h) (p : Pth) : (belowT h.tr p).length ≤ 41 := by
  unfold belowT
  rw [List.length_map]
  refine Nat.le_trans (List.length_filter_le _ _) ?_
  rw [K03.ndT_len]
  have := ok.sz
  omega
theorem take_nil {hs : Hs} {w : Str} {t : Tr} (h : foundH hs w t = []) : takeB hs w t = ([], hs) := by
  have e : takeA hs w t = ([], hs) := by unfold takeA; rw [h]; rfl
  unfold takeB
  rw [e]
  show tk2 (foundH hs w t) ([], hs) = _
  rw [h]; rfl
theorem nd_at {ns : List Str} : ∀ (d : Nat) (t : Tr) (P : Pth) (q : Pth) (u : Tr), okT ns d t → atT t q = some u → (P ++ q, u) ∈ K03.ndT P t
  | 0, _, _, _, _, ok, _ => ok.elim
  | d + 1, t, P, [], u, ok, h => by
    rw [atT_nil] at h; cases h
    rw [List.append_nil]
    cases t with
    | val i => rw [K03.ndT]; exact .head _
    | txt x => rw [K03.ndT]; exact .head _
    | node m ps => rw [K03.ndT]; exact .head _
  | d + 1, t, P, n :: q, u, ok, h => by
    rw [atT_cons] at h
    cases k : lookP (kidsT t) n with
    | none => rw [k] at h; cases h
    | some v =>
      rw [k] at h
      have hm := lookP_mem k
      have ih := nd_at d v (P ++ [n]) q u (kids_ok ok hm) h
      cases t with
      | val i => cases hm
      | txt x => cases hm
      | node m ps =>
        rw [K03.ndT]
        refine .tail _ ?_
        have hm2 : (n, v) ∈ ps := hm
        clear k ok h hm
        induction ps with
        | nil => cases hm2
        | cons a r ihr =>
          obtain ⟨m', w⟩ := a
          rw [K03.ndP]
          rcases List.mem_cons.mp hm2 with e | hm
          · cases e
            refine List.mem_append_left _ ?_
            rw [List.append_assoc] at ih
            exact ih
          · exact List.mem_append_right _ (ihr hm)
end BB
end CF
end
section
set_option maxRecDepth 100000
namespace CF
open PySem PySem.Spec PyProof.Rows L2
local macro_rules
  | `(tactic| exists $es,*) => `(tactic| simp (disch := first | assumption | omega | (simp only [List.length_set, List.length_append, List.length_cons, List.length_nil]; omega)) only [↓wp_ok, ↓wp_ex, ↓wp_bind, ↓wp_guard, ↓wp_nox, ↓sp_nx, ↓sp_rt, ↓sp_bk, ↓sp_ct, ↓sp_ex, ↓sp_seq, ↓sp_thn, ↓sp_guard,
      ↓w_eC, ↓w_eVar, ↓w_aNil, ↓w_aCons, ↓w_eTup, ↓w_eTupP, ↓w_eLst, ↓w_eLstM, ↓w_eOp, ↓w_eChain, ↓w_asB, ↓w_tAnd, ↓w_tOr, ↓w_tNot, ↓w_eTru, ↓w_eIf, ↓w_sNext, ↓w_sSeq, ↓w_sRet, ↓w_sRetN, ↓w_sIf, ↓w_sSet, ↓w_sDrop, ↓w_sBreak, ↓w_sCont, ↓w_gNm, ↓w_gsNil, ↓w_gsCons, ↓w_gTp, ↓w_sAsg, ↓w_eOne, ↓w_eUn, ↓w_eCB, ↓w_one, ↓w_eCall, ↓w_eAnd, ↓w_eOr, ↓w_eNot, ↓w_iSeq, ↓w_eLc, ↓w_mkF, ↓w_mkM, ↓w_tYes, ↓w_eMt, ↓w_eMt0, ↓w_iRg1, ↓w_sPut, ↓w_gPut, ↓w_sPar2, ↓w_sPar3, ↓w_sAugD, ↓w_eDict0, ↓w_mkKF, ↓w_mkKM, ↓w_eRev, ↓w_eGet2, ↓w_eLenSet2, ↓w_iEn, ↓w_iZp, ↓w_eCm, ↓w_cmDn, ↓w_cmDc, ↓w_eFld, ↓w_eMeth, ↓w_eMethK, ↓w_eMake, ↓w_sFldD, ↓w_sRaise, ↓w_sAugE, insOf_ins, putFD_nil, lstX_l, List.lookup_cons, List.lookup_nil, ↓w_emLd, ↓w_emKd, keyD_str, keyD_int, dKOf_dK, dKOf_ref, celL_ref, celD_ref, lstIts_lst, tupIts_tup, dEqT_str, dNeT_str, tupIts_pt, tupIts_lst, tupIts_scr, tupIts_ref, strsOf_map,
      wipeD_nil, wipeD_cons, List.cons_append, List.nil_append, List.append_nil, ap_setI, eSl_ap, eOpt_none, eOpt_some,
      List.getElem?_cons_zero, List.getElem?_cons_succ, List.set_cons_zero, List.set_cons_succ, List.length_cons, List.length_nil, List.length_set, Nat.zero_add, Nat.reduceAdd, Nat.reduceSub, Nat.add_one_sub_one, List.length_append,
      itsD_tup, itsD_pt, itsD_lst, itsD_scr, dIx_tup, dIx_pt, dIx_lst, dIx_scr, atI_0, atI_1, atI_2, dAdd_int, dAdd_tup, dAdd_pt, dAdd_lst, dAdd_str, dInt_int, dInt_bl, dStr_int, dStr_str, dIsi_ap, dLen_lst, dLen_tup, dLen_pt, dLen_scr, dIsN_non, dNotN_non, dNeg_ap, dIB_ap, dI_ap,
      dEq_int, dNe_int, truD_bl, truD_non, truD_int, dSl_tup, dSl_pt, dSl_lst, dSl_scr, dTupP_lst, decide_true, decide_false, if_true, if_false, Bool.false_eq_true, Bool.not_true, Bool.not_false, eq_self, true_and, and_true, sz_le, sz_lt, rngIts_items, rngIts_chk, beq_self_eq_true, R.bind_ok, R.nox_ok, tyM_ref, mAppend_ref, mExtend_ref, ge1, ge2a, ge2b, ge3a, ge3b, ge3c, ge3d, st1, st2a, st2b, st3a, st3b, st3c, st3d, tyN, Bool.and_self, Bool.and_true, Bool.true_and, Bool.and_false, Bool.false_and, Bool.or_true, Bool.true_or, Bool.or_false, Bool.false_or, Int.reduceLT, Int.reduceLE, Int.reduceGT, Int.reduceNeg, Int.reduceAdd, Int.reduceSub, Int.reduceBEq, Int.reduceBNe, Int.reduceEq, Int.reduceToNat, Nat.reduceEqDiff, Nat.reduceLeDiff, reduceCtorEq, Int.natCast_zero, Int.cast_ofNat_Int, Int.lt_irrefl, List.map_nil, decide_eq_true_eq,
      isi_NoneType_int, isi_NoneType_str, isi_NoneType_bool, isi_NoneType_tuple, isi_NoneType_list, isi_NoneType_dict, isi_bool_int, isi_bool_str, isi_bool_bool, isi_bool_tuple, isi_bool_list, isi_bool_dict, isi_int_int, isi_int_str, isi_int_bool, isi_int_tuple, isi_int_list, isi_int_dict, isi_str_int, isi_str_str, isi_str_bool, isi_str_tuple, isi_str_list, isi_str_dict, isi_tuple_int, isi_tuple_str, isi_tuple_bool, isi_tuple_tuple, isi_tuple_list, isi_tuple_dict, isi_list_int, isi_list_str, isi_list_bool, isi_list_tuple, isi_list_list, isi_list_dict, isi_dict_int, isi_dict_str, isi_dict_bool, isi_dict_tuple, isi_dict_list, isi_dict_dict, $[$es:term],*])
  | `(tactic| and_intros) => `(tactic| (rw [wp_def]; simp only [startD, List.map_cons, List.map_nil, List.length_cons, List.length_nil, Nat.zero_add, Nat.reduceAdd, Nat.reduceSub, List.replicate, List.cons_append, List.nil_append]))
section
set_option maxRecDepth 100000
set_option maxHeartbeats 4000000
namespace BB
open PySem PySem.Spec PyProof.Rows L2
def clmOk (c : Clm) : Prop := PyData.strOk c.1 = true ∧ (∀ x ∈ c.2.1, PyData.strOk x = true) ∧ PyData.strOk c.2.2 = true
end BB
end
section
set_option maxRecDepth 100000
set_option maxHeartbeats 4000000
namespace BB
open PySem PySem.Spec PyProof.Rows L2
theorem below_str {ns : List Str} (hns : K03.nsOk ns) {h : Hd} (ok : HdOk ns h) {p a : Pth} (ha : a ∈ belowT h.tr p) : ∀ x ∈ a, PyData.strOk x = true := by
  obtain ⟨q, hq, rfl⟩ := List.mem_map.mp ha
  exact nd_strs hns ok.tr q (List.mem_filter.mp hq).1
structure StOk (L : Nat) (s : List Clm × Hs) : Prop where
  len : s.1.length ≤ L
  ok : ∀ c ∈ s.1, clmOk c
theorem StOk.one {ns : List Str} (hns : K03.nsOk ns) {L : Nat} {s : List Clm × Hs} (st : StOk L s) (okh : HsOk ns s.2) {n : Str} (hn : n ∈ namesH s.2) (p : Pth) : StOk (L + 41) (tk1N p [n] s) := by
  have hd := look_ok okh hn
  refine ⟨?_, fun c hc => ?_⟩
  · show (s.1 ++ _).length ≤ _
    rw [List.length_append, List.length_map]
    have := below_len hd p
    have := st.len
    omega
  · rcases List.mem_append.mp (show c ∈ s.1 ++ _ from hc) with h | h
    · exact st.ok c h
    · obtain ⟨a, ha, rfl⟩ := List.mem_map.mp h
      exact ⟨(okh.nm n hn).2, below_str hns hd ha, w_field⟩
theorem StOk.two {ns : List Str} {L : Nat} {s : List Clm × Hs} (st : StOk L s) (okh : HsOk ns s.2) {n : Str} (hn : n ∈ namesH s.2) {p : Pth} (hp : ∀ x ∈ p, PyData.strOk x = true) : StOk (L + 1) (tk2N p [n] s) := by
  refine ⟨?_, fun c hc => ?_⟩
  · show (s.1 ++ [_]).length ≤ _
    rw [List.length_append, List.length_singleton]
    have := st.len
    omega
  · rcases List.mem_append.mp (show c ∈ s.1 ++ [_] from hc) with h | h
    · exact st.ok c h
    · rw [List.mem_singleton.mp h]
      exact ⟨(okh.nm n hn).2, hp, w_order⟩
theorem StOk.up {L M : Nat} {s : List Clm × Hs} (st : StOk L s) (h : L ≤ M) : StOk M s := ⟨Nat.le_trans st.len h, st.ok⟩
end BB
end
end CF
end
section
set_option maxRecDepth 100000
set_option maxHeartbeats 1000000
namespace CF
namespace BB
open PySem PySem.Spec PyProof.Rows L2
theorem mem_links {os : List OA.Ord} {a b : Str} {i : Nat} : (a, b, i) ∈ OA.linksO os ↔ ∃ o, os[i]? = some o ∧ (a, b) ∈ OA.prs o.2 := by
  unfold OA.linksO OA.linksZ
  rw [List.mem_flatMap]
  constructor
  · rintro ⟨p, hp, h⟩
    obtain ⟨q, hq, e⟩ := List.mem_map.mp h
    have := List.mem_zipIdx_iff_getElem?.mp hp
    cases e
    exact ⟨p.1, this, hq⟩
  · rintro ⟨o, h1, h2⟩
    exact ⟨(o, i), List.mem_zipIdx_iff_getElem?.mpr h1, List.mem_map.mpr ⟨(a, b), h2, rfl⟩⟩
theorem onI_ring {os : List OA.Ord} {i : Nat} : onI os i = true ↔ ∃ a b, (a, b, i) ∈ OA.linksO os ∧ OA.Rch (OA.linksO os) b a := by
  rw [onI_iff]
  unfold OA.onrK
  rw [(sortK_perm _).mem_iff, dedK_mem, List.mem_map]
  constructor
  · rintro ⟨⟨a, b, j⟩, h, e⟩
    have e := Sum.inl.inj e
    have : j = i := by have : (j : Int) = i := e; omega
    subst this
    obtain ⟨h1, h2⟩ := OA.ringL_mem.mp h
    exact ⟨a, b, h1, h2⟩
  · rintro ⟨a, b, h1, h2⟩
    exact ⟨(a, b, i), OA.ringL_mem.mpr ⟨h1, h2⟩, rfl⟩
theorem rows_get {t : Tr} {hs : List Oth} {i : Nat} {o : Oth} (h : hs[i]? = some o) : (rowsO t hs)[i + 1]? = some (true, rowT o.2.2) := by
  unfold rowsO
  rw [List.getElem?_cons_succ, List.getElem?_map, h]; rfl
theorem mem_unO {t : Tr} {P : Pth} {os : List Oth} {n : Str} : n ∈ unO t P os ↔ ∃ o ∈ heldO P os, o.1 = n ∧ ∃ a b, (a, b) ∈ OA.prs (rowT o.2.2) ∧ OA.Rch (OA.linksO (rowsO t (heldO P os))) b a := by
  unfold unO
  rw [List.mem_map]
  constructor
  · rintro ⟨q, hq, e⟩
    obtain ⟨h1, h2⟩ := List.mem_filter.mp hq
    obtain ⟨a, b, h3, h4⟩ := onI_ring.mp h2
    obtain ⟨h5, h6⟩ := List.mem_zipIdx_iff_le_and_getElem?_sub.mp h1
    have h7 := rows_get (t := t) h6
    rw [show q.2 - 1 + 1 = q.2 by omega] at h7
    obtain ⟨o, h8, h9⟩ := mem_links.mp h3
    rw [h7] at h8
    cases h8
    exact ⟨q.1, List.mem_of_getElem? h6, e, a, b, h9, h4⟩
  · rintro ⟨o, ho, e, a, b, h1, h2⟩
    obtain ⟨i, hi⟩ := List.mem_iff_getElem?.mp ho
    refine ⟨(o, i + 1), List.mem_filter.mpr ⟨List.mem_zipIdx_iff_le_and_getElem?_sub.mpr ⟨by simp, by simpa using hi⟩, onI_ring.mpr ⟨a, b, mem_links.mpr ⟨_, rows_get hi, h1⟩, h2⟩⟩, e⟩
theorem rch_mono {ls ls' : List OA.Lnk} (h : ∀ a b, OA.Lk1 ls' a b → OA.Lk1 ls a b) {a b : Str} (r : OA.Rch ls' a b) : OA.Rch ls a b := by
  induction r with
  | one k => exact .one (h _ _ k)
  | cons k _ ih => exact .cons (h _ _ k) ih
theorem unO_mono {t : Tr} {P : Pth} {os os' : List Oth} (h : ∀ o' ∈ heldO P os', ∃ o ∈ heldO P os, o.1 = o'.1 ∧ o.2.2 = o'.2.2) {n : Str} (hn : n ∈ unO t P os') : n ∈ unO t P os := by
  obtain ⟨o', h1, h2, a, b, h3, h4⟩ := mem_unO.mp hn
  obtain ⟨o, k1, k2, k3⟩ := h o' h1
  refine mem_unO.mpr ⟨o, k1, k2.trans h2, a, b, by rw [k3]; exact h3, rch_mono (fun x y ⟨i, hi⟩ => ?_) h4⟩
  obtain ⟨r, e1, e2⟩ := mem_links.mp hi
  cases i with
  | zero =>
    refine ⟨0, mem_links.mpr ⟨(true, rowT t), rfl, ?_⟩⟩
    have e1 : some (true, rowT t) = some r := e1
    cases e1
    exact e2
  | succ i =>
    have e1 : ((heldO P os').map fun o => (true, rowT o.2.2))[i]? = some r := e1
    rw [List.getElem?_map] at e1
    cases e3 : (heldO P os')[i]? with
    | none => rw [e3] at e1; cases e1
    | some o1 =>
      rw [e3] at e1
      cases e1
      obtain ⟨o2, g1, g2, g3⟩ := h o1 (List.mem_of_getElem? e3)
      obtain ⟨j, hj⟩ := List.mem_iff_getElem?.mp g1
      refine ⟨j + 1, mem_links.mpr ⟨_, rows_get hj, ?_⟩⟩
      rw [g3]; exact e2
def Agree (hs : Hs) : Prop := ∀ n ∈ namesH hs, ∀ m ∈ namesH hs, ∀ q u v, atT (lookH hs n).tr q = some u → atT (lookH hs m).tr q = some v → K03.kdT u = K03.kdT v
theorem at_pre {t : Tr} {q : Pth} {u : Tr} (h : atT t q = some u) (k : Nat) : ∃ v, atT t (q.take k) = some v := by
  have e : q = q.take k ++ q.drop k := (List.take_append_drop k q).symm
  rw [e, atT_append] at h
  cases e2 : atT t (q.take k) with
  | none => rw [e2] at h; cases h
  | some v => exact ⟨v, rfl⟩
section
variable {ns : List Str} {hs : Hs} {w : Str} {t : Tr}
theorem sits (ag : Agree hs) (ok : okT ns 6 t) {n : Str} (hn : n ∈ namesH hs) (nw : n ≠ w) {q : Pth} {u v : Tr} (hu : atT t q = some u) (hv : atT (lookH hs n).tr q = some v) :
    (freeAt t (othersH hs w) q ∧ unK u (atO (othersH hs w) q) = []) ∨ ∃ f ∈ foundH hs w t, f.2.1 = ("kind" : Str) ∧ (∃ s, q = f.1 ++ s) ∧ n ∈ f.2.2 := by
  have key : ∀ k, (∀ j, j ≤ k → ∀ u, atT t (q.take j) = some u → unK u (atO (othersH hs w) (q.take j)) = []) ∨ ∃ f ∈ foundH hs w t, f.2.1 = ("kind" : Str) ∧ (∃ s, q = f.1 ++ s) ∧ n ∈ f.2.2 := by
    have step : ∀ k, (∀ j, j < k → ∀ u, atT t (q.take j) = some u → unK u (atO (othersH hs w) (q.take j)) = []) → (∀ j, j ≤ k → ∀ u, atT t (q.take j) = some u → unK u (atO (othersH hs w) (q.take j)) = []) ∨ ∃ f ∈ foundH hs w t, f.2.1 = ("kind" : Str) ∧ (∃ s, q = f.1 ++ s) ∧ n ∈ f.2.2 := by
      intro k hk
      obtain ⟨u', hu'⟩ := at_pre hu k
      obtain ⟨v', hv'⟩ := at_pre hv k
      by_cases c : unK u' (atO (othersH hs w) (q.take k)) = []
      · left
        intro j hj x hx
        rcases Nat.lt_or_eq_of_le hj with l | e
        · exact hk j l x hx
        · subst e
          rw [hu'] at hx
          cases hx
          exact c
      · right
        refine ⟨(q.take k, "kind", unK u' (atO (othersH hs w) (q.take k))), (mem_found ok).mpr ⟨u', hu', fun p s e hs' x hx => ?_, ?_⟩, rfl, ⟨q.drop k, (List.take_append_drop k q).symm⟩, ?_⟩
        · have e : q.take k = p ++ s := e
          have lp : p.length < k := by
            have e1 := congrArg List.length e
            rw [List.length_append, List.length_take] at e1
            have : 0 < s.length := List.length_pos_iff.mpr hs'
            omega
          have ep : p = q.take p.length := by
            have e1 : (q.take k).take p.length = p := by rw [e]; simp
            rw [List.take_take, Nat.min_eq_left (by omega)] at e1
            exact e1.symm
          rw [ep] at hx ⊢
          exact hk _ lp x hx
        · unfold locT
          rw [if_neg c]
          exact .head _
        · obtain ⟨m, hm⟩ := List.exists_mem_of_ne_nil _ c
          obtain ⟨o, ho, _, k1⟩ := unK_sub hm
          obtain ⟨g1, g2, g3, g4⟩ := mem_at.mp ho
          have e := ag _ hn _ g1 _ _ _ hv' g4
          have := mem_unK (t := u') (os := atO (othersH hs w) (q.take k)) (o := (n, lookH hs n, v')) (mem_at.mpr ⟨hn, nw, rfl, hv'⟩) (by show K03.kdT v' ≠ _; rw [e]; exact k1)
          exact this
    intro k
    induction k with
    | zero => exact step 0 fun j hj => absurd hj (Nat.not_lt_zero _)
    | succ k ih =>
      rcases ih with h | h
      · exact step (k + 1) fun j hj => h j (Nat.le_of_lt_succ hj)
      · exact .inr h
  rcases key q.length with h | h
  · left
    refine ⟨fun p s e hs' x hx => ?_, ?_⟩
    · have ep : p = q.take p.length := by rw [e]; simp
      have lp : p.length ≤ q.length := by rw [e, List.length_append]; omega
      rw [ep] at hx ⊢
      exact h _ lp x hx
    · have e : q.take q.length = q := List.take_length
      have := h q.length (Nat.le_refl _) u (by rw [e]; exact hu)
      rwa [e] at this
  · exact .inr h
theorem unK_kd {u : Tr} {os : List Oth} (h : unK u os = []) {o : Oth} (ho : o ∈ os) : K03.kdT o.2.2 = K03.kdT u := Classical.byContradiction fun c => by
  have := mem_unK ho c
  rw [h] at this
  cases this
theorem kd_val {u v : Tr} (h : K03.kdT v = K03.kdT u) (k : isVal u = true) : isVal v = true := by
  rw [← kd_value, h, kd_value]; exact k
structure Less (hs hs' : Hs) (w : Str) (t : Tr) : Prop where
  nm : ∀ n ∈ namesH hs', n ∈ namesH hs
  tr : ∀ n ∈ namesH hs', ∀ q v', atT (lookH hs' n).tr q = some v' → ∃ v, atT (lookH hs n).tr q = some v ∧ K03.kdT v' = K03.kdT v ∧ (isVal v = true → v' = v)
theorem Less.agree {hs' : Hs} (l : Less hs hs' w t) (ag : Agree hs) : Agree hs' := by
  intro n hn m hm q u v hu hv
  obtain ⟨u', a1, a2, _⟩ := l.tr n hn q u hu
  obtain ⟨v', b1, b2, _⟩ := l.tr m hm q v hv
  rw [a2, b2]
  exact ag n (l.nm n hn) m (l.nm m hm) q u' v' a1 b1
theorem clean2 {hs' : Hs} (ag : Agree hs) (ok : okT ns 6 t) (l : Less hs hs' w t) (no : ∀ f ∈ foundH hs w t, f.2.1 ≠ ("order" : Str) → ∀ n ∈ f.2.2, n ∈ namesH hs' → ∀ s, atT (lookH hs' n).tr (f.1 ++ s) = none) : ∀ f ∈ foundH hs' w t, f.2.1 = ("order" : Str) := by
  have ko : ("kind" : Str) ≠ ("order" : Str) := by decide +kernel
  have vo : ("value" : Str) ≠ ("order" : Str) := by decide +kernel
  intro f hf
  obtain ⟨u, h1, h2, h3⟩ := (mem_found ok).mp hf
  have main : ∀ o ∈ atO (othersH hs' w) f.1, K03.kdT o.2.2 = K03.kdT u ∧ (isVal u = true → o.2.2 = u) := by
    intro o ho
    obtain ⟨g1, g2, g3, g4⟩ := mem_at.mp ho
    obtain ⟨v, b1, b2, b3⟩ := l.tr _ g1 _ _ g4
    rcases sits (w := w) ag ok (l.nm _ g1) g2 h1 b1 with ⟨a1, a2⟩ | ⟨g, c1, c2, ⟨s, c3⟩, c4⟩
    · have ek := unK_kd a2 (o := (o.1, lookH hs o.1, v)) (mem_at.mpr ⟨l.nm _ g1, g2, rfl, b1⟩)
      refine ⟨b2.trans ek, fun hv => ?_⟩
      rw [b3 (kd_val ek hv)]
      apply Classical.byContradiction
      intro c
      have hm := mem_unV (t := u) (os := atO (othersH hs w) f.1) (o := (o.1, lookH hs o.1, v)) (mem_at.mpr ⟨l.nm _ g1, g2, rfl, b1⟩) c
      have lf : lfT u f.1 (atO (othersH hs w) f.1) = flt1 f.1 "value" (unV u (atO (othersH hs w) f.1)) := by
        cases u with
        | val i => rfl
        | txt x => rfl
        | node m ps => cases hv
      have hg : (f.1, ("value" : Str), unV u (atO (othersH hs w) f.1)) ∈ foundH hs w t := (mem_found ok).mpr ⟨u, h1, a1, by
        unfold locT
        rw [if_pos a2, lf]
        exact mem_flt1.mpr ⟨fun e => (by rw [e] at hm; cases hm), rfl⟩⟩
      have := no _ hg vo o.1 hm g1 []
      rw [List.append_nil, g4] at this
      cases this
    · have := no g c1 (by rw [c2]; exact ko) o.1 c4 g1 s
      rw [← c3, g4] at this
      cases this
  rcases word_kind h3 with ⟨_, z, _⟩ | ⟨_, _, _, z, e⟩ | ⟨z, _⟩
  · obtain ⟨m, hm⟩ := List.exists_mem_of_ne_nil _ z
    obtain ⟨o, ho, _, k⟩ := unK_sub hm
    exact absurd (main o ho).1 k
  · obtain ⟨m, hm⟩ := List.exists_mem_of_ne_nil _ (loc_names h3).1
    rw [e] at hm
    obtain ⟨o, ho, _, k⟩ := unV_sub hm
    exact absurd ((main o ho).2 z) k
  · exact z
theorem clean3 {hs' : Hs} (ag : Agree hs) (ok : okT ns 6 t) (nm : ∀ n ∈ namesH hs', n ∈ namesH hs) (tr : ∀ n ∈ namesH hs', (lookH hs' n).tr = (lookH hs n).tr) (od : ∀ n ∈ namesH hs', ∀ p ∈ (lookH hs' n).od, p ∈ (lookH hs n).od)
    (no : ∀ f ∈ foundH hs w t, ∀ n ∈ f.2.2, n ∈ namesH hs' → f.2.1 = ("order" : Str) ∧ f.1 ∉ (lookH hs' n).od) : foundH hs' w t = [] := by
  have ko : ("kind" : Str) ≠ ("order" : Str) := by decide +kernel
  have l : Less hs hs' w t := ⟨nm, fun n hn q v hv => ⟨v, by rw [← tr n hn]; exact hv, rfl, fun _ => rfl⟩⟩
  have al := clean2 ag ok l fun f hf h n hn hn' s => absurd (no f hf n hn hn').1 h
  apply Classical.byContradiction
  intro c
  obtain ⟨f, hf⟩ := List.exists_mem_of_ne_nil _ c
  obtain ⟨u, h1, h2, h3⟩ := (mem_found ok).mp hf
  have fo := al f hf
  rcases word_kind h3 with ⟨z, _⟩ | ⟨z, _⟩ | ⟨_, _, z, e⟩
  · exact absurd (z.symm.trans fo) ko
  · exact absurd (z.symm.trans fo) (by decide +kernel)
  · obtain ⟨n, hn⟩ := List.exists_mem_of_ne_nil _ (loc_names h3).1
    rw [e] at hn
    obtain ⟨o, ho, e1, e2⟩ := unO_sub hn
    obtain ⟨g1, g2, g3, g4⟩ := mem_at.mp ho
    rw [e1] at g1 g2 g3 g4
    rw [tr n g1] at g4
    rcases sits (w := w) ag ok (nm _ g1) g2 h1 g4 with ⟨a1, a2⟩ | ⟨g, c1, c2, ⟨s, c3⟩, c4⟩
    · have hm : n ∈ unO u f.1 (atO (othersH hs w) f.1) := unO_mono (fun o' ho' => by
        obtain ⟨x1, x2⟩ := List.mem_filter.mp ho'
        obtain ⟨y1, y2, y3, y4⟩ := mem_at.mp x1
        have x2 := of_decide_eq_true x2
        rw [y3] at x2
        exact ⟨(o'.1, lookH hs o'.1, o'.2.2), List.mem_filter.mpr ⟨mem_at.mpr ⟨nm _ y1, y2, rfl, by rw [← tr _ y1]; exact y4⟩, decide_eq_true (od _ y1 _ x2)⟩, rfl, rfl⟩) hn
      have lf : lfT u f.1 (atO (othersH hs w) f.1) = flt1 f.1 "order" (unO u f.1 (atO (othersH hs w) f.1)) := by
        cases u with
        | val i => cases z
        | txt x => cases z
        | node m ps => cases m with
          | true => cases z
          | false => rfl
      have hg : (f.1, ("order" : Str), unO u f.1 (atO (othersH hs w) f.1)) ∈ foundH hs w t := (mem_found ok).mpr ⟨u, h1, a1, by
        unfold locT
        rw [if_pos a2, lf]
        exact mem_flt1.mpr ⟨fun e => (by rw [e] at hm; cases hm), rfl⟩⟩
      have := (no _ hg n hm g1).2
      rw [g3] at e2
      exact this e2
    · exact absurd (c2.symm.trans (no g c1 n c4 g1).1) ko
end
end BB
end CF
end
section
set_option maxRecDepth 100000
set_option maxHeartbeats 1000000
namespace CF
namespace BB
open PySem PySem.Spec PyProof.Rows L2
theorem agree_nil : Agree [] := fun n hn => nomatch hn
section
variable {ns : List Str} {hs : Hs} {w : Str} {t : Tr}
theorem mem_put_names {n : Str} {h : Hd} {m : Str} : m ∈ namesH (putH hs n h) ↔ m ∈ namesH hs ∨ m = n := by
  by_cases c : n ∈ namesH hs
  · rw [names_put_mem c]
    exact ⟨.inl, fun h => h.elim id fun e => e ▸ c⟩
  · rw [names_put_new c]; simp
theorem agree_put (ag : Agree hs) (ok : okT ns 6 t) (h : foundH hs w t = []) : Agree (putH hs w (hdOf t)) := by
  have one : ∀ m ∈ namesH hs, m ≠ w → ∀ q u v, atT t q = some u → atT (lookH hs m).tr q = some v → K03.kdT v = K03.kdT u := by
    intro m hm nm q u v hu hv
    rcases sits (w := w) ag ok hm nm hu hv with ⟨_, a2⟩ | ⟨f, hf, _⟩
    · exact unK_kd a2 (o := (m, lookH hs m, v)) (mem_at.mpr ⟨hm, nm, rfl, hv⟩)
    · rw [h] at hf; cases hf
  intro n hn m hm q u v hu hv
  rw [look_put] at hu hv
  by_cases c : n = w
  · rw [if_pos c] at hu
    by_cases d : m = w
    · rw [if_pos d] at hv
      rw [hu] at hv
      cases hv
      rfl
    · rw [if_neg d] at hv
      exact (one m ((mem_put_names.mp hm).resolve_right d) d q u v hu hv).symm
  · rw [if_neg c] at hu
    by_cases d : m = w
    · rw [if_pos d] at hv
      exact one n ((mem_put_names.mp hn).resolve_right c) c q v u hv hu
    · rw [if_neg d] at hv
      exact ag n ((mem_put_names.mp hn).resolve_right c) m ((mem_put_names.mp hm).resolve_right d) q u v hu hv
theorem agree_less (ag : Agree hs) {n : Str} (hn : n ∈ namesH hs) {p : Pth} (hp : p ≠ []) : Agree (putH hs n ((lookH hs n).less p)) := by
  have l : Less hs (putH hs n ((lookH hs n).less p)) ("" : Str) (.val 0) := ⟨fun m hm => (mem_put_names.mp hm).elim id fun e => e ▸ hn, fun m hm q v hv => by
    rw [look_put] at hv
    by_cases c : m = n
    · rw [if_pos c] at hv
      subst c
      obtain ⟨_, v', h1, h2, h3⟩ := at_cut_kd hp (show atT (cutT p (lookH hs m).tr) q = some v from hv)
      exact ⟨v', h1, h2, h3⟩
    · rw [if_neg c] at hv
      exact ⟨v, hv, rfl, fun _ => rfl⟩⟩
  exact l.agree ag
theorem names_drop_mem {n m : Str} : m ∈ namesH (dropH hs n) ↔ m ∈ namesH hs ∧ m ≠ n := by rw [names_drop, List.mem_filter]; simp
theorem agree_drop (ag : Agree hs) (n : Str) : Agree (dropH hs n) := by
  intro a ha b hb q u v hu hv
  have ha := names_drop_mem.mp ha
  have hb := names_drop_mem.mp hb
  rw [look_drop ha.2] at hu
  rw [look_drop hb.2] at hv
  exact ag a ha.1 b hb.1 q u v hu hv
theorem lessH_at {ps : List Pth} {h : Hd} {q : Pth} {u : Tr} (hp : ∀ p ∈ ps, p ≠ []) (k : atT (lessL ps h).tr q = some u) : ∃ v, atT h.tr q = some v ∧ K03.kdT u = K03.kdT v ∧ (isVal v = true → u = v) := (lessL_at hp k).2
variable (okh : HsOk ns hs) (ok : okT ns 6 t) (mp : ∃ ps, t = .node true ps)
include okh ok mp
theorem takeA_paths {n : Str} : ∀ p ∈ pathsOf (actsF (foundH hs w t)) n, p ≠ [] := fun p hp => (takeA_acts okh ok mp _ (mem_paths.mp hp)).2
theorem takeA_less : Less hs (takeA hs w t).2 w t := by
  refine ⟨fun n hn => by rwa [takeA_names okh ok mp] at hn, fun n hn q v hv => ?_⟩
  rw [takeA_snd, look_cuts] at hv
  exact lessH_at (takeA_paths okh ok mp) hv
theorem takeA_order (ag : Agree hs) : ∀ f ∈ foundH (takeA hs w t).2 w t, f.2.1 = ("order" : Str) := by
  refine clean2 ag ok (takeA_less okh ok mp) fun f hf hw n hn hn' s => ?_
  rw [takeA_snd, look_cuts]
  cases h : atT (lessL (pathsOf (actsF (foundH hs w t)) n) (lookH hs n)).tr (f.1 ++ s) with
  | none => rfl
  | some u =>
    have := (lessL_at (takeA_paths okh ok mp) h).1 f.1 (mem_paths.mpr (mem_actsF.mpr ⟨f, hf, hw, rfl, hn⟩)) s
    exact absurd rfl this
theorem takeB_look {n : Str} : lookH (takeB hs w t).2 n = unordL (pathsOf (actsO (foundH (takeA hs w t).2 w t)) n) (lookH (takeA hs w t).2 n) := by rw [takeB_snd, look_uns]
theorem takeB_agree (ag : Agree hs) : Agree (takeB hs w t).2 := by
  have agA := (takeA_less (w := w) okh ok mp).agree ag
  have nm : ∀ n, n ∈ namesH (takeB hs w t).2 → n ∈ namesH (takeA hs w t).2 := fun n hn => by rwa [takeB_names okh ok mp, ← takeA_names (w := w) okh ok mp] at hn
  intro a ha b hb q u v hu hv
  rw [takeB_look okh ok mp, unordL_tr] at hu hv
  exact agA a (nm a ha) b (nm b hb) q u v hu hv
theorem found_takeB (ag : Agree hs) : foundH (takeB hs w t).2 w t = [] := by
  have agA := (takeA_less (w := w) okh ok mp).agree ag
  have nm : ∀ n, n ∈ namesH (takeB hs w t).2 → n ∈ namesH (takeA hs w t).2 := fun n hn => by rwa [takeB_names okh ok mp, ← takeA_names (w := w) okh ok mp] at hn
  refine clean3 agA ok nm (fun n _ => by rw [takeB_look okh ok mp, unordL_tr]) (fun n _ p hp => ?_) fun f hf n hn _ => ⟨takeA_order okh ok mp ag f hf, fun h => ?_⟩
  · rw [takeB_look okh ok mp] at hp
    exact (unordL_od.mp hp).1
  · rw [takeB_look okh ok mp] at h
    exact (unordL_od.mp h).2 (mem_paths.mpr (mem_actsO.mpr ⟨f, hf, rfl, hn⟩))
end
end BB
end CF
end
section
set_option maxRecDepth 100000
namespace CF
open PySem PySem.Spec PyProof.Rows L2
local macro_rules
  | `(tactic| exists $es,*) => `(tactic| simp (disch := first | assumption | omega | (simp only [List.length_set, List.length_append, List.length_cons, List.length_nil]; omega)) only [↓wp_ok, ↓wp_ex, ↓wp_bind, ↓wp_guard, ↓wp_nox, ↓sp_nx, ↓sp_rt, ↓sp_bk, ↓sp_ct, ↓sp_ex, ↓sp_seq, ↓sp_thn, ↓sp_guard,
      ↓w_eC, ↓w_eVar, ↓w_aNil, ↓w_aCons, ↓w_eTup, ↓w_eTupP, ↓w_eLst, ↓w_eLstM, ↓w_eOp, ↓w_eChain, ↓w_asB, ↓w_tAnd, ↓w_tOr, ↓w_tNot, ↓w_eTru, ↓w_eIf, ↓w_sNext, ↓w_sSeq, ↓w_sRet, ↓w_sRetN, ↓w_sIf, ↓w_sSet, ↓w_sDrop, ↓w_sBreak, ↓w_sCont, ↓w_gNm, ↓w_gsNil, ↓w_gsCons, ↓w_gTp, ↓w_sAsg, ↓w_eOne, ↓w_eUn, ↓w_eCB, ↓w_one, ↓w_eCall, ↓w_eAnd, ↓w_eOr, ↓w_eNot, ↓w_iSeq, ↓w_eLc, ↓w_mkF, ↓w_mkM, ↓w_tYes, ↓w_eMt, ↓w_eMt0, ↓w_iRg1, ↓w_sPut, ↓w_gPut, ↓w_sPar2, ↓w_sPar3, ↓w_sAugD, ↓w_eDict0, ↓w_mkKF, ↓w_mkKM, ↓w_eRev, ↓w_eGet2, ↓w_eLenSet2, ↓w_iEn, ↓w_iZp, ↓w_eCm, ↓w_cmDn, ↓w_cmDc, ↓w_eFld, ↓w_eMeth, ↓w_eMethK, ↓w_eMake, ↓w_sFldD, ↓w_sRaise, ↓w_sAugE, insOf_ins, putFD_nil, lstX_l, List.lookup_cons, List.lookup_nil, ↓w_emLd, ↓w_emKd, keyD_str, keyD_int, dKOf_dK, dKOf_ref, celL_ref, celD_ref, lstIts_lst, tupIts_tup, dEqT_str, dNeT_str, tupIts_pt, tupIts_lst, tupIts_scr, tupIts_ref, strsOf_map,
      wipeD_nil, wipeD_cons, List.cons_append, List.nil_append, List.append_nil, ap_setI, eSl_ap, eOpt_none, eOpt_some,
      List.getElem?_cons_zero, List.getElem?_cons_succ, List.set_cons_zero, List.set_cons_succ, List.length_cons, List.length_nil, List.length_set, Nat.zero_add, Nat.reduceAdd, Nat.reduceSub, Nat.add_one_sub_one, List.length_append,
      itsD_tup, itsD_pt, itsD_lst, itsD_scr, dIx_tup, dIx_pt, dIx_lst, dIx_scr, atI_0, atI_1, atI_2, dAdd_int, dAdd_tup, dAdd_pt, dAdd_lst, dAdd_str, dInt_int, dInt_bl, dStr_int, dStr_str, dIsi_ap, dLen_lst, dLen_tup, dLen_pt, dLen_scr, dIsN_non, dNotN_non, dNeg_ap, dIB_ap, dI_ap,
      dEq_int, dNe_int, truD_bl, truD_non, truD_int, dSl_tup, dSl_pt, dSl_lst, dSl_scr, dTupP_lst, decide_true, decide_false, if_true, if_false, Bool.false_eq_true, Bool.not_true, Bool.not_false, eq_self, true_and, and_true, sz_le, sz_lt, rngIts_items, rngIts_chk, beq_self_eq_true, R.bind_ok, R.nox_ok, tyM_ref, mAppend_ref, mExtend_ref, ge1, ge2a, ge2b, ge3a, ge3b, ge3c, ge3d, st1, st2a, st2b, st3a, st3b, st3c, st3d, tyN, Bool.and_self, Bool.and_true, Bool.true_and, Bool.and_false, Bool.false_and, Bool.or_true, Bool.true_or, Bool.or_false, Bool.false_or, Int.reduceLT, Int.reduceLE, Int.reduceGT, Int.reduceNeg, Int.reduceAdd, Int.reduceSub, Int.reduceBEq, Int.reduceBNe, Int.reduceEq, Int.reduceToNat, Nat.reduceEqDiff, Nat.reduceLeDiff, reduceCtorEq, Int.natCast_zero, Int.cast_ofNat_Int, Int.lt_irrefl, List.map_nil, decide_eq_true_eq,
      isi_NoneType_int, isi_NoneType_str, isi_NoneType_bool, isi_NoneType_tuple, isi_NoneType_list, isi_NoneType_dict, isi_bool_int, isi_bool_str, isi_bool_bool, isi_bool_tuple, isi_bool_list, isi_bool_dict, isi_int_int, isi_int_str, isi_int_bool, isi_int_tuple, isi_int_list, isi_int_dict, isi_str_int, isi_str_str, isi_str_bool, isi_str_tuple, isi_str_list, isi_str_dict, isi_tuple_int, isi_tuple_str, isi_tuple_bool, isi_tuple_tuple, isi_tuple_list, isi_tuple_dict, isi_list_int, isi_list_str, isi_list_bool, isi_list_tuple, isi_list_list, isi_list_dict, isi_dict_int, isi_dict_str, isi_dict_bool, isi_dict_tuple, isi_dict_list, isi_dict_dict, $[$es:term],*])
  | `(tactic| and_intros) => `(tactic| (rw [wp_def]; simp only [startD, List.map_cons, List.map_nil, List.length_cons, List.length_nil, Nat.zero_add, Nat.reduceAdd, Nat.reduceSub, List.replicate, List.cons_append, List.nil_append]))
section
set_option maxRecDepth 100000
set_option maxHeartbeats 4000000
namespace BB
open PySem PySem.Spec PyProof.Rows L2
def flB (m : Nat) : List (Str × D) := [("holdings", .ref m)]
structure BAt (CB CH : Addr) (G : GH) (n m : Nat) (hs : Hs) : Prop where
  ne : m ≠ n
  b : G[n]? = some (.ins CB (flB m))
  h : G[m]? = some (.dK (encHs CH hs))
section
variable {CB CH : Addr} {G : GH} {n m : Nat} {hs : Hs} (B : BAt CB CH G n m hs)
include B
structure StepOk (ns : List Str) (hs : Hs) (w : Str) (t : Tr) : Prop where
  w1 : OA.nmOk w = true
  w2 : PyData.strOk w = true
  ok : okT ns 6 t
  sz : szT t ≤ 40
  mp : ∃ ps, t = .node true ps
  okh : HsOk ns hs
  room : w ∈ namesH hs ∨ hs.length < 8
end
end BB
end
section
set_option maxRecDepth 100000
set_option maxHeartbeats 4000000
namespace BB
open PySem PySem.Spec PyProof.Rows L2
noncomputable def hsDone (hs : Hs) (w : Str) (t : Tr) : Hs := putH (takeB hs w t).2 w (hdOf t)
noncomputable def apG (CB CH : Addr) (G : GH) (n : Nat) (hs : Hs) (w : Str) (t : Tr) : GH := (G ++ [Cell.dK (encHs CH (hsDone hs w t))] ++ [Cell.lst ((takeB hs w t).1.map encC)]).set n (Cell.ins CB (flB G.length))
section
variable {CB CH CR : Addr} {G : GH} {n m : Nat} {hs : Hs} (B : BAt CB CH G n m hs)
include B
theorem BAt.lt : n < G.length := K03.lt_of_get B.b
theorem BAt.ltm : m < G.length := K03.lt_of_get B.h
theorem ap_board (w : Str) (t : Tr) : BAt CB CH (apG CB CH G n hs w t) n G.length (hsDone hs w t) := by
  have lt := B.lt
  unfold apG
  refine ⟨by omega, ?_, ?_⟩
  · rw [List.getElem?_set_self (by simp; omega)]
  · rw [List.getElem?_set_ne (by omega), ge2a]
theorem ap_keep (w : Str) (t : Tr) {i : Nat} (hi : i ≠ n) (hl : i < G.length) : (apG CB CH G n hs w t)[i]? = G[i]? := by
  unfold apG
  rw [List.getElem?_set_ne (by omega), List.append_assoc, List.getElem?_append_left hl]
theorem ap_len (w : Str) (t : Tr) : (apG CB CH G n hs w t).length = G.length + 2 := by unfold apG; simp
end
end BB
end
section
set_option maxRecDepth 100000
set_option maxHeartbeats 4000000
namespace BB
open PySem PySem.Spec PyProof.Rows L2
open OA (Src DrawOk)
def four : List Str := ["p", "pp", "q", "ss"]
end BB
end
section
set_option maxRecDepth 100000
set_option maxHeartbeats 4000000
namespace BB
open PySem PySem.Spec PyProof.Rows L2
open OA (Src DrawOk)
theorem okS_x : okS "x" = true := by decide +kernel
end BB
end
section
set_option maxRecDepth 100000
set_option maxHeartbeats 4000000
namespace BB
open PySem PySem.Spec PyProof.Rows L2
structure Pd (k : Nat) (d : D) (p : PyData) : Prop where
  py : d.py = some p
  rs : ∀ G n, rsv G n d = d
  re : ∀ G, res G d = d
  lay : p.canLay0 = true
  dp : p.depth ≤ k
theorem Pd.str {x : Str} (h : PyData.strOk x = true) : Pd 0 (.str x) (.str x) := ⟨by rw [D.py, if_pos h], fun G n => by cases n <;> rfl, fun G => rfl, by rw [PyData.canLay0]; exact h, Nat.le_refl _⟩
theorem Pd.int (i : Int) : Pd 0 (.int i) (.int i) := ⟨by rw [D.py], fun G n => by cases n <;> rfl, fun G => rfl, rfl, Nat.le_refl _⟩
theorem Pd.up {k l : Nat} {d : D} {p : PyData} (h : Pd k d p) (le : k ≤ l) : Pd l d p := ⟨h.py, h.rs, h.re, h.lay, Nat.le_trans h.dp le⟩
inductive Pds (k : Nat) : List D → List PyData → Prop
  | nil : Pds k [] []
  | cons {d ds p ps} : Pd k d p → Pds k ds ps → Pds k (d :: ds) (p :: ps)
theorem Pds.map {α : Type} {k : Nat} {f : α → D} {g : α → PyData} : ∀ {xs : List α}, (∀ x ∈ xs, Pd k (f x) (g x)) → Pds k (xs.map f) (xs.map g)
  | [], _ => .nil
  | x :: xs, h => .cons (h x (.head _)) (Pds.map fun y hy => h y (.tail _ hy))
theorem Pds.all {k : Nat} : ∀ {ds : List D} {ps : List PyData}, Pds k ds ps → D.pyAll ds = some ps ∧ (∀ G n, ds.map (rsv G n) = ds) ∧ PyData.canLayAll0 ps = true ∧ PyData.depthAll ps ≤ k
  | _, _, .nil => ⟨rfl, fun _ _ => rfl, rfl, Nat.zero_le _⟩
  | _, _, .cons h t => by
    obtain ⟨a, b, c, e⟩ := t.all
    refine ⟨by rw [D.pyAll, h.py, a], fun G n => by rw [List.map_cons, h.rs, b], by rw [PyData.canLayAll0, h.lay, c]; rfl, ?_⟩
    rw [PyData.depthAll]
    exact Nat.max_le.mpr ⟨h.dp, e⟩
theorem Pd.tup {k : Nat} {ds : List D} {ps : List PyData} (h : Pds k ds ps) : Pd (k + 1) (.tup ds) (.tuple ps) := by
  obtain ⟨a, b, c, e⟩ := h.all
  refine ⟨by rw [D.py, a], fun G n => ?_, fun G => rfl, by rw [PyData.canLay0]; exact c, by rw [PyData.depth]; omega⟩
  cases n with
  | zero => rfl
  | succ n => show D.tup (ds.map (rsv G n)) = _; rw [b]
theorem Pd.pt {k : Nat} {ds : List D} {ps : List PyData} (h : Pds k ds ps) : Pd (k + 1) (.pt ds) (.tuple ps) := by
  obtain ⟨a, b, c, e⟩ := h.all
  refine ⟨by rw [D.py, a], fun G n => ?_, fun G => rfl, by rw [PyData.canLay0]; exact c, by rw [PyData.depth]; omega⟩
  cases n with
  | zero => rfl
  | succ n => show D.pt (ds.map (rsv G n)) = _; rw [b]
theorem Pd.lst {k : Nat} {ds : List D} {ps : List PyData} (h : Pds k ds ps) : Pd (k + 1) (.lst ds) (.list ps) := by
  obtain ⟨a, b, c, e⟩ := h.all
  refine ⟨by rw [D.py, a], fun G n => ?_, fun G => rfl, by rw [PyData.canLay0]; exact c, by rw [PyData.depth]; omega⟩
  cases n with
  | zero => rfl
  | succ n => show D.lst (ds.map (rsv G n)) = _; rw [b]
theorem pd_eq {k : Nat} {x y : D} {p q : PyData} (hx : Pd k x p) (hy : Pd k y q) (hk : k ≤ 64) (G : GH) : dEq x y G = .ok (.bl (PyData.eqv p q)) G ∧ dNe x y G = .ok (.bl (!PyData.eqv p q)) G ∧ pyEq2 G x y = some (PyData.eqv p q) := by
  have h1 : p.depth ≤ 64 := Nat.le_trans hx.dp hk
  have h2 : q.depth ≤ 64 := Nat.le_trans hy.dp hk
  have e1 : pyEq G x y = some (PyData.eqv p q) := by
    unfold pyEq
    rw [hx.re, hy.re, hx.py, hy.py]
    dsimp only
    rw [if_pos ⟨h1, h2⟩]
  have e2 : pyEq2 G x y = some (PyData.eqv p q) := by
    unfold pyEq2
    rw [hx.rs, hy.rs, hx.py, hy.py]
    dsimp only
    rw [if_pos ⟨h1, h2⟩]
  exact ⟨by unfold dEq; rw [e1], by unfold dNe; rw [e1], e2⟩
theorem pd_same {k : Nat} {x : D} {p : PyData} (hx : Pd k x p) (hk : k ≤ 64) (G : GH) : dEq x x G = .ok (.bl true) G ∧ dNe x x G = .ok (.bl false) G ∧ pyEq2 G x x = some true := by
  have := pd_eq hx hx hk G
  rw [PySem.SeqAt.eqv_refl p hx.lay] at this
  exact this
theorem pd_W {p : Pth} (h : ∀ x ∈ p, PyData.strOk x = true) : Pd 1 (encW p) (.tuple (p.map .str)) := Pd.tup (Pds.map fun x hx => .str (h x hx))
theorem pd_T {ns : List Str} (hns : K03.nsOk ns) : ∀ (r : Nat) (t : Tr), okT ns r t → Pd (3 * r) (encT t) (K03.pyT t)
  | 0, _, h => h.elim
  | r + 1, .val i, h => by
    rw [encT_val, K03.pyT]
    exact (Pd.tup (.cons (Pd.str K03.ok_value) (.cons (Pd.int i) .nil))).up (by omega)
  | r + 1, .txt x, h => by
    rw [encT_txt, K03.pyT]
    have hx : PyData.strOk x = true := by
      have h : okS x = true := h
      unfold okS at h
      exact (Bool.and_eq_true_iff.mp (Bool.and_eq_true_iff.mp h).1).1
    exact (Pd.tup (.cons (Pd.str K03.ok_value) (.cons (Pd.str hx) .nil))).up (by omega)
  | r + 1, .node m ps, ok => by
    obtain ⟨e1, e2⟩ := K03.py_enc (fun n hn => (hns n hn).2) (r + 1) _ ok
    have hp : Pds (3 * r + 1) (ps.map encPr) (ps.map fun p => .tuple [.str p.1, K03.pyT p.2]) := Pds.map fun p hp =>
      Pd.tup (.cons ((Pd.str (hns p.1 (ok.2.1 p.1 (List.mem_map_of_mem hp))).2).up (Nat.zero_le _)) (.cons (pd_T hns r p.2 (ok.2.2.2 p hp)) .nil))
    have := (Pd.tup (.cons ((Pd.str (K03.ok_kind m)).up (Nat.zero_le _)) (.cons (Pd.pt hp) .nil)))
    rw [← encT_node] at this
    have pe := this.py
    rw [e1] at pe
    rw [Option.some.inj pe]
    exact this.up (by omega)
def pyW (p : Pth) : PyData := .tuple (p.map .str)
def sortW (ps : List Pth) : List Pth := ps.mergeSort (PySem.W.dataLe false pyW)
end BB
end
section
set_option maxRecDepth 100000
set_option maxHeartbeats 4000000
namespace BB
open PySem PySem.Spec PyProof.Rows L2
theorem nd_inv {ns : List Str} : ∀ (d : Nat) (t : Tr) (P : Pth) (q : Pth × Tr), okT ns d t → q ∈ K03.ndT P t → ∃ s, q.1 = P ++ s ∧ atT t s = some q.2
  | 0, _, _, _, ok, _ => ok.elim
  | d + 1, t, P, q, ok, h => by
    cases t with
    | val i => rw [K03.ndT] at h; rw [List.mem_singleton.mp h]; exact ⟨[], by simp, rfl⟩
    | txt x => rw [K03.ndT] at h; rw [List.mem_singleton.mp h]; exact ⟨[], by simp, rfl⟩
    | node m ps =>
      rw [K03.ndT] at h
      rcases List.mem_cons.mp h with rfl | h
      · exact ⟨[], by simp, rfl⟩
      · have key : ∀ (us : List (Str × Tr)), q ∈ K03.ndP P us → ∃ u ∈ us, q ∈ K03.ndT (P ++ [u.1]) u.2 := by
          intro us
          induction us with
          | nil => intro h; rw [K03.ndP] at h; cases h
          | cons a r ih =>
            intro h
            obtain ⟨n, t⟩ := a
            rw [K03.ndP] at h
            rcases List.mem_append.mp h with h | h
            · exact ⟨(n, t), .head _, h⟩
            · obtain ⟨u, h1, h2⟩ := ih h
              exact ⟨u, .tail _ h1, h2⟩
        obtain ⟨u, h1, h2⟩ := key ps h
        obtain ⟨s, e1, e2⟩ := nd_inv d u.2 (P ++ [u.1]) q (ok.2.2.2 u h1) h2
        refine ⟨u.1 :: s, by rw [e1]; simp, ?_⟩
        have lk : lookP (kidsT (.node m ps)) u.1 = some u.2 := lookP_of ok.1 h1
        rw [atT_cons, lk]
        exact e2
theorem mem_lsts {ns : List Str} {t : Tr} (ok : okT ns 6 t) {p : Pth} : p ∈ lstsT t ↔ ∃ u, atT t p = some u ∧ isL u = true := by
  unfold lstsT
  rw [List.mem_map]
  constructor
  · rintro ⟨q, hq, rfl⟩
    obtain ⟨h1, h2⟩ := List.mem_filter.mp hq
    obtain ⟨s, e1, e2⟩ := nd_inv 6 t [] q ok h1
    rw [List.nil_append] at e1
    exact ⟨q.2, by rw [e1]; exact e2, h2⟩
  · rintro ⟨u, h1, h2⟩
    exact ⟨(p, u), List.mem_filter.mpr ⟨nd_at 6 t [] p u ok h1, h2⟩, rfl⟩
theorem lsts_ok {ns : List Str} (hns : K03.nsOk ns) {t : Tr} (ok : okT ns 6 t) {p : Pth} (h : p ∈ lstsT t) : pthOk p := by
  obtain ⟨u, h1, _⟩ := (mem_lsts ok).mp h
  obtain ⟨a, b⟩ := atT_names ok h1
  exact ⟨fun x hx => hns x (a x hx), by omega⟩
theorem lsts_len {t : Tr} (sz : szT t ≤ 40) : (lstsT t).length ≤ 41 := by
  unfold lstsT
  rw [List.length_map]
  exact Nat.le_trans (List.length_filter_le _ _) (by rw [K03.ndT_len]; omega)
theorem hdOf_ok {ns : List Str} (hns : K03.nsOk ns) {t : Tr} (ok : okT ns 6 t) (sz : szT t ≤ 40) (mp : ∃ ps, t = .node true ps) : HdOk ns (hdOf t) :=
  ⟨ok, sz, mp, fun p hp => lsts_ok hns ok hp, Nat.le_trans (lsts_len sz) (by decide)⟩
def heldL (h : Hd) : List Pth := sortW ((lstsT h.tr).filter fun p => decide (p ∈ h.od))
def entH (h : Hd) : D := .tup [encT h.tr, .lst ((heldL h).map encW)]
def clH (hs : Hs) (ns : List Str) : List (Key × D) := ns.map fun n => ((Sum.inr n : Key), entH (lookH hs n))
theorem heldL_mem {h : Hd} {p : Pth} (hp : p ∈ heldL h) : p ∈ lstsT h.tr := by
  unfold heldL sortW at hp
  rw [List.mem_mergeSort] at hp
  exact (List.mem_filter.mp hp).1
theorem putD_new {hs : Hs} {ns : List Str} {n : Str} (hn : n ∉ ns) : putD (clH hs ns) (.inr n) (entH (lookH hs n)) = clH hs (ns ++ [n]) := by
  have e : ((clH hs ns).any fun kv => decide (kv.1 = (Sum.inr n : Key))) = false := by
    rw [List.any_eq_false]
    intro kv hk
    obtain ⟨m, hm, rfl⟩ := List.mem_map.mp hk
    simp only [decide_eq_true_eq]
    intro z
    exact hn (Sum.inr.inj z ▸ hm)
  unfold putD
  rw [e, if_neg Bool.false_ne_true]
  unfold clH
  rw [List.map_append]; rfl
theorem BAt.snoc {CB CH : Addr} {G : GH} {n m : Nat} {hs : Hs} (B : BAt CB CH G n m hs) (J : GH) : BAt CB CH (G ++ J) n m hs :=
  ⟨B.ne, by rw [List.getElem?_append_left B.lt]; exact B.b, by rw [List.getElem?_append_left B.ltm]; exact B.h⟩
end BB
end
section
set_option maxRecDepth 100000
set_option maxHeartbeats 4000000
namespace BB
open PySem PySem.Spec PyProof.Rows L2
theorem rs_rt {r : RS} {d : D} {G : GH} (h : r.wp (fun _ _ => False) (fun d' G' => d' = d ∧ G' = G) (fun _ _ => False) (fun _ _ => False) fun _ _ _ => False) : r = .rt d G := by
  cases r with
  | rt d' G' => obtain ⟨rfl, rfl⟩ := h; rfl
  | _ => exact h.elim
theorem rs_ex {r : RS} {x : Ex} {δ : DEnv} {G : GH} (h : r.wp (fun _ _ => False) (fun _ _ => False) (fun _ _ => False) (fun _ _ => False) fun x' δ' G' => x' = x ∧ δ' = δ ∧ G' = G) : r = .ex x δ G := by
  cases r with
  | ex x' δ' G' => obtain ⟨rfl, rfl, rfl⟩ := h; rfl
  | _ => exact h.elim
end BB
end
section
set_option maxRecDepth 100000
set_option maxHeartbeats 4000000
namespace BB
open PySem PySem.Spec PyProof.Rows L2
class Voc where
  ns : List Str
  nsk : K03.nsOk ns
  nsl : ns.length ≤ 32
  wr : List Str
  wrk : ∀ w ∈ wr, OA.nmOk w = true ∧ PyData.strOk w = true
  wrl : wr.length ≤ 8
abbrev nms [Voc] : List Str := Voc.ns
abbrev wrs [Voc] : List Str := Voc.wr
theorem nms_ok [Voc] : K03.nsOk nms := Voc.nsk
theorem wrs_ok [Voc] : ∀ w ∈ wrs, OA.nmOk w = true ∧ PyData.strOk w = true := Voc.wrk
variable [Voc]
structure BdOk (hs : Hs) : Prop where
  ok : HsOk nms hs
  ag : Agree hs
  nm : ∀ n ∈ namesH hs, n ∈ wrs
structure WishOk (w : Str) (t : Tr) : Prop where
  w : w ∈ wrs
  ok : okT nms 6 t
  sz : szT t ≤ 40
  mp : ∃ ps, t = .node true ps
theorem sub_len {α : Type} [DecidableEq α] : ∀ {xs ys : List α}, xs.Nodup → (∀ x ∈ xs, x ∈ ys) → xs.length ≤ ys.length
  | [], _, _, _ => Nat.zero_le _
  | x :: xs, ys, nd, h => by
    obtain ⟨a, b, rfl⟩ := List.append_of_mem (h x (.head _))
    have nd := List.nodup_cons.mp nd
    have ih := sub_len (ys := a ++ b) nd.2 fun y hy => by
      have := h y (.tail _ hy)
      rcases List.mem_append.mp this with h | h
      · exact List.mem_append_left _ h
      · rcases List.mem_cons.mp h with e | h
        · exact absurd (e ▸ hy) nd.1
        · exact List.mem_append_right _ h
    rw [List.length_append] at ih
    rw [List.length_append, List.length_cons, List.length_cons]
    omega
theorem BdOk.len {hs : Hs} (b : BdOk hs) : hs.length ≤ 8 := by
  have := sub_len b.ok.nd b.nm
  have e : (namesH hs).length = hs.length := List.length_map _
  rw [e] at this
  exact Nat.le_trans this Voc.wrl
theorem room_of {hs : Hs} (nd : (namesH hs).Nodup) (nm : ∀ n ∈ namesH hs, n ∈ wrs) {w : Str} (hw : w ∈ wrs) : w ∈ namesH hs ∨ hs.length < 8 := by
  by_cases c : w ∈ namesH hs
  · exact .inl c
  · have := sub_len (xs := w :: namesH hs) (ys := wrs) (List.nodup_cons.mpr ⟨c, nd⟩) fun x hx => (List.mem_cons.mp hx).elim (fun e => e ▸ hw) (nm x)
    have e : (namesH hs).length = hs.length := List.length_map _
    rw [List.length_cons, e] at this
    exact .inr (Nat.le_trans this Voc.wrl)
theorem BdOk.step {hs : Hs} (b : BdOk hs) {w : Str} {t : Tr} (W : WishOk w t) : StepOk nms hs w t :=
  ⟨(wrs_ok w W.w).1, (wrs_ok w W.w).2, W.ok, W.sz, W.mp, b.ok, room_of b.ok.nd b.nm W.w⟩
theorem BdOk.done {hs : Hs} (b : BdOk hs) {w : Str} {t : Tr} (W : WishOk w t) : BdOk (hsDone hs w t) := by
  have okB := takeB_ok b.ok W.ok (w := w) W.mp
  have nmB := takeB_names b.ok W.ok (w := w) W.mp
  have lB : (takeB hs w t).2.length = hs.length := by
    have := congrArg List.length nmB
    unfold namesH at this
    rwa [List.length_map, List.length_map] at this
  have rm : w ∈ namesH (takeB hs w t).2 ∨ (takeB hs w t).2.length < 8 := by rw [nmB, lB]; exact room_of b.ok.nd b.nm W.w
  refine ⟨okB.put (wrs_ok w W.w) (hdOf_ok nms_ok W.ok W.sz W.mp) rm, agree_put (takeB_agree b.ok W.ok W.mp b.ag) W.ok (found_takeB b.ok W.ok W.mp b.ag), fun n hn => ?_⟩
  rcases mem_put_names.mp hn with h | h
  · rw [nmB] at h; exact b.nm n h
  · rw [h]; exact W.w
theorem look_done (hs : Hs) (w : Str) (t : Tr) : lookH (hsDone hs w t) w = hdOf t := by unfold hsDone; rw [look_put, if_pos rfl]
structure Keeps (G H : GH) (n m : Nat) : Prop where
  len : G.length ≤ H.length
  get : ∀ i, i < G.length → i ≠ n → i ≠ m → H[i]? = G[i]?
theorem Keeps.refl (G : GH) (n m : Nat) : Keeps G G n m := ⟨Nat.le_refl _, fun _ _ _ _ => rfl⟩
end BB
end
end CF
end
section
set_option maxRecDepth 100000
set_option maxHeartbeats 1000000
namespace CF
namespace BB
open PySem PySem.Spec PyProof.Rows L2
open OA (Lk1 Rch linksO prs)
def rowAt (t : Tr) (P : Pth) : List Str := match atT t P with
  | some u => rowT u
  | none => []
noncomputable def ordsAt (hs : Hs) (P : Pth) : List OA.Ord := ((sortS (namesH hs)).filter fun n => decide (P ∈ (lookH hs n).od)).map fun n => (true, rowAt (lookH hs n).tr P)
def Acyc (hs : Hs) : Prop := ∀ (P : Pth) (x : Str), ¬ Rch (linksO (ordsAt hs P)) x x
def HdIn (h : Hd) : Prop := ∀ p ∈ h.od, p ∈ lstsT h.tr
theorem rch_lift {ls ls' : List OA.Lnk} (h : ∀ a b, Lk1 ls' a b → Rch ls a b) {a b : Str} (r : Rch ls' a b) : Rch ls a b := by
  induction r with
  | one k => exact h _ _ k
  | cons k _ ih => exact (h _ _ k).trans ih
theorem lk_links {os : List OA.Ord} {a b : Str} : Lk1 (linksO os) a b ↔ ∃ o ∈ os, (a, b) ∈ prs o.2 := by
  constructor
  · rintro ⟨i, h⟩
    obtain ⟨o, h1, h2⟩ := mem_links.mp h
    exact ⟨o, List.mem_of_getElem? h1, h2⟩
  · rintro ⟨o, h1, h2⟩
    obtain ⟨i, hi⟩ := List.mem_iff_getElem?.mp h1
    exact ⟨i, mem_links.mpr ⟨o, hi, h2⟩⟩
theorem lk_at {hs : Hs} {P : Pth} {a b : Str} : Lk1 (linksO (ordsAt hs P)) a b ↔ ∃ n ∈ namesH hs, P ∈ (lookH hs n).od ∧ (a, b) ∈ prs (rowAt (lookH hs n).tr P) := by
  rw [lk_links]
  unfold ordsAt
  constructor
  · rintro ⟨o, h1, h2⟩
    obtain ⟨n, hn, rfl⟩ := List.mem_map.mp h1
    obtain ⟨h3, h4⟩ := List.mem_filter.mp hn
    exact ⟨n, sort_mem.mp h3, of_decide_eq_true h4, h2⟩
  · rintro ⟨n, h1, h2, h3⟩
    exact ⟨_, List.mem_map.mpr ⟨n, List.mem_filter.mpr ⟨sort_mem.mpr h1, decide_eq_true h2⟩, rfl⟩, h3⟩
theorem Acyc.sub {hs hs' : Hs} (ac : Acyc hs) (h : ∀ P a b, Lk1 (linksO (ordsAt hs' P)) a b → Rch (linksO (ordsAt hs P)) a b) : Acyc hs' := fun P x r => ac P x (rch_lift (h P) r)
theorem prs_cons {x : Str} {r : List Str} {p : Str × Str} (h : p ∈ prs r) : p ∈ prs (x :: r) := by
  unfold prs at h ⊢
  cases r with
  | nil => cases h
  | cons y r => exact .tail _ h
theorem prs_filter {ls : List OA.Lnk} {q : Str → Bool} : ∀ {xs : List Str}, (∀ a b, (a, b) ∈ prs xs → Lk1 ls a b) → ∀ {a b : Str}, (a, b) ∈ prs (xs.filter q) → Rch ls a b := by
  have aux : ∀ (r : List Str) (x c : Str) (s : List Str), (∀ a b, (a, b) ∈ prs (x :: r) → Lk1 ls a b) → r.filter q = c :: s → Rch ls x c := by
    intro r
    induction r with
    | nil => intro x c s _ e; cases e
    | cons y r ih =>
      intro x c s h e
      have l1 : Lk1 ls x y := h x y (.head _)
      rw [List.filter_cons] at e
      by_cases qy : q y = true
      · rw [if_pos qy] at e
        injection e with e _
        rw [← e]
        exact .one l1
      · rw [if_neg qy] at e
        exact .cons l1 (ih y c s (fun a b hab => h a b (prs_cons hab)) e)
  intro xs
  induction xs with
  | nil => intro _ a b h; cases h
  | cons x r ih =>
    intro h a b hab
    rw [List.filter_cons] at hab
    by_cases qx : q x = true
    · rw [if_pos qx] at hab
      cases e : r.filter q with
      | nil => rw [e] at hab; cases hab
      | cons c s =>
        rw [e] at hab
        have hab : (a, b) ∈ (x, c) :: prs (c :: s) := hab
        rcases List.mem_cons.mp hab with z | z
        · cases z
          exact aux r _ _ s h e
        · exact ih (fun a b hab => h a b (prs_cons hab)) (by rw [e]; exact z)
    · rw [if_neg qx] at hab
      exact ih (fun a b hab => h a b (prs_cons hab)) hab
theorem row_cut (n : Str) (p : Pth) (t : Tr) : rowT (cutT (n :: p) t) = (rowT t).filter fun x => !(decide (x = n) && p.isEmpty) := by
  unfold rowT
  rw [kids_cut]
  generalize kidsT t = ps
  induction ps with
  | nil => rfl
  | cons q r ih =>
    rw [List.filterMap_cons, List.map_cons, List.filter_cons, ← ih]
    unfold cutF
    by_cases c : q.1 = n
    · rw [if_pos c, decide_eq_true c]
      cases p with
      | nil => rfl
      | cons y p => rfl
    · rw [if_neg c, decide_eq_false c]; rfl
theorem rowAt_cut {ls : List OA.Lnk} {p : Pth} (hp : p ≠ []) {t : Tr} {P : Pth} (h : ∀ a b, (a, b) ∈ prs (rowAt t P) → Lk1 ls a b) {a b : Str} (hab : (a, b) ∈ prs (rowAt (cutT p t) P)) : Rch ls a b := by
  by_cases c : ∃ s, P = p ++ s
  · obtain ⟨s, rfl⟩ := c
    unfold rowAt at hab
    rw [at_cut_in p t s hp] at hab
    cases hab
  · have c : ∀ s, P ≠ p ++ s := fun s e => c ⟨s, e⟩
    unfold rowAt at hab h
    rcases at_cut_out p t P c with ⟨s, h1, h2, h3⟩ | ⟨_, h3⟩
    · rw [h3] at hab
      cases e : atT t P with
      | none => rw [e] at hab; cases hab
      | some v =>
        rw [e] at hab h
        cases s with
        | nil => exact absurd rfl h1
        | cons n s =>
          have hab : (a, b) ∈ prs (rowT (cutT (n :: s) v)) := hab
          rw [row_cut] at hab
          exact prs_filter h hab
    · rw [h3] at hab
      exact .one (h a b hab)
theorem acyc_less {hs : Hs} (ac : Acyc hs) {n : Str} (hn : n ∈ namesH hs) {p : Pth} (hp : p ≠ []) : Acyc (putH hs n ((lookH hs n).less p)) := by
  refine ac.sub fun P a b hab => ?_
  obtain ⟨m, h1, h2, h3⟩ := lk_at.mp hab
  rw [look_put] at h2 h3
  by_cases c : m = n
  · rw [if_pos c] at h2 h3
    have h2 : P ∈ (lookH hs n).od.filter fun a => decide (a.take p.length ≠ p) := h2
    exact rowAt_cut hp (fun a b h => lk_at.mpr ⟨n, hn, (List.mem_filter.mp h2).1, h⟩) h3
  · rw [if_neg c] at h2 h3
    exact .one (lk_at.mpr ⟨m, (mem_put_names.mp h1).resolve_right c, h2, h3⟩)
theorem acyc_unord {hs : Hs} (ac : Acyc hs) {n : Str} (hn : n ∈ namesH hs) (p : Pth) : Acyc (putH hs n ((lookH hs n).unord p)) := by
  refine ac.sub fun P a b hab => ?_
  obtain ⟨m, h1, h2, h3⟩ := lk_at.mp hab
  rw [look_put] at h2 h3
  by_cases c : m = n
  · rw [if_pos c] at h2 h3
    have h2 : P ∈ (lookH hs n).od.filter fun a => decide (a ≠ p) := h2
    exact .one (lk_at.mpr ⟨n, hn, (List.mem_filter.mp h2).1, h3⟩)
  · rw [if_neg c] at h2 h3
    exact .one (lk_at.mpr ⟨m, (mem_put_names.mp h1).resolve_right c, h2, h3⟩)
theorem acyc_drop {hs : Hs} (ac : Acyc hs) (n : Str) : Acyc (dropH hs n) := by
  refine ac.sub fun P a b hab => ?_
  obtain ⟨m, h1, h2, h3⟩ := lk_at.mp hab
  obtain ⟨h1, ne⟩ := names_drop_mem.mp h1
  rw [look_drop ne] at h2 h3
  exact .one (lk_at.mpr ⟨m, h1, h2, h3⟩)
theorem acyc_cuts : ∀ (as : List Act) {hs : Hs}, Acyc hs → (∀ a ∈ as, a.2 ∈ namesH hs ∧ a.1 ≠ []) → Acyc (cuts as hs)
  | [], _, ac, _ => ac
  | a :: as, hs, ac, h => by
    have h1 := h a (.head _)
    show Acyc (cuts as (putH hs a.2 ((lookH hs a.2).less a.1)))
    refine acyc_cuts as (acyc_less ac h1.1 h1.2) fun b hb => ?_
    rw [names_put_mem h1.1]
    exact h b (.tail _ hb)
theorem acyc_uns : ∀ (as : List Act) {hs : Hs}, Acyc hs → (∀ a ∈ as, a.2 ∈ namesH hs) → Acyc (uns as hs)
  | [], _, ac, _ => ac
  | a :: as, hs, ac, h => by
    have h1 := h a (.head _)
    show Acyc (uns as (putH hs a.2 ((lookH hs a.2).unord a.1)))
    refine acyc_uns as (acyc_unord ac h1 a.1) fun b hb => ?_
    rw [names_put_mem h1]
    exact h b (.tail _ hb)
theorem isL_kd {u v : Tr} (h : K03.kdT u = K03.kdT v) (k : isL v = true) : isL u = true := by
  rw [← kd_list, h, kd_list]; exact k
theorem HdIn.less {ns : List Str} {h : Hd} (ok : HdOk ns h) (i : HdIn h) {p : Pth} (hp : p ≠ []) : HdIn (h.less p) := by
  intro a ha
  obtain ⟨h1, h2⟩ := List.mem_filter.mp (show a ∈ h.od.filter fun a => decide (a.take p.length ≠ p) from ha)
  obtain ⟨u, h3, h4⟩ := (mem_lsts ok.tr).mp (i a h1)
  have c : ∀ s, a ≠ p ++ s := fun s e => of_decide_eq_true h2 (by rw [e]; simp)
  obtain ⟨u', h5, h6⟩ := at_cut_some c h3
  exact (mem_lsts (ok.less p hp).tr).mpr ⟨u', h5, isL_kd h6 h4⟩
theorem HdIn.unord {h : Hd} (i : HdIn h) (p : Pth) : HdIn (h.unord p) := fun a ha => i a (List.mem_filter.mp (show a ∈ h.od.filter fun a => decide (a ≠ p) from ha)).1
def BdIn (hs : Hs) : Prop := ∀ n ∈ namesH hs, HdIn (lookH hs n)
theorem in_cuts {ns : List Str} : ∀ (as : List Act) {hs : Hs}, HsOk ns hs → BdIn hs → (∀ a ∈ as, a.2 ∈ namesH hs ∧ a.1 ≠ []) → BdIn (cuts as hs)
  | [], _, _, i, _ => i
  | a :: as, hs, ok, i, h => by
    have h1 := h a (.head _)
    show BdIn (cuts as (putH hs a.2 ((lookH hs a.2).less a.1)))
    refine in_cuts (ns := ns) as (ok.put (ok.nm _ h1.1) ((look_ok ok h1.1).less a.1 h1.2) (.inl h1.1)) (fun n hn => ?_) fun b hb => ?_
    · rw [look_put]
      by_cases c : n = a.2
      · rw [if_pos c]; exact (i _ h1.1).less (look_ok ok h1.1) h1.2
      · rw [if_neg c]; exact i n ((mem_put_names.mp hn).resolve_right c)
    · rw [names_put_mem h1.1]
      exact h b (.tail _ hb)
theorem in_uns : ∀ (as : List Act) {hs : Hs}, BdIn hs → (∀ a ∈ as, a.2 ∈ namesH hs) → BdIn (uns as hs)
  | [], _, i, _ => i
  | a :: as, hs, i, h => by
    have h1 := h a (.head _)
    show BdIn (uns as (putH hs a.2 ((lookH hs a.2).unord a.1)))
    refine in_uns as (fun n hn => ?_) fun b hb => ?_
    · rw [look_put]
      by_cases c : n = a.2
      · rw [if_pos c]; exact (i _ h1).unord a.1
      · rw [if_neg c]; exact i n ((mem_put_names.mp hn).resolve_right c)
    · rw [names_put_mem h1]
      exact h b (.tail _ hb)
end BB
end CF
end
section
set_option maxRecDepth 100000
set_option maxHeartbeats 1000000
namespace CF
namespace BB
open PySem PySem.Spec PyProof.Rows L2
open OA (Lk1 Rch linksO prs ringL keptO onrK)
theorem no_ring {os : List OA.Ord} {ns : List Str} (h : keptO os = some ns) (x : Str) : ¬ Rch (linksO os) x x := by
  intro r
  have e := OA.due_iff os
  rw [h] at e
  have e : onrK os = [] := by simpa using e
  obtain ⟨b, ⟨i, hi⟩, hb⟩ := OA.rch_head r
  have back : Rch (linksO os) b x := by
    rcases hb with rfl | hb
    · exact r
    · exact hb
  have hm : (Sum.inl (i : Int) : Key) ∈ onrK os := by
    unfold onrK
    rw [(sortK_perm _).mem_iff, dedK_mem, List.mem_map]
    exact ⟨(x, b, i), OA.ringL_mem.mpr ⟨hi, back⟩, rfl⟩
  rw [e] at hm
  cases hm
theorem solo {row : List Str} (nd : row.Nodup) (x : Str) : ¬ Rch (linksO [(true, row)]) x x := by
  obtain ⟨ns, e⟩ := OA.parts_some (os := [(true, row)]) nd fun o ho => by rw [List.mem_singleton.mp ho]; exact .refl _
  exact no_ring e x
theorem rch_back {ls ls' : List OA.Lnk} (h : ∀ a b, Lk1 ls a b → Rch ls b a → Lk1 ls' a b) {x y : Str} (r : Rch ls x y) : Rch ls y x → Rch ls' x y := by
  induction r with
  | one k => exact fun r2 => .one (h _ _ k r2)
  | cons k r ih => exact fun r2 => .cons (h _ _ k (r.trans r2)) (ih (r2.snoc k))
section
variable {ns : List Str} {hs : Hs} {w : Str} {t : Tr}
theorem acyc_put (ok : HsOk ns hs) (ag : Agree hs) (inn : BdIn hs) (ac : Acyc hs) (okt : okT ns 6 t) (fo : foundH hs w t = []) : Acyc (putH hs w (hdOf t)) := by
  intro P x r
  by_cases c : P ∈ lstsT t
  · obtain ⟨u, hu, hl⟩ := (mem_lsts okt).mp c
    have inR : ∀ a b, Lk1 (linksO (ordsAt (putH hs w (hdOf t)) P)) a b → Lk1 (linksO (rowsO u (heldO P (atO (othersH hs w) P)))) a b := by
      intro a b hab
      obtain ⟨n, h1, h2, h3⟩ := lk_at.mp hab
      rw [look_put] at h2 h3
      by_cases cn : n = w
      · rw [if_pos cn] at h3
        have h3 : (a, b) ∈ prs (rowAt t P) := h3
        unfold rowAt at h3
        rw [hu] at h3
        exact lk_links.mpr ⟨(true, rowT u), .head _, h3⟩
      · rw [if_neg cn] at h2 h3
        have hn := (mem_put_names.mp h1).resolve_right cn
        obtain ⟨v, hv, _⟩ := (mem_lsts (look_ok ok hn).tr).mp (inn n hn P h2)
        unfold rowAt at h3
        rw [hv] at h3
        exact lk_links.mpr ⟨(true, rowT v), .tail _ (List.mem_map.mpr ⟨(n, lookH hs n, v), List.mem_filter.mpr ⟨mem_at.mpr ⟨hn, cn, rfl, hv⟩, decide_eq_true h2⟩, rfl⟩), h3⟩
    have r := rch_mono inR r
    have one : ∀ a b, Lk1 (linksO (rowsO u (heldO P (atO (othersH hs w) P)))) a b → Rch (linksO (rowsO u (heldO P (atO (othersH hs w) P)))) b a → Lk1 (linksO [(true, rowT u)]) a b := by
      intro a b h1 h2
      obtain ⟨o, h3, h4⟩ := lk_links.mp h1
      rcases List.mem_cons.mp (show o ∈ (true, rowT u) :: (heldO P (atO (othersH hs w) P)).map fun o => (true, rowT o.2.2) from h3) with rfl | h3
      · exact lk_links.mpr ⟨_, .head _, h4⟩
      · obtain ⟨o', h5, rfl⟩ := List.mem_map.mp h3
        have hm : o'.1 ∈ unO u P (atO (othersH hs w) P) := mem_unO.mpr ⟨o', h5, rfl, a, b, h4, h2⟩
        obtain ⟨g1, g2, _, g4⟩ := mem_at.mp (List.mem_filter.mp h5).1
        rcases sits (w := w) ag okt g1 g2 hu g4 with ⟨a1, a2⟩ | ⟨f, hf, _⟩
        · have lf : lfT u P (atO (othersH hs w) P) = flt1 P "order" (unO u P (atO (othersH hs w) P)) := by
            cases u with
            | val i => cases hl
            | txt x => cases hl
            | node m ps => cases m with
              | true => cases hl
              | false => rfl
          have : (P, ("order" : Str), unO u P (atO (othersH hs w) P)) ∈ foundH hs w t := (mem_found okt).mpr ⟨u, hu, a1, by
            unfold locT
            rw [if_pos a2, lf]
            exact mem_flt1.mpr ⟨fun e => (by rw [e] at hm; cases hm), rfl⟩⟩
          rw [fo] at this
          cases this
        · rw [fo] at hf; cases hf
    obtain ⟨s, ou, _⟩ := atT_ok okt hu
    exact solo (kids_nd ou) x (rch_back one r r)
  · refine ac P x (rch_mono (fun a b hab => ?_) r)
    obtain ⟨n, h1, h2, h3⟩ := lk_at.mp hab
    rw [look_put] at h2 h3
    by_cases cn : n = w
    · rw [if_pos cn] at h2
      exact absurd h2 c
    · rw [if_neg cn] at h2 h3
      exact lk_at.mpr ⟨n, (mem_put_names.mp h1).resolve_right cn, h2, h3⟩
theorem hdOf_in : HdIn (hdOf t) := fun _ h => h
end
theorem val_same {ns : List Str} {hs : Hs} {w : Str} {t : Tr} (ag : Agree hs) (okt : okT ns 6 t) (fo : foundH hs w t = []) {n : Str} (hn : n ∈ namesH hs) (nw : n ≠ w) {P : Pth} {u v : Tr} (hu : atT t P = some u) (hv : atT (lookH hs n).tr P = some v) (iv : isVal u = true) : v = u := by
  apply Classical.byContradiction
  intro c
  rcases sits (w := w) ag okt hn nw hu hv with ⟨a1, a2⟩ | ⟨f, hf, _⟩
  · have hm := mem_unV (t := u) (os := atO (othersH hs w) P) (o := (n, lookH hs n, v)) (mem_at.mpr ⟨hn, nw, rfl, hv⟩) c
    have lf : lfT u P (atO (othersH hs w) P) = flt1 P "value" (unV u (atO (othersH hs w) P)) := by
      cases u with
      | val i => rfl
      | txt x => rfl
      | node m ps => cases iv
    have : (P, ("value" : Str), unV u (atO (othersH hs w) P)) ∈ foundH hs w t := (mem_found okt).mpr ⟨u, hu, a1, by
      unfold locT
      rw [if_pos a2, lf]
      exact mem_flt1.mpr ⟨fun e => (by rw [e] at hm; cases hm), rfl⟩⟩
    rw [fo] at this
    cases this
  · rw [fo] at hf; cases hf
theorem kd_same {ns : List Str} {hs : Hs} {w : Str} {t : Tr} (ag : Agree hs) (okt : okT ns 6 t) (fo : foundH hs w t = []) {n : Str} (hn : n ∈ namesH hs) (nw : n ≠ w) {P : Pth} {u v : Tr} (hu : atT t P = some u) (hv : atT (lookH hs n).tr P = some v) : K03.kdT v = K03.kdT u := by
  rcases sits (w := w) ag okt hn nw hu hv with ⟨_, a2⟩ | ⟨f, hf, _⟩
  · exact unK_kd a2 (o := (n, lookH hs n, v)) (mem_at.mpr ⟨hn, nw, rfl, hv⟩)
  · rw [fo] at hf; cases hf
def AgreeV (hs : Hs) : Prop := ∀ n ∈ namesH hs, ∀ m ∈ namesH hs, ∀ q u v, atT (lookH hs n).tr q = some u → atT (lookH hs m).tr q = some v → isVal u = true → v = u
def OdNd (hs : Hs) : Prop := ∀ n ∈ namesH hs, (lookH hs n).od.Nodup
theorem Less.agreeV {hs hs' : Hs} {w : Str} {t : Tr} (l : Less hs hs' w t) (av : AgreeV hs) : AgreeV hs' := by
  intro n hn m hm q u v hu hv iv
  obtain ⟨u0, a1, a2, a3⟩ := l.tr n hn q u hu
  obtain ⟨v0, b1, b2, b3⟩ := l.tr m hm q v hv
  have iu := kd_val a2.symm iv
  have e := av n (l.nm n hn) m (l.nm m hm) q u0 v0 a1 b1 iu
  rw [a3 iu, b3 (by rw [e]; exact iu), e]
theorem agreeV_put {ns : List Str} {hs : Hs} {w : Str} {t : Tr} (ag : Agree hs) (av : AgreeV hs) (okt : okT ns 6 t) (fo : foundH hs w t = []) : AgreeV (putH hs w (hdOf t)) := by
  intro n hn m hm q u v hu hv iv
  rw [look_put] at hu hv
  by_cases cn : n = w
  · rw [if_pos cn] at hu
    by_cases cm : m = w
    · rw [if_pos cm, hu] at hv
      exact (Option.some.inj hv).symm
    · rw [if_neg cm] at hv
      exact val_same ag okt fo ((mem_put_names.mp hm).resolve_right cm) cm hu hv iv
  · rw [if_neg cn] at hu
    have hn := (mem_put_names.mp hn).resolve_right cn
    by_cases cm : m = w
    · rw [if_pos cm] at hv
      have k := kd_same ag okt fo hn cn hv hu
      exact (val_same ag okt fo hn cn hv hu (kd_val k.symm iv)).symm
    · rw [if_neg cm] at hv
      exact av n hn m ((mem_put_names.mp hm).resolve_right cm) q u v hu hv iv
theorem lessL_od : ∀ (ps : List Pth) (h : Hd), (lessL ps h).od.Sublist h.od
  | [], h => List.Sublist.refl _
  | p :: ps, h => (lessL_od ps (h.less p)).trans List.filter_sublist
theorem unordL_ods : ∀ (ps : List Pth) (h : Hd), (unordL ps h).od.Sublist h.od
  | [], h => List.Sublist.refl _
  | p :: ps, h => (unordL_ods ps (h.unord p)).trans List.filter_sublist
theorem ndP_memN {P : Pth} {q : Pth × Tr} : ∀ {us : List (Str × Tr)}, q ∈ K03.ndP P us → ∃ u ∈ us, q ∈ K03.ndT (P ++ [u.1]) u.2
  | [], h => by rw [K03.ndP] at h; cases h
  | (n, t) :: r, h => by
    rw [K03.ndP] at h
    rcases List.mem_append.mp h with h | h
    · exact ⟨(n, t), .head _, h⟩
    · obtain ⟨u, h1, h2⟩ := ndP_memN h
      exact ⟨u, .tail _ h1, h2⟩
theorem nd_nodup {ns : List Str} : ∀ (d : Nat) (t : Tr) (P : Pth), okT ns d t → ((K03.ndT P t).map (·.1)).Nodup
  | 0, _, _, ok => ok.elim
  | d + 1, t, P, ok => by
    cases t with
    | val i => rw [K03.ndT]; simp
    | txt x => rw [K03.ndT]; simp
    | node m ps =>
      rw [K03.ndT, List.map_cons, List.nodup_cons]
      have key : ∀ us : List (Str × Tr), (us.map (·.1)).Nodup → (∀ u ∈ us, okT ns d u.2) → ((K03.ndP P us).map (·.1)).Nodup := by
        intro us
        induction us with
        | nil => intro _ _; rw [K03.ndP]; exact List.nodup_nil
        | cons a r ih =>
          intro nd sub
          obtain ⟨n, u⟩ := a
          rw [List.map_cons, List.nodup_cons] at nd
          rw [K03.ndP, List.map_append, List.nodup_append]
          refine ⟨nd_nodup d u _ (sub _ (.head _)), ih nd.2 fun q hq => sub q (.tail _ hq), fun x hx y hy e => ?_⟩
          obtain ⟨f, hf, rfl⟩ := List.mem_map.mp hx
          obtain ⟨g, hg, rfl⟩ := List.mem_map.mp hy
          obtain ⟨b, hb, hg⟩ := ndP_memN hg
          obtain ⟨s1, e1, _⟩ := nd_inv d u _ f (sub _ (.head _)) hf
          obtain ⟨s2, e2, _⟩ := nd_inv d b.2 _ g (sub _ (.tail _ hb)) hg
          rw [e1, e2, List.append_assoc, List.append_assoc] at e
          have e3 := List.append_cancel_left e
          injection e3 with e3 _
          exact nd.1 (List.mem_map.mpr ⟨b, hb, e3.symm⟩)
      refine ⟨fun h => ?_, key ps ok.1 ok.2.2.2⟩
      obtain ⟨g, hg, e⟩ := List.mem_map.mp h
      obtain ⟨b, hb, hg⟩ := ndP_memN hg
      obtain ⟨s2, e2, _⟩ := nd_inv d b.2 _ g (ok.2.2.2 b hb) hg
      rw [e2, List.append_assoc] at e
      have := congrArg List.length e
      simp at this
theorem lsts_nd {ns : List Str} {t : Tr} (ok : okT ns 6 t) : (lstsT t).Nodup := nodup_filter_map (nd_nodup 6 t [] ok)
variable [Voc]
structure BdOk2 (hs : Hs) : Prop where
  b : BdOk hs
  inn : BdIn hs
  ac : Acyc hs
  av : AgreeV hs
  nd : OdNd hs
theorem acyc_nil : Acyc [] := fun P x r => by
  obtain ⟨b, l, _⟩ := OA.rch_head r
  obtain ⟨n, h, _⟩ := lk_at.mp l
  cases h
theorem BdOk2.nil : BdOk2 [] := ⟨⟨⟨List.nodup_nil, Nat.zero_le _, fun _ h => absurd h List.not_mem_nil, fun _ h => absurd h List.not_mem_nil⟩, agree_nil, fun _ h => absurd h List.not_mem_nil⟩, fun _ h => absurd h List.not_mem_nil, acyc_nil, fun _ h => absurd h List.not_mem_nil, fun _ h => absurd h List.not_mem_nil⟩
theorem BdOk2.done {hs : Hs} (b : BdOk2 hs) {w : Str} {t : Tr} (W : WishOk w t) : BdOk2 (hsDone hs w t) := by
  have okA := takeA_ok b.b.ok W.ok (w := w) W.mp
  have okB := takeB_ok b.b.ok W.ok (w := w) W.mp
  have a1 := takeA_acts b.b.ok W.ok (w := w) W.mp
  have a2 := takeB_acts b.b.ok W.ok (w := w) W.mp
  have iA : BdIn (takeA hs w t).2 := by rw [takeA_snd]; exact in_cuts _ b.b.ok b.inn a1
  have iB : BdIn (takeB hs w t).2 := by rw [takeB_snd]; exact in_uns _ iA a2
  have cA : Acyc (takeA hs w t).2 := by rw [takeA_snd]; exact acyc_cuts _ b.ac a1
  have cB : Acyc (takeB hs w t).2 := by rw [takeB_snd]; exact acyc_uns _ cA a2
  have avA := (takeA_less (w := w) b.b.ok W.ok W.mp).agreeV b.av
  have nmB : ∀ n, n ∈ namesH (takeB hs w t).2 → n ∈ namesH hs := fun n hn => by rwa [takeB_names b.b.ok W.ok W.mp] at hn
  have avB : AgreeV (takeB hs w t).2 := by
    intro x hx y hy q u v hu hv
    rw [takeB_look b.b.ok W.ok W.mp, unordL_tr] at hu hv
    exact avA x (by rw [takeA_names b.b.ok W.ok W.mp]; exact nmB x hx) y (by rw [takeA_names b.b.ok W.ok W.mp]; exact nmB y hy) q u v hu hv
  refine ⟨b.b.done W, fun n hn => ?_, acyc_put okB (takeB_agree b.b.ok W.ok W.mp b.b.ag) iB cB W.ok (found_takeB b.b.ok W.ok W.mp b.b.ag), agreeV_put (takeB_agree b.b.ok W.ok W.mp b.b.ag) avB W.ok (found_takeB b.b.ok W.ok W.mp b.b.ag), fun n hn => ?_⟩
  case refine_2 =>
    unfold hsDone at hn ⊢
    rw [look_put]
    by_cases c : n = w
    · rw [if_pos c]; exact lsts_nd W.ok
    · rw [if_neg c, takeB_look b.b.ok W.ok W.mp, takeA_snd, look_cuts]
      exact (b.nd n (nmB n ((mem_put_names.mp hn).resolve_right c))).sublist ((unordL_ods _ _).trans (lessL_od _ _))
  unfold hsDone at hn ⊢
  rw [look_put]
  by_cases c : n = w
  · rw [if_pos c]; exact hdOf_in
  · rw [if_neg c]; exact iB n ((mem_put_names.mp hn).resolve_right c)
end BB
end CF
end
section
set_option maxRecDepth 100000
set_option maxHeartbeats 1000000
namespace CF
namespace BB
open PySem PySem.Spec PyProof.Rows L2
open OA (Lk1 Rch linksO prs keptO)
section
variable {ns : List Str} {hs : Hs}
structure DocOk (ns : List Str) (hs : Hs) : Prop where
  ok : HsOk ns hs
  ag : Agree hs
  inn : BdIn hs
  ac : Acyc hs
theorem BdOk2.doc [Voc] {hs : Hs} (b : BdOk2 hs) : DocOk nms hs := ⟨b.b.ok, b.b.ag, b.inn, b.ac⟩
variable (D : DocOk ns hs)
include D
end
end BB
end CF
end
section
set_option maxRecDepth 100000
set_option maxHeartbeats 1000000
namespace CF
namespace BB
open PySem PySem.Spec PyProof.Rows L2
open OA (Lk1 Rch linksO prs keptO)
structure Part (t t' : Tr) : Prop where
  at_ : ∀ q u', atT t' q = some u' → ∃ u, atT t q = some u ∧ K03.kdT u' = K03.kdT u ∧ (isVal u = true → u' = u) ∧ ∃ p, rowT u' = (rowT u).filter p
  szs : szT t' ≤ szT t
theorem Part.refl (t : Tr) : Part t t := ⟨fun q u h => ⟨u, h, rfl, fun _ => rfl, fun _ => true, (List.filter_eq_self.mpr fun _ _ => rfl).symm⟩, Nat.le_refl _⟩
theorem Part.trans {a b c : Tr} (h : Part a b) (k : Part b c) : Part a c := ⟨fun q u hu => by
  obtain ⟨v, h1, h2, h3, p, h4⟩ := k.at_ q u hu
  obtain ⟨x, g1, g2, g3, p', g4⟩ := h.at_ q v h1
  exact ⟨x, g1, h2.trans g2, fun hx => by
    have hv := g3 hx
    subst hv
    exact h3 hx, fun z => p' z && p z, by rw [h4, g4, List.filter_filter]; exact List.filter_congr fun z _ => Bool.and_comm _ _⟩, Nat.le_trans k.szs h.szs⟩
theorem Part.none {t t' : Tr} (h : Part t t') {q : Pth} (k : atT t q = none) : atT t' q = none := by
  cases e : atT t' q with
  | none => rfl
  | some u =>
    obtain ⟨v, h1, _⟩ := h.at_ q u e
    rw [k] at h1
    cases h1
end BB
end CF
end
section
set_option maxRecDepth 100000
set_option maxHeartbeats 1000000
namespace CF
namespace BB
open PySem PySem.Spec PyProof.Rows L2
open OA (Lk1 Rch linksO prs keptO)
structure Fit (hs : Hs) : Prop where
  ag : Agree hs
  av : AgreeV hs
  ac : Acyc hs
structure Same (hs hs' : Hs) : Prop where
  nm : ∀ n, n ∈ namesH hs ↔ n ∈ namesH hs'
  lk : ∀ n ∈ namesH hs, lookH hs n = lookH hs' n
theorem Same.refl (hs : Hs) : Same hs hs := ⟨fun _ => Iff.rfl, fun _ _ => rfl⟩
theorem Same.symm {hs hs' : Hs} (s : Same hs hs') : Same hs' hs := ⟨fun n => (s.nm n).symm, fun n h => (s.lk n ((s.nm n).mpr h)).symm⟩
theorem Same.trans {a b c : Hs} (s : Same a b) (t : Same b c) : Same a c := ⟨fun n => (s.nm n).trans (t.nm n), fun n h => (s.lk n h).trans (t.lk n ((s.nm n).mp h))⟩
theorem Fit.same {hs hs' : Hs} (F : Fit hs) (s : Same hs hs') : Fit hs' := by
  refine ⟨fun n hn m hm q u v hu hv => ?_, fun n hn m hm q u v hu hv iv => ?_, F.ac.sub fun P a b l => ?_⟩
  · have hn := (s.nm n).mpr hn; have hm := (s.nm m).mpr hm
    rw [← s.lk n hn] at hu; rw [← s.lk m hm] at hv
    exact F.ag n hn m hm q u v hu hv
  · have hn := (s.nm n).mpr hn; have hm := (s.nm m).mpr hm
    rw [← s.lk n hn] at hu; rw [← s.lk m hm] at hv
    exact F.av n hn m hm q u v hu hv iv
  · obtain ⟨n, h1, h2, h3⟩ := lk_at.mp l
    have hn := (s.nm n).mpr h1
    rw [← s.lk n hn] at h2 h3
    exact .one (lk_at.mpr ⟨n, hn, h2, h3⟩)
section
variable [Voc]
theorem BdOk2.put {hs : Hs} (b : BdOk2 hs) {w : Str} {t : Tr} (W : WishOk w t) (fo : foundH hs w t = []) : BdOk2 (putH hs w (hdOf t)) := by
  have h := b.done W
  unfold hsDone at h
  rw [take_nil fo] at h
  exact h
end
end BB
end CF
end
section
set_option maxRecDepth 100000
set_option maxHeartbeats 1000000
namespace CF
namespace BB
open PySem PySem.Spec PyProof.Rows L2
open OA (Src DrawOk)
def nmsA : List Str := ["p", "pp", "q", "ss", "zfield", "a", "b", "c", "d", "e", "f", "g", "h", "l", "r", "s", "w", "x", "y", "z", "ma", "mb", "mc", "md", "me"]
def wrsA : List Str := ["a", "an", "ann", "b", "zz"]
theorem nmsA_ok : K03.nsOk nmsA := by
  have : nmsA.all (fun n => OA.nmOk n && PyData.strOk n) = true := by decide +kernel
  intro n hn
  exact Bool.and_eq_true_iff.mp (List.all_eq_true.mp this n hn)
theorem wrsA_ok : ∀ w ∈ wrsA, OA.nmOk w = true ∧ PyData.strOk w = true := by
  have : wrsA.all (fun n => OA.nmOk n && PyData.strOk n) = true := by decide +kernel
  intro n hn
  exact Bool.and_eq_true_iff.mp (List.all_eq_true.mp this n hn)
instance vocA : Voc := ⟨nmsA, nmsA_ok, by decide, wrsA, wrsA_ok, by decide⟩
end BB
end CF
end
section
set_option maxRecDepth 100000
namespace CF
open PySem PySem.Spec PyProof.Rows L2
local macro_rules
  | `(tactic| exists $es,*) => `(tactic| simp (disch := first | assumption | omega | (simp only [List.length_set, List.length_append, List.length_cons, List.length_nil]; omega)) only [↓wp_ok, ↓wp_ex, ↓wp_bind, ↓wp_guard, ↓wp_nox, ↓sp_nx, ↓sp_rt, ↓sp_bk, ↓sp_ct, ↓sp_ex, ↓sp_seq, ↓sp_thn, ↓sp_guard,
      ↓w_eC, ↓w_eVar, ↓w_aNil, ↓w_aCons, ↓w_eTup, ↓w_eTupP, ↓w_eLst, ↓w_eLstM, ↓w_eOp, ↓w_eChain, ↓w_asB, ↓w_tAnd, ↓w_tOr, ↓w_tNot, ↓w_eTru, ↓w_eIf, ↓w_sNext, ↓w_sSeq, ↓w_sRet, ↓w_sRetN, ↓w_sIf, ↓w_sSet, ↓w_sDrop, ↓w_sBreak, ↓w_sCont, ↓w_gNm, ↓w_gsNil, ↓w_gsCons, ↓w_gTp, ↓w_sAsg, ↓w_eOne, ↓w_eUn, ↓w_eCB, ↓w_one, ↓w_eCall, ↓w_eAnd, ↓w_eOr, ↓w_eNot, ↓w_iSeq, ↓w_eLc, ↓w_mkF, ↓w_mkM, ↓w_tYes, ↓w_eMt, ↓w_eMt0, ↓w_iRg1, ↓w_sPut, ↓w_gPut, ↓w_sPar2, ↓w_sPar3, ↓w_sAugD, ↓w_eDict0, ↓w_mkKF, ↓w_mkKM, ↓w_eRev, ↓w_eGet2, ↓w_eLenSet2, ↓w_iEn, ↓w_iZp, ↓w_eCm, ↓w_cmDn, ↓w_cmDc, ↓w_eFld, ↓w_eMeth, ↓w_eMethK, ↓w_eMake, ↓w_sFldD, ↓w_sRaise, ↓w_sAugE, insOf_ins, putFD_nil, lstX_l, List.lookup_cons, List.lookup_nil, ↓w_emLd, ↓w_emKd, keyD_str, keyD_int, dKOf_dK, dKOf_ref, celL_ref, celD_ref, lstIts_lst, tupIts_tup, dEqT_str, dNeT_str, tupIts_pt, tupIts_lst, tupIts_scr, tupIts_ref, strsOf_map,
      wipeD_nil, wipeD_cons, List.cons_append, List.nil_append, List.append_nil, ap_setI, eSl_ap, eOpt_none, eOpt_some,
      List.getElem?_cons_zero, List.getElem?_cons_succ, List.set_cons_zero, List.set_cons_succ, List.length_cons, List.length_nil, List.length_set, Nat.zero_add, Nat.reduceAdd, Nat.reduceSub, Nat.add_one_sub_one, List.length_append,
      itsD_tup, itsD_pt, itsD_lst, itsD_scr, dIx_tup, dIx_pt, dIx_lst, dIx_scr, atI_0, atI_1, atI_2, dAdd_int, dAdd_tup, dAdd_pt, dAdd_lst, dAdd_str, dInt_int, dInt_bl, dStr_int, dStr_str, dIsi_ap, dLen_lst, dLen_tup, dLen_pt, dLen_scr, dIsN_non, dNotN_non, dNeg_ap, dIB_ap, dI_ap,
      dEq_int, dNe_int, truD_bl, truD_non, truD_int, dSl_tup, dSl_pt, dSl_lst, dSl_scr, dTupP_lst, decide_true, decide_false, if_true, if_false, Bool.false_eq_true, Bool.not_true, Bool.not_false, eq_self, true_and, and_true, sz_le, sz_lt, rngIts_items, rngIts_chk, beq_self_eq_true, R.bind_ok, R.nox_ok, tyM_ref, mAppend_ref, mExtend_ref, ge1, ge2a, ge2b, ge3a, ge3b, ge3c, ge3d, st1, st2a, st2b, st3a, st3b, st3c, st3d, tyN, Bool.and_self, Bool.and_true, Bool.true_and, Bool.and_false, Bool.false_and, Bool.or_true, Bool.true_or, Bool.or_false, Bool.false_or, Int.reduceLT, Int.reduceLE, Int.reduceGT, Int.reduceNeg, Int.reduceAdd, Int.reduceSub, Int.reduceBEq, Int.reduceBNe, Int.reduceEq, Int.reduceToNat, Nat.reduceEqDiff, Nat.reduceLeDiff, reduceCtorEq, Int.natCast_zero, Int.cast_ofNat_Int, Int.lt_irrefl, List.map_nil, decide_eq_true_eq,
      isi_NoneType_int, isi_NoneType_str, isi_NoneType_bool, isi_NoneType_tuple, isi_NoneType_list, isi_NoneType_dict, isi_bool_int, isi_bool_str, isi_bool_bool, isi_bool_tuple, isi_bool_list, isi_bool_dict, isi_int_int, isi_int_str, isi_int_bool, isi_int_tuple, isi_int_list, isi_int_dict, isi_str_int, isi_str_str, isi_str_bool, isi_str_tuple, isi_str_list, isi_str_dict, isi_tuple_int, isi_tuple_str, isi_tuple_bool, isi_tuple_tuple, isi_tuple_list, isi_tuple_dict, isi_list_int, isi_list_str, isi_list_bool, isi_list_tuple, isi_list_list, isi_list_dict, isi_dict_int, isi_dict_str, isi_dict_bool, isi_dict_tuple, isi_dict_list, isi_dict_dict, $[$es:term],*])
  | `(tactic| and_intros) => `(tactic| (rw [wp_def]; simp only [startD, List.map_cons, List.map_nil, List.length_cons, List.length_nil, Nat.zero_add, Nat.reduceAdd, Nat.reduceSub, List.replicate, List.cons_append, List.nil_append]))
section
set_option maxRecDepth 100000
set_option maxHeartbeats 4000000
namespace BB
open PySem PySem.Spec PyProof.Rows L2
variable [Voc]
structure Left (hs hs' : Hs) (gone : Str → Prop) : Prop where
  ok : HsOk nms hs'
  nm : ∀ n ∈ namesH hs', n ∈ namesH hs
  lk : ∀ n ∈ namesH hs', lookH hs' n = lookH hs n
  no : ∀ n, gone n → n ∉ namesH hs'
theorem Left.drop {hs hs' : Hs} {gone : Str → Prop} (l : Left hs hs' gone) (n : Str) : Left hs (dropH hs' n) fun m => gone m ∨ m = n :=
  ⟨l.ok.drop n, fun m hm => l.nm m (names_drop_mem.mp hm).1, fun m hm => by
    have := names_drop_mem.mp hm
    rw [look_drop this.2]; exact l.lk m this.1, fun m hm h => by
    have h := names_drop_mem.mp h
    rcases hm with hm | hm
    · exact l.no m hm h.1
    · exact h.2 hm⟩
theorem Left.same {hs hs' : Hs} {gone : Str → Prop} (l : Left hs hs' gone) {n : Str} (hn : n ∉ namesH hs') : Left hs hs' fun m => gone m ∨ m = n :=
  ⟨l.ok, l.nm, l.lk, fun m hm h => hm.elim (fun hm => l.no m hm h) fun e => hn (e ▸ h)⟩
theorem Left.of {hs hs' : Hs} {g1 g2 : Str → Prop} (l : Left hs hs' g1) (h : ∀ n, g2 n → g1 n) : Left hs hs' g2 := ⟨l.ok, l.nm, l.lk, fun n hn => l.no n (h n hn)⟩
end BB
end
section
set_option maxRecDepth 100000
set_option maxHeartbeats 4000000
namespace BB
open PySem PySem.Spec PyProof.Rows L2
open OA (Src DrawOk)
theorem BdOk.nil : BdOk [] := ⟨⟨List.nodup_nil, Nat.zero_le _, fun _ h => absurd h List.not_mem_nil, fun _ h => absurd h List.not_mem_nil⟩, agree_nil, fun _ h => absurd h List.not_mem_nil⟩
theorem BdOk.drop {hs : Hs} (b : BdOk hs) (n : Str) : BdOk (dropH hs n) := ⟨b.ok.drop n, agree_drop b.ag n, fun m hm => b.nm m (names_drop_mem.mp hm).1⟩
theorem BdOk.less {hs : Hs} (b : BdOk hs) {n : Str} (hn : n ∈ namesH hs) {p : Pth} (hp : p ≠ []) : BdOk (putH hs n ((lookH hs n).less p)) :=
  ⟨b.ok.put (b.ok.nm n hn) ((look_ok b.ok hn).less p hp) (.inl hn), agree_less b.ag hn hp, fun m hm => (mem_put_names.mp hm).elim (fun h => b.nm m h) fun e => b.nm m (e ▸ hn)⟩
theorem BAt.upd {CB CH : Addr} {G : GH} {n m : Nat} {hs : Hs} (B : BAt CB CH G n m hs) (hs' : Hs) : BAt CB CH (G.set m (.dK (encHs CH hs'))) n m hs' :=
  ⟨B.ne, by rw [List.getElem?_set_ne B.ne]; exact B.b, by rw [List.getElem?_set_self B.ltm]⟩
theorem BAt.set {CB CH : Addr} {G : GH} {n m : Nat} {hs : Hs} (B : BAt CB CH G n m hs) {i : Nat} (h1 : i ≠ n) (h2 : i ≠ m) (c : Cell) : BAt CB CH (G.set i c) n m hs :=
  ⟨B.ne, by rw [List.getElem?_set_ne h1]; exact B.b, by rw [List.getElem?_set_ne h2]; exact B.h⟩
theorem cut_mapD {α β : Type} (f : α → β) (xs : List α) (lo hi : Option Int) : cutD (xs.map f) lo hi = (cutD xs lo hi).map f := by
  unfold cutD
  rw [List.length_map, List.map_take, List.map_drop]
theorem cut_lenD {α : Type} (xs : List α) (lo hi : Option Int) : (cutD xs lo hi).length ≤ xs.length := by
  unfold cutD
  rw [List.length_take, List.length_drop]
  omega
end BB
end
section
set_option maxRecDepth 100000
set_option maxHeartbeats 4000000
namespace BB
open PySem PySem.Spec PyProof.Rows L2
open OA (Src DrawOk)
theorem BAt.well {CB C : Addr} {G : GH} {n m : Nat} {hs : Hs} (B : BAt CB C G n m hs) {iw : Nat} {w : Src} (h : G[iw]? = some w.cell) : iw ≠ n ∧ iw ≠ m :=
  ⟨(fun e => by have h2 := B.b; rw [← e, h] at h2; cases h2), (fun e => by have h2 := B.h; rw [← e, h] at h2; cases h2)⟩
end BB
end
end CF
end
section
set_option maxRecDepth 100000
set_option maxHeartbeats 1000000
namespace CF
namespace BB
open PySem PySem.Spec PyProof.Rows L2
open OA (Lk1 Rch linksO prs keptO)
structure SameC (hs hs' : Hs) : Prop where
  nm : ∀ n, n ∈ namesH hs ↔ n ∈ namesH hs'
  tr : ∀ n ∈ namesH hs, (lookH hs n).tr = (lookH hs' n).tr
  od : ∀ n ∈ namesH hs, ∀ p, p ∈ (lookH hs n).od ↔ p ∈ (lookH hs' n).od
theorem Same.c {hs hs' : Hs} (s : Same hs hs') : SameC hs hs' := ⟨s.nm, fun n h => by rw [s.lk n h], fun n h p => by rw [s.lk n h]⟩
theorem SameC.refl (hs : Hs) : SameC hs hs := (Same.refl hs).c
theorem SameC.symm {hs hs' : Hs} (s : SameC hs hs') : SameC hs' hs := ⟨fun n => (s.nm n).symm, fun n h => (s.tr n ((s.nm n).mpr h)).symm, fun n h p => (s.od n ((s.nm n).mpr h) p).symm⟩
theorem Fit.sub {hs hs' : Hs} (F : Fit hs) (nm : ∀ n ∈ namesH hs', n ∈ namesH hs) (tr : ∀ n ∈ namesH hs', (lookH hs' n).tr = (lookH hs n).tr) (od : ∀ n ∈ namesH hs', ∀ p, p ∈ (lookH hs' n).od → p ∈ (lookH hs n).od) : Fit hs' := by
  refine ⟨fun n hn m hm q u v hu hv => ?_, fun n hn m hm q u v hu hv iv => ?_, F.ac.sub fun P a b l => ?_⟩
  · rw [tr n hn] at hu; rw [tr m hm] at hv
    exact F.ag n (nm n hn) m (nm m hm) q u v hu hv
  · rw [tr n hn] at hu; rw [tr m hm] at hv
    exact F.av n (nm n hn) m (nm m hm) q u v hu hv iv
  · obtain ⟨n, h1, h2, h3⟩ := lk_at.mp l
    rw [tr n h1] at h3
    exact .one (lk_at.mpr ⟨n, nm n h1, od n h1 P h2, h3⟩)
section
variable [Voc] {hs : Hs} {a c : Str} {x y : Tr}
theorem BdOk2.drop (b : BdOk2 hs) (n : Str) : BdOk2 (dropH hs n) := by
  have mem : ∀ m, m ∈ namesH (dropH hs n) → m ∈ namesH hs ∧ lookH (dropH hs n) m = lookH hs m := fun m h => by
    obtain ⟨h1, h2⟩ := names_drop_mem.mp h
    exact ⟨h1, look_drop h2⟩
  refine ⟨⟨b.b.ok.drop n, agree_drop b.b.ag n, fun m h => b.b.nm m (mem m h).1⟩, fun m h => ?_, acyc_drop b.ac n, fun k hk m hm q u v hu hv => ?_, fun m h => ?_⟩
  · rw [(mem m h).2]; exact b.inn m (mem m h).1
  · rw [(mem k hk).2] at hu; rw [(mem m hm).2] at hv
    exact b.av k (mem k hk).1 m (mem m hm).1 q u v hu hv
  · rw [(mem m h).2]; exact b.nd m (mem m h).1
end
end BB
end CF
end
section
set_option maxRecDepth 100000
set_option maxHeartbeats 1000000
namespace CF
namespace BB
open PySem PySem.Spec PyProof.Rows L2
theorem leW_eq (a b : Pth) : PySem.W.dataLe false pyW a b = PySem.W.dataLe false CF.pyT (a.map Sum.inr) (b.map Sum.inr) := by
  have h : ∀ p : Pth, pyW p = CF.pyT (p.map Sum.inr) := fun p => by
    unfold pyW CF.pyT
    rw [List.map_map]
    rfl
  unfold PySem.W.dataLe PySem.W.sortLe
  dsimp only
  rw [h a, h b]
theorem isR (p : Pth) : ∀ k ∈ p.map (Sum.inr : Str → Key), k.isRight = true := fun k hk => by
  obtain ⟨x, _, rfl⟩ := List.mem_map.mp hk
  rfl
theorem leW_anti {a b : Pth} (h1 : PySem.W.dataLe false pyW a b = true) (h2 : PySem.W.dataLe false pyW b a = true) : a = b := by
  rw [leW_eq] at h1 h2
  have := tupLe_anti (isR a) (isR b) h1 h2
  clear h1 h2
  induction a generalizing b with
  | nil => cases b with
    | nil => rfl
    | cons => cases this
  | cons x a ih => cases b with
    | nil => cases this
    | cons y b =>
      injection this with e1 e2
      injection e1 with e1
      rw [e1, ih e2]
theorem leW_total : PySem.W.TotalLe (PySem.W.dataLe false pyW) := by
  have t := tupLe_total
  constructor
  · intro a b c
    rw [leW_eq, leW_eq, leW_eq]
    exact t.1 _ _ _
  · intro a b
    rw [leW_eq, leW_eq]
    exact t.2 _ _
theorem sortW_perm (ps : List Pth) : (sortW ps).Perm ps := List.mergeSort_perm _ _
theorem mem_heldL {h : Hd} {p : Pth} (i : HdIn h) : p ∈ heldL h ↔ p ∈ h.od := by
  unfold heldL
  rw [(sortW_perm _).mem_iff, List.mem_filter]
  exact ⟨fun z => of_decide_eq_true z.2, fun z => ⟨i p z, decide_eq_true z⟩⟩
end BB
end CF
end
section
set_option maxRecDepth 100000
set_option maxHeartbeats 1000000
namespace CF
namespace BB
open PySem PySem.Spec PyProof.Rows L2
def lePt (a b : Pth × Tr) : Bool := PySem.W.dataLe false (fun q : Pth × Tr => pyW q.1) a b
def ndS (t : Tr) : List (Pth × Tr) := (K03.ndT [] t).mergeSort lePt
theorem ndS_mem {t : Tr} {q : Pth × Tr} : q ∈ ndS t ↔ q ∈ K03.ndT [] t := List.mem_mergeSort
theorem ndS_at {ns : List Str} {t : Tr} (ok : okT ns 6 t) {q : Pth × Tr} : q ∈ ndS t ↔ atT t q.1 = some q.2 := by
  rw [ndS_mem]
  constructor
  · intro h
    obtain ⟨s, e, h⟩ := nd_inv 6 t [] q ok h
    rw [List.nil_append] at e
    rw [e]; exact h
  · intro h
    have := nd_at 6 t [] q.1 q.2 ok h
    rwa [List.nil_append] at this
end BB
end CF
end
section
set_option maxRecDepth 100000
namespace CF
open PySem PySem.Spec PyProof.Rows L2
local macro_rules
  | `(tactic| exists $es,*) => `(tactic| simp (disch := first | assumption | omega | (simp only [List.length_set, List.length_append, List.length_cons, List.length_nil]; omega)) only [↓wp_ok, ↓wp_ex, ↓wp_bind, ↓wp_guard, ↓wp_nox, ↓sp_nx, ↓sp_rt, ↓sp_bk, ↓sp_ct, ↓sp_ex, ↓sp_seq, ↓sp_thn, ↓sp_guard,
      ↓w_eC, ↓w_eVar, ↓w_aNil, ↓w_aCons, ↓w_eTup, ↓w_eTupP, ↓w_eLst, ↓w_eLstM, ↓w_eOp, ↓w_eChain, ↓w_asB, ↓w_tAnd, ↓w_tOr, ↓w_tNot, ↓w_eTru, ↓w_eIf, ↓w_sNext, ↓w_sSeq, ↓w_sRet, ↓w_sRetN, ↓w_sIf, ↓w_sSet, ↓w_sDrop, ↓w_sBreak, ↓w_sCont, ↓w_gNm, ↓w_gsNil, ↓w_gsCons, ↓w_gTp, ↓w_sAsg, ↓w_eOne, ↓w_eUn, ↓w_eCB, ↓w_one, ↓w_eCall, ↓w_eAnd, ↓w_eOr, ↓w_eNot, ↓w_iSeq, ↓w_eLc, ↓w_mkF, ↓w_mkM, ↓w_tYes, ↓w_eMt, ↓w_eMt0, ↓w_iRg1, ↓w_sPut, ↓w_sPutX, ↓w_eDict0X, ↓w_iKyX, itsX_dT, ↓w_gPut, ↓w_sPar2, ↓w_sPar3, ↓w_sAugD, ↓w_eDict0, ↓w_mkKF, ↓w_mkKM, ↓w_eRev, ↓w_eGet2, ↓w_eLenSet2, ↓w_iEn, ↓w_iZp, ↓w_eCm, ↓w_cmDn, ↓w_cmDc, ↓w_eFld, ↓w_eMeth, ↓w_eMethK, ↓w_eMake, ↓w_sFldD, ↓w_sRaise, ↓w_sAugE, insOf_ins, putFD_nil, lstX_l, List.lookup_cons, List.lookup_nil, ↓w_emLd, ↓w_emKd, keyD_str, keyD_int, dKOf_dK, dKOf_ref, celL_ref, celD_ref, lstIts_lst, tupIts_tup, dEqT_str, dNeT_str, tupIts_pt, tupIts_lst, tupIts_scr, tupIts_ref, strsOf_map,
      wipeD_nil, wipeD_cons, List.cons_append, List.nil_append, List.append_nil, ap_setI, eSl_ap, eOpt_none, eOpt_some,
      List.getElem?_cons_zero, List.getElem?_cons_succ, List.set_cons_zero, List.set_cons_succ, List.length_cons, List.length_nil, List.length_set, Nat.zero_add, Nat.reduceAdd, Nat.reduceSub, Nat.add_one_sub_one, List.length_append,
      itsD_tup, itsD_pt, itsD_lst, itsD_scr, dIx_tup, dIx_pt, dIx_lst, dIx_scr, atI_0, atI_1, atI_2, dAdd_int, dAdd_tup, dAdd_pt, dAdd_lst, dAdd_str, dInt_int, dInt_bl, dStr_int, dStr_str, dIsi_ap, dLen_lst, dLen_tup, dLen_pt, dLen_scr, dIsN_non, dNotN_non, dNeg_ap, dIB_ap, dI_ap,
      dEq_int, dNe_int, truD_bl, truD_non, truD_int, dSl_tup, dSl_pt, dSl_lst, dSl_scr, dTupP_lst, decide_true, decide_false, if_true, if_false, Bool.false_eq_true, Bool.not_true, Bool.not_false, eq_self, true_and, and_true, sz_le, sz_lt, rngIts_items, rngIts_chk, beq_self_eq_true, R.bind_ok, R.nox_ok, tyM_ref, mAppend_ref, mExtend_ref, ge1, ge2a, ge2b, ge3a, ge3b, ge3c, ge3d, st1, st2a, st2b, st3a, st3b, st3c, st3d, tyN, Bool.and_self, Bool.and_true, Bool.true_and, Bool.and_false, Bool.false_and, Bool.or_true, Bool.true_or, Bool.or_false, Bool.false_or, Int.reduceLT, Int.reduceLE, Int.reduceGT, Int.reduceNeg, Int.reduceAdd, Int.reduceSub, Int.reduceBEq, Int.reduceBNe, Int.reduceEq, Int.reduceToNat, Nat.reduceEqDiff, Nat.reduceLeDiff, reduceCtorEq, Int.natCast_zero, Int.cast_ofNat_Int, Int.lt_irrefl, List.map_nil, decide_eq_true_eq,
      isi_NoneType_int, isi_NoneType_str, isi_NoneType_bool, isi_NoneType_tuple, isi_NoneType_list, isi_NoneType_dict, isi_bool_int, isi_bool_str, isi_bool_bool, isi_bool_tuple, isi_bool_list, isi_bool_dict, isi_int_int, isi_int_str, isi_int_bool, isi_int_tuple, isi_int_list, isi_int_dict, isi_str_int, isi_str_str, isi_str_bool, isi_str_tuple, isi_str_list, isi_str_dict, isi_tuple_int, isi_tuple_str, isi_tuple_bool, isi_tuple_tuple, isi_tuple_list, isi_tuple_dict, isi_list_int, isi_list_str, isi_list_bool, isi_list_tuple, isi_list_list, isi_list_dict, isi_dict_int, isi_dict_str, isi_dict_bool, isi_dict_tuple, isi_dict_list, isi_dict_dict, $[$es:term],*])
  | `(tactic| and_intros) => `(tactic| (rw [wp_def]; simp only [startD, List.map_cons, List.map_nil, List.length_cons, List.length_nil, Nat.zero_add, Nat.reduceAdd, Nat.reduceSub, List.replicate, List.cons_append, List.nil_append]))
section
set_option maxRecDepth 100000
set_option maxHeartbeats 4000000
namespace BB
open PySem PySem.Spec PyProof.Rows L2 OA
def pK (p : Pth) : List Key := p.map .inr
def nodeD (t : Tr) : D := match t with
  | .node m _ => .tup [.str (kindS m)]
  | t => encT t
def namD (t : Tr) : D := .lst ((rowT t).map D.str)
abbrev NL := List (Pth × Tr)
def nodesX (l : NL) : List (List Key × D) := l.map fun q => (pK q.1, nodeD q.2)
def namesX (l : NL) : List (List Key × D) := (l.filter fun q => !isVal q.2).map fun q => (pK q.1, namD q.2)
def listsX (l : NL) : List D := (l.filter fun q => isL q.2).map fun q => encW q.1
def hpX (pw : PW) (G : GH) (l : NL) : GH := G ++ [.dK [(.inr "nodes", .ref (G.length + 1)), (.inr "names", .ref (G.length + 2)), (.inr "ordered", .ref (G.length + 3))], .dT pw none (nodesX l), .dT pw none (namesX l), .lst (listsX l)]
theorem hp0 (pw : PW) (G : GH) (l : NL) : (hpX pw G l)[G.length]? = some (.dK [(.inr "nodes", .ref (G.length + 1)), (.inr "names", .ref (G.length + 2)), (.inr "ordered", .ref (G.length + 3))]) := by unfold hpX; rw [List.getElem?_append_right (Nat.le_refl _), Nat.sub_self]; rfl
theorem hp1 (G : GH) (c0 c1 c2 c3 : Cell) : (G ++ [c0, c1, c2, c3])[G.length + 1]? = some c1 := by rw [List.getElem?_append_right (by omega), show G.length + 1 - G.length = 1 by omega]; rfl
theorem hp2 (G : GH) (c0 c1 c2 c3 : Cell) : (G ++ [c0, c1, c2, c3])[G.length + 2]? = some c2 := by rw [List.getElem?_append_right (by omega), show G.length + 2 - G.length = 2 by omega]; rfl
theorem hp3 (G : GH) (c0 c1 c2 c3 : Cell) : (G ++ [c0, c1, c2, c3])[G.length + 3]? = some c3 := by rw [List.getElem?_append_right (by omega), show G.length + 3 - G.length = 3 by omega]; rfl
theorem hs2 (G : GH) (c0 c1 c2 c3 c : Cell) : (G ++ [c0, c1, c2, c3]).set (G.length + 2) c = G ++ [c0, c1, c, c3] := by rw [List.set_append_right _ _ (by omega), show G.length + 2 - G.length = 2 by omega]; rfl
theorem sl : PyData.strOk ("list" : Str) = true := by decide +kernel
theorem ndP_app (p : Pth) : ∀ xs ys : List (Str × Tr), K03.ndP p (xs ++ ys) = K03.ndP p xs ++ K03.ndP p ys
  | [], _ => rfl
  | x :: xs, ys => by
    obtain ⟨n, t⟩ := x
    show K03.ndT (p ++ [n]) t ++ K03.ndP p (xs ++ ys) = (K03.ndT (p ++ [n]) t ++ K03.ndP p xs) ++ K03.ndP p ys
    rw [ndP_app p xs ys, List.append_assoc]
end BB
end
section
set_option maxRecDepth 100000
set_option maxHeartbeats 4000000
namespace BB
open PySem PySem.Spec PyProof.Rows L2 OA
def hdD (pw : PW) (h : Hd) : List (Key × D) := [(.inr "nodes", .dT pw (nodesX (K03.ndT [] h.tr))), (.inr "names", .dT pw (namesX (K03.ndT [] h.tr))), (.inr "ordered", .lst (h.od.map encW))]
end BB
end
section
set_option maxRecDepth 100000
set_option maxHeartbeats 4000000
namespace BB
open PySem PySem.Spec PyProof.Rows L2 OA
theorem RS.eqn {r : RS} {δ2 : DEnv} {G2 : GH} (h : r.wp (fun δ G => δ = δ2 ∧ G = G2) (fun _ _ => False) (fun _ _ => False) (fun _ _ => False) (fun _ _ _ => False)) : r = .nx δ2 G2 := by
  cases r with
  | nx δ G => obtain ⟨rfl, rfl⟩ := (show δ = δ2 ∧ G = G2 from h); rfl
  | rt d G => exact (show False from h).elim
  | bk δ G => exact (show False from h).elim
  | ct δ G => exact (show False from h).elim
  | ex x δ G => exact (show False from h).elim
  | no => exact (show False from h).elim
end BB
end
end CF
end
section
set_option maxRecDepth 100000
namespace CF
open PySem PySem.Spec PyProof.Rows L2
local macro_rules
  | `(tactic| exists $es,*) => `(tactic| simp (disch := first | assumption | omega | (simp only [List.length_set, List.length_append, List.length_cons, List.length_nil]; omega)) only [↓wp_ok, ↓wp_ex, ↓wp_bind, ↓wp_guard, ↓wp_nox, ↓sp_nx, ↓sp_rt, ↓sp_bk, ↓sp_ct, ↓sp_ex, ↓sp_seq, ↓sp_thn, ↓sp_guard,
      ↓w_eC, ↓w_eVar, ↓w_aNil, ↓w_aCons, ↓w_eTup, ↓w_eTupP, ↓w_eLst, ↓w_eLstM, ↓w_eOp, ↓w_eChain, ↓w_asB, ↓w_tAnd, ↓w_tOr, ↓w_tNot, ↓w_eTru, ↓w_eIf, ↓w_sNext, ↓w_sSeq, ↓w_sRet, ↓w_sRetN, ↓w_sIf, ↓w_sSet, ↓w_sDrop, ↓w_sBreak, ↓w_sCont, ↓w_gNm, ↓w_gsNil, ↓w_gsCons, ↓w_gTp, ↓w_sAsg, ↓w_eOne, ↓w_eUn, ↓w_eCB, ↓w_one, ↓w_eCall, ↓w_eAnd, ↓w_eOr, ↓w_eNot, ↓w_iSeq, ↓w_eLc, ↓w_mkF, ↓w_mkM, ↓w_tYes, ↓w_eMt, ↓w_eMt0, ↓w_iRg1, ↓w_sPut, ↓w_gPut, ↓w_sPar2, ↓w_sPar3, ↓w_sAugD, ↓w_eDict0, ↓w_mkKF, ↓w_mkKM, ↓w_eRev, ↓w_eGet2, ↓w_eLenSet2, ↓w_iEn, ↓w_iZp, ↓w_eCm, ↓w_cmDn, ↓w_cmDc, ↓w_eFld, ↓w_eMeth, ↓w_eMethK, ↓w_eMake, ↓w_sFldD, ↓w_sRaise, ↓w_sAugE, insOf_ins, putFD_nil, lstX_l, List.lookup_cons, List.lookup_nil, ↓w_emLd, ↓w_emKd, keyD_str, keyD_int, dKOf_dK, dKOf_ref, celL_ref, celD_ref, lstIts_lst, tupIts_tup, dEqT_str, dNeT_str, tupIts_pt, tupIts_lst, tupIts_scr, tupIts_ref, strsOf_map,
      wipeD_nil, wipeD_cons, List.cons_append, List.nil_append, List.append_nil, ap_setI, eSl_ap, eOpt_none, eOpt_some,
      List.getElem?_cons_zero, List.getElem?_cons_succ, List.set_cons_zero, List.set_cons_succ, List.length_cons, List.length_nil, List.length_set, Nat.zero_add, Nat.reduceAdd, Nat.reduceSub, Nat.add_one_sub_one, List.length_append,
      itsD_tup, itsD_pt, itsD_lst, itsD_scr, dIx_tup, dIx_pt, dIx_lst, dIx_scr, atI_0, atI_1, atI_2, dAdd_int, dAdd_tup, dAdd_pt, dAdd_lst, dAdd_str, dInt_int, dInt_bl, dStr_int, dStr_str, dIsi_ap, dLen_lst, dLen_tup, dLen_pt, dLen_scr, dIsN_non, dNotN_non, dNeg_ap, dIB_ap, dI_ap,
      dEq_int, dNe_int, truD_bl, truD_non, truD_int, dSl_tup, dSl_pt, dSl_lst, dSl_scr, dTupP_lst, decide_true, decide_false, if_true, if_false, Bool.false_eq_true, Bool.not_true, Bool.not_false, eq_self, true_and, and_true, sz_le, sz_lt, rngIts_items, rngIts_chk, beq_self_eq_true, R.bind_ok, R.nox_ok, tyM_ref, mAppend_ref, mExtend_ref, ge1, ge2a, ge2b, ge3a, ge3b, ge3c, ge3d, st1, st2a, st2b, st3a, st3b, st3c, st3d, tyN, Bool.and_self, Bool.and_true, Bool.true_and, Bool.and_false, Bool.false_and, Bool.or_true, Bool.true_or, Bool.or_false, Bool.false_or, Int.reduceLT, Int.reduceLE, Int.reduceGT, Int.reduceNeg, Int.reduceAdd, Int.reduceSub, Int.reduceBEq, Int.reduceBNe, Int.reduceEq, Int.reduceToNat, Nat.reduceEqDiff, Nat.reduceLeDiff, reduceCtorEq, Int.natCast_zero, Int.cast_ofNat_Int, Int.lt_irrefl, List.map_nil, decide_eq_true_eq,
      isi_NoneType_int, isi_NoneType_str, isi_NoneType_bool, isi_NoneType_tuple, isi_NoneType_list, isi_NoneType_dict, isi_bool_int, isi_bool_str, isi_bool_bool, isi_bool_tuple, isi_bool_list, isi_bool_dict, isi_int_int, isi_int_str, isi_int_bool, isi_int_tuple, isi_int_list, isi_int_dict, isi_str_int, isi_str_str, isi_str_bool, isi_str_tuple, isi_str_list, isi_str_dict, isi_tuple_int, isi_tuple_str, isi_tuple_bool, isi_tuple_tuple, isi_tuple_list, isi_tuple_dict, isi_list_int, isi_list_str, isi_list_bool, isi_list_tuple, isi_list_list, isi_list_dict, isi_dict_int, isi_dict_str, isi_dict_bool, isi_dict_tuple, isi_dict_list, isi_dict_dict, $[$es:term],*])
  | `(tactic| and_intros) => `(tactic| (rw [wp_def]; simp only [startD, List.map_cons, List.map_nil, List.length_cons, List.length_nil, Nat.zero_add, Nat.reduceAdd, Nat.reduceSub, List.replicate, List.cons_append, List.nil_append]))
section
set_option maxRecDepth 100000
set_option maxHeartbeats 4000000
namespace BB
open PySem PySem.Spec PyProof.Rows L2
open OA (Src DrawOk)
structure Nr (t : Tr) : Prop where
  ok : okT nms 6 t
  sz : szT t ≤ 40
  mp : ∃ ps, t = .node true ps ∧ (∀ p ∈ ps, p.1 ∈ four ∨ p.1 = ("zfield" : Str)) ∧ ((ps.filter fun p => decide (p.1 ≠ ("zfield" : Str))).map fun p => 1 + szT p.2).sum ≤ 39
theorem sum_sub {α : Type} (f : α → Nat) {xs ys : List α} (h : xs.Sublist ys) : (xs.map f).sum ≤ (ys.map f).sum := by
  induction h with
  | slnil => exact Nat.le_refl _
  | cons a _ ih => rw [List.map_cons, List.sum_cons]; omega
  | cons_cons a _ ih => rw [List.map_cons, List.map_cons, List.sum_cons, List.sum_cons]; omega
theorem Nr.sub {ps qs : List (Str × Tr)} (h : Nr (.node true ps)) (s : qs.Sublist ps) : Nr (.node true qs) := by
  obtain ⟨h1, h2, ps', e, h3, h4⟩ := h
  cases e
  obtain ⟨a, b, c, d⟩ := h1
  refine ⟨⟨a.sublist (s.map _), fun n hn => b n ((s.map _).subset hn), fun _ => (c rfl).sublist (s.map _), fun p hp => d p (s.subset hp)⟩, ?_, qs, rfl, fun p hp => h3 p (s.subset hp), Nat.le_trans (sum_sub _ (s.filter _)) h4⟩
  rw [szT_node] at h2 ⊢
  exact Nat.le_trans (sum_sub _ s) h2
theorem z_str : PyData.strOk "zfield" = true := by decide +kernel
end BB
end
section
set_option maxRecDepth 100000
set_option maxHeartbeats 4000000
namespace BB
open PySem PySem.Spec PyProof.Rows L2
theorem prs_mem {r : List Str} {p : Str × Str} (h : p ∈ OA.prs r) : p.1 ∈ r ∧ p.2 ∈ r := by
  unfold OA.prs at h
  have h' : (p.1, p.2) ∈ r.zip r.tail := h
  exact ⟨(List.of_mem_zip h').1, List.mem_of_mem_tail (List.of_mem_zip h').2⟩
end BB
end
end CF
end
section
set_option maxRecDepth 100000
set_option maxHeartbeats 1000000
namespace CF
namespace BB
open PySem PySem.Spec PyProof.Rows L2
def keyO (o : Oth) : Str × (Pth → Bool) × Tr := (o.1, fun p => decide (p ∈ o.2.1.od), o.2.2)
theorem map_filter_key {α β : Type} (f : α → β) (p : β → Bool) (l : List α) : (l.filter fun a => p (f a)).map f = (l.map f).filter p := by
  rw [List.filter_map]; rfl
theorem unK_key {t : Tr} {os os' : List Oth} (h : os.map keyO = os'.map keyO) : unK t os = unK t os' := by
  have e : ∀ os : List Oth, unK t os = ((os.map keyO).filter fun k => decide (K03.kdT k.2.2 ≠ K03.kdT t)).map (·.1) := fun os => by
    unfold unK
    rw [← map_filter_key keyO (fun k => decide (K03.kdT k.2.2 ≠ K03.kdT t)), List.map_map]; rfl
  rw [e, e, h]
open Classical in
theorem unV_key {t : Tr} {os os' : List Oth} (h : os.map keyO = os'.map keyO) : unV t os = unV t os' := by
  have e : ∀ os : List Oth, unV t os = ((os.map keyO).filter fun k => decide (k.2.2 ≠ t)).map (·.1) := fun os => by
    unfold unV
    rw [← map_filter_key keyO (fun k => decide (k.2.2 ≠ t)), List.map_map]
    show List.map _ _ = List.map (fun o : Oth => o.1) _
    congr 1
  rw [e, e, h]
theorem heldO_key {P : Pth} {os os' : List Oth} (h : os.map keyO = os'.map keyO) : (heldO P os).map keyO = (heldO P os').map keyO := by
  have e : ∀ os : List Oth, (heldO P os).map keyO = (os.map keyO).filter fun k => k.2.1 P := fun os => by
    unfold heldO
    rw [← map_filter_key keyO (fun k => k.2.1 P)]; rfl
  rw [e, e, h]
theorem rowsO_key {t : Tr} {hs hs' : List Oth} (h : hs.map keyO = hs'.map keyO) : rowsO t hs = rowsO t hs' := by
  have e : ∀ hs : List Oth, rowsO t hs = (true, rowT t) :: (hs.map keyO).map fun k => (true, rowT k.2.2) := fun hs => by
    unfold rowsO; rw [List.map_map]; rfl
  rw [e, e, h]
theorem unO_key {t : Tr} {P : Pth} {os os' : List Oth} (h : os.map keyO = os'.map keyO) : unO t P os = unO t P os' := by
  have k := heldO_key (P := P) h
  have r := rowsO_key (t := t) k
  have e : ∀ (rows : List OA.Ord) (hs : List Oth), (((hs.zipIdx 1).filter fun q => onI rows q.2).map fun q => q.1.1) = ((((hs.map keyO).zipIdx 1).filter fun q => onI rows q.2).map fun q => q.1.1) := fun rows hs => by
    rw [List.zipIdx_map, List.filter_map, List.map_map]; rfl
  unfold unO
  rw [r, e, e, k]
theorem parts_key {n : Str} {os os' : List Oth} (h : os.map keyO = os'.map keyO) : (partsAt os n).map keyO = (partsAt os' n).map keyO := by
  have e : ∀ os : List Oth, (partsAt os n).map keyO = (os.map keyO).filterMap fun k => (lookP (kidsT k.2.2) n).map fun t => (k.1, k.2.1, t) := fun os => by
    unfold partsAt
    induction os with
    | nil => rfl
    | cons o r ih =>
      rw [List.filterMap_cons, List.map_cons, List.filterMap_cons]
      rw [show lookP (kidsT (keyO o).2.2) n = lookP (kidsT o.2.2) n from rfl]
      cases lookP (kidsT o.2.2) n with
      | none => exact ih
      | some u =>
        simp only [Option.map_some, List.map_cons]
        rw [ih]; rfl
  rw [e, e, h]
theorem lfT_key (t : Tr) (P : Pth) {os os' : List Oth} (h : os.map keyO = os'.map keyO) : lfT t P os = lfT t P os' := by
  cases t with
  | val i => show flt1 P "value" (unV _ os) = flt1 P "value" (unV _ os'); rw [unV_key h]
  | txt x => show flt1 P "value" (unV _ os) = flt1 P "value" (unV _ os'); rw [unV_key h]
  | node m ps => cases m with
    | true => rfl
    | false => show flt1 P "order" (unO _ P os) = flt1 P "order" (unO _ P os'); rw [unO_key h]
mutual
theorem nfT_key : ∀ (t : Tr) (P : Pth) (os os' : List Oth), os.map keyO = os'.map keyO → nfT t P os = nfT t P os'
  | .val i, P, os, os', h => by rw [nfT, nfT, unK_key h, lfT_key _ P h]
  | .txt x, P, os, os', h => by rw [nfT, nfT, unK_key h, lfT_key _ P h]
  | .node m ps, P, os, os', h => by rw [nfT, nfT, unK_key h, lfT_key _ P h, nfP_key ps P os os' h]
theorem nfP_key : ∀ (ps : List (Str × Tr)) (P : Pth) (os os' : List Oth), os.map keyO = os'.map keyO → nfP ps P os = nfP ps P os'
  | [], _, _, _, _ => by rw [nfP, nfP]
  | (n, t) :: r, P, os, os', h => by rw [nfP, nfP, nfT_key t (P ++ [n]) _ _ (parts_key h), nfP_key r P os os' h]
end
theorem look_no {hs : Hs} {n : Str} (h : n ∉ namesH hs) : lookH hs n = ⟨.node true [], []⟩ := by unfold lookH; rw [find_no h]
theorem SameC.trA {hs hs' : Hs} (s : SameC hs hs') (n : Str) : (lookH hs n).tr = (lookH hs' n).tr := by
  by_cases h : n ∈ namesH hs
  · exact s.tr n h
  · rw [look_no h, look_no fun z => h ((s.nm n).mpr z)]
theorem SameC.odA {hs hs' : Hs} (s : SameC hs hs') (n : Str) (p : Pth) : p ∈ (lookH hs n).od ↔ p ∈ (lookH hs' n).od := by
  by_cases h : n ∈ namesH hs
  · exact s.od n h p
  · rw [look_no h, look_no fun z => h ((s.nm n).mpr z)]
theorem SameC.names {hs hs' : Hs} (s : SameC hs hs') (h1 : (namesH hs).Nodup) (h2 : (namesH hs').Nodup) : sortS (namesH hs) = sortS (namesH hs') := by
  exact OA.sortS_same (OA.nd_perm h1 h2 fun n => s.nm n)
theorem found_same {hs hs' : Hs} (s : SameC hs hs') (h1 : (namesH hs).Nodup) (h2 : (namesH hs').Nodup) (w : Str) (t : Tr) : foundH hs w t = foundH hs' w t := by
  unfold foundH
  congr 1
  refine nfT_key t [] _ _ ?_
  unfold othersH
  rw [s.names h1 h2, List.map_map, List.map_map]
  refine List.map_congr_left fun n _ => ?_
  show keyO (n, lookH hs n, (lookH hs n).tr) = keyO (n, lookH hs' n, (lookH hs' n).tr)
  unfold keyO
  dsimp only
  rw [s.trA n]
  congr 2
  funext p
  exact decide_eq_decide.mpr (s.odA n p)
theorem SameC.put {hs hs' : Hs} (s : SameC hs hs') (n : Str) {X X' : Hd} (tr : X.tr = X'.tr) (od : ∀ p, p ∈ X.od ↔ p ∈ X'.od) : SameC (putH hs n X) (putH hs' n X') where
  nm := fun m => by rw [mem_put_names, mem_put_names, s.nm]
  tr := fun m _ => by
    rw [look_put, look_put]
    split
    · exact tr
    · exact s.trA m
  od := fun m _ p => by
    rw [look_put, look_put]
    split
    · exact od p
    · exact s.odA m p
structure Sim (s s' : List Clm × Hs) : Prop where
  fst : s.1 = s'.1
  snd : SameC s.2 s'.2
theorem Sim.tk1N {p : Pth} : ∀ (ns : List Str) {s s' : List Clm × Hs}, Sim s s' → Sim (tk1N p ns s) (tk1N p ns s')
  | [], _, _, h => h
  | n :: ns, s, s', h => by
    refine Sim.tk1N ns ⟨?_, ?_⟩
    · show s.1 ++ _ = s'.1 ++ _
      rw [h.fst, h.snd.trA n]
    · refine h.snd.put n ?_ fun q => ?_
      · show cutT p (lookH s.2 n).tr = cutT p (lookH s'.2 n).tr
        rw [h.snd.trA n]
      · show q ∈ (lookH s.2 n).od.filter _ ↔ q ∈ (lookH s'.2 n).od.filter _
        rw [List.mem_filter, List.mem_filter, h.snd.odA n q]
theorem Sim.tk1 : ∀ (fs : List Flt) {s s' : List Clm × Hs}, Sim s s' → Sim (tk1 fs s) (tk1 fs s')
  | [], _, _, h => h
  | f :: fs, s, s', h => by
    rw [BB.tk1, BB.tk1]
    refine Sim.tk1 fs ?_
    split
    · exact h
    · exact h.tk1N _
theorem Sim.tk2N {p : Pth} : ∀ (ns : List Str) {s s' : List Clm × Hs}, Sim s s' → Sim (tk2N p ns s) (tk2N p ns s')
  | [], _, _, h => h
  | n :: ns, s, s', h => by
    refine Sim.tk2N ns ⟨?_, ?_⟩
    · show s.1 ++ _ = s'.1 ++ _
      rw [h.fst]
    · refine h.snd.put n (h.snd.trA n) fun q => ?_
      show q ∈ (lookH s.2 n).od.filter _ ↔ q ∈ (lookH s'.2 n).od.filter _
      rw [List.mem_filter, List.mem_filter, h.snd.odA n q]
theorem Sim.tk2 : ∀ (fs : List Flt) {s s' : List Clm × Hs}, Sim s s' → Sim (tk2 fs s) (tk2 fs s')
  | [], _, _, h => h
  | f :: fs, s, s', h => by
    rw [BB.tk2, BB.tk2]
    exact Sim.tk2 fs (h.tk2N _)
theorem take_same {ns : List Str} {hs hs' : Hs} (s : SameC hs hs') (o1 : HsOk ns hs) (o2 : HsOk ns hs') {w : Str} {t : Tr} (ok : okT ns 6 t) (mp : ∃ ps, t = .node true ps) : Sim (takeB hs w t) (takeB hs' w t) := by
  have a : Sim (takeA hs w t) (takeA hs' w t) := by
    unfold takeA
    rw [found_same s o1.nd o2.nd]
    exact Sim.tk1 _ ⟨rfl, s⟩
  unfold takeB
  rw [found_same a.snd (takeA_ok o1 ok mp).nd (takeA_ok o2 ok mp).nd]
  exact Sim.tk2 _ a
def encE (h : Hd) : D := .tup [encT h.tr, .lst (h.od.map encW)]
def encCs (hs : Hs) : List (Key × D) := hs.map fun p => ((Sum.inr p.1 : Key), encE p.2)
theorem heldL_len {h : Hd} (sz : szT h.tr ≤ 40) : (heldL h).length ≤ 41 := by
  unfold heldL sortW
  rw [List.length_mergeSort]
  exact Nat.le_trans (List.length_filter_le _ _) (lsts_len sz)
theorem sortW_pw (ps : List Pth) : (sortW ps).Pairwise fun a b => PySem.W.dataLe false pyW a b = true := List.pairwise_mergeSort leW_total.trans (fun a b => by
  rcases leW_total.total a b with h | h <;> simp [h]) _
theorem heldL_eq {ns : List Str} {h : Hd} (okt : okT ns 6 h.tr) (i : HdIn h) {l : List Pth} (so : l.Pairwise fun a b => PySem.W.dataLe false pyW a b = true) (nd : l.Nodup) (mem : ∀ p, p ∈ l ↔ p ∈ h.od) : l = heldL h := by
  refine List.Perm.eq_of_pairwise (fun a b _ _ => leW_anti) so (sortW_pw _) ?_
  have n2 : (heldL h).Nodup := (sortW_perm _).nodup_iff.mpr ((lsts_nd okt).filter _)
  exact (List.perm_ext_iff_of_nodup nd n2).mpr fun p => (mem p).trans (mem_heldL i).symm
end BB
end CF
end
section
set_option maxRecDepth 100000
namespace CF
open PySem PySem.Spec PyProof.Rows L2
local macro_rules
  | `(tactic| exists $es,*) => `(tactic| simp (disch := first | assumption | omega | (simp only [List.length_set, List.length_append, List.length_cons, List.length_nil]; omega)) only [↓wp_ok, ↓wp_ex, ↓wp_bind, ↓wp_guard, ↓wp_nox, ↓sp_nx, ↓sp_rt, ↓sp_bk, ↓sp_ct, ↓sp_ex, ↓sp_seq, ↓sp_thn, ↓sp_guard,
      ↓w_eC, ↓w_eVar, ↓w_aNil, ↓w_aCons, ↓w_eTup, ↓w_eTupP, ↓w_eLst, ↓w_eLstM, ↓w_eOp, ↓w_eChain, ↓w_asB, ↓w_tAnd, ↓w_tOr, ↓w_tNot, ↓w_eTru, ↓w_eIf, ↓w_sNext, ↓w_sSeq, ↓w_sRet, ↓w_sRetN, ↓w_sIf, ↓w_sSet, ↓w_sDrop, ↓w_sBreak, ↓w_sCont, ↓w_gNm, ↓w_gsNil, ↓w_gsCons, ↓w_gTp, ↓w_sAsg, ↓w_eOne, ↓w_eUn, ↓w_eCB, ↓w_one, ↓w_eCall, ↓w_eAnd, ↓w_eOr, ↓w_eNot, ↓w_iSeq, ↓w_eLc, ↓w_mkF, ↓w_mkM, ↓w_tYes, ↓w_eMt, ↓w_eMt0, ↓w_iRg1, ↓w_sPut, ↓w_gPut, ↓w_sPar2, ↓w_sPar3, ↓w_sAugD, ↓w_eDict0, ↓w_mkKF, ↓w_mkKM, ↓w_eRev, ↓w_eGet2, ↓w_eLenSet2, ↓w_iEn, ↓w_iZp, ↓w_eCm, ↓w_cmDn, ↓w_cmDc, ↓w_eFld, ↓w_eMeth, ↓w_eMethK, ↓w_eMake, ↓w_sFldD, ↓w_sRaise, ↓w_sAugE, insOf_ins, putFD_nil, lstX_l, List.lookup_cons, List.lookup_nil, ↓w_emLd, ↓w_emKd, keyD_str, keyD_int, dKOf_dK, dKOf_ref, celL_ref, celD_ref, lstIts_lst, tupIts_tup, dEqT_str, dNeT_str, tupIts_pt, tupIts_lst, tupIts_scr, tupIts_ref, strsOf_map,
      wipeD_nil, wipeD_cons, List.cons_append, List.nil_append, List.append_nil, ap_setI, eSl_ap, eOpt_none, eOpt_some,
      List.getElem?_cons_zero, List.getElem?_cons_succ, List.set_cons_zero, List.set_cons_succ, List.length_cons, List.length_nil, List.length_set, Nat.zero_add, Nat.reduceAdd, Nat.reduceSub, Nat.add_one_sub_one, List.length_append,
      itsD_tup, itsD_pt, itsD_lst, itsD_scr, dIx_tup, dIx_pt, dIx_lst, dIx_scr, atI_0, atI_1, atI_2, dAdd_int, dAdd_tup, dAdd_pt, dAdd_lst, dAdd_str, dInt_int, dInt_bl, dStr_int, dStr_str, dIsi_ap, dLen_lst, dLen_tup, dLen_pt, dLen_scr, dIsN_non, dNotN_non, dNeg_ap, dIB_ap, dI_ap,
      dEq_int, dNe_int, truD_bl, truD_non, truD_int, dSl_tup, dSl_pt, dSl_lst, dSl_scr, dTupP_lst, decide_true, decide_false, if_true, if_false, Bool.false_eq_true, Bool.not_true, Bool.not_false, eq_self, true_and, and_true, sz_le, sz_lt, rngIts_items, rngIts_chk, beq_self_eq_true, R.bind_ok, R.nox_ok, tyM_ref, mAppend_ref, mExtend_ref, ge1, ge2a, ge2b, ge3a, ge3b, ge3c, ge3d, st1, st2a, st2b, st3a, st3b, st3c, st3d, tyN, Bool.and_self, Bool.and_true, Bool.true_and, Bool.and_false, Bool.false_and, Bool.or_true, Bool.true_or, Bool.or_false, Bool.false_or, Int.reduceLT, Int.reduceLE, Int.reduceGT, Int.reduceNeg, Int.reduceAdd, Int.reduceSub, Int.reduceBEq, Int.reduceBNe, Int.reduceEq, Int.reduceToNat, Nat.reduceEqDiff, Nat.reduceLeDiff, reduceCtorEq, Int.natCast_zero, Int.cast_ofNat_Int, Int.lt_irrefl, List.map_nil, decide_eq_true_eq,
      isi_NoneType_int, isi_NoneType_str, isi_NoneType_bool, isi_NoneType_tuple, isi_NoneType_list, isi_NoneType_dict, isi_bool_int, isi_bool_str, isi_bool_bool, isi_bool_tuple, isi_bool_list, isi_bool_dict, isi_int_int, isi_int_str, isi_int_bool, isi_int_tuple, isi_int_list, isi_int_dict, isi_str_int, isi_str_str, isi_str_bool, isi_str_tuple, isi_str_list, isi_str_dict, isi_tuple_int, isi_tuple_str, isi_tuple_bool, isi_tuple_tuple, isi_tuple_list, isi_tuple_dict, isi_list_int, isi_list_str, isi_list_bool, isi_list_tuple, isi_list_list, isi_list_dict, isi_dict_int, isi_dict_str, isi_dict_bool, isi_dict_tuple, isi_dict_list, isi_dict_dict, $[$es:term],*])
  | `(tactic| and_intros) => `(tactic| (rw [wp_def]; simp only [startD, List.map_cons, List.map_nil, List.length_cons, List.length_nil, Nat.zero_add, Nat.reduceAdd, Nat.reduceSub, List.replicate, List.cons_append, List.nil_append]))
section
set_option maxRecDepth 100000
set_option maxHeartbeats 4000000
namespace BB
open PySem PySem.Spec PyProof.Rows L2
theorem okn {a : Str} [Voc] (h : a ∈ wrs) : PyData.strOk a = true := (wrs_ok a h).2
end BB
end
section
set_option maxRecDepth 100000
set_option maxHeartbeats 4000000
namespace BB
open PySem PySem.Spec PyProof.Rows L2
open OA (Src DrawOk)
theorem nz_cut (n : Str) (p : Pth) : ∀ ps : List (Str × Tr), (((ps.filterMap (cutF n p)).filter fun q => decide (q.1 ≠ ("zfield" : Str))).map fun q => 1 + szT q.2).sum ≤ ((ps.filter fun q => decide (q.1 ≠ ("zfield" : Str))).map fun q => 1 + szT q.2).sum
  | [] => Nat.le_refl _
  | q :: ps => by
    have ih := nz_cut n p ps
    have le : ∀ q : Str × Tr, ((List.filter (fun q => decide (q.1 ≠ ("zfield" : Str))) (cutF n p q).toList).map fun q => 1 + szT q.2).sum ≤ ((List.filter (fun q => decide (q.1 ≠ ("zfield" : Str))) [q]).map fun q => 1 + szT q.2).sum := fun q => by
      unfold cutF
      by_cases c : q.1 = n
      · rw [if_pos c]
        by_cases d : p = []
        · rw [if_pos d]; exact Nat.zero_le _
        · rw [if_neg d]
          have z := szT_cut p q.2
          by_cases e : q.1 = ("zfield" : Str)
          · simp [e]
          · simp [e]; exact z
      · rw [if_neg c]; exact Nat.le_refl _
    have h := le q
    have e1 : List.filterMap (cutF n p) (q :: ps) = (cutF n p q).toList ++ ps.filterMap (cutF n p) := by
      rw [List.filterMap_cons]
      cases cutF n p q <;> rfl
    rw [e1, List.filter_append, List.map_append, List.sum_append, show q :: ps = [q] ++ ps from rfl, List.filter_append, List.map_append, List.sum_append]
    omega
theorem Nr.cut {t : Tr} (h : Nr t) {p : Pth} (hp : p ≠ []) : Nr (cutT p t) := by
  obtain ⟨ps, rfl, h3, h4⟩ := h.mp
  cases p with
  | nil => exact absurd rfl hp
  | cons n p =>
    refine ⟨okT_cut _ 6 _ h.ok, Nat.le_trans (szT_cut _ _) h.sz, _, cutT_node true ps n p, fun q hq => ?_, Nat.le_trans (nz_cut n p ps) h4⟩
    obtain ⟨x, hx, e, _⟩ := cutF_mem hq
    rw [← e]; exact h3 x hx
def InvN (hs : Hs) : Prop := ∀ n ∈ namesH hs, Nr (lookH hs n).tr
theorem InvN.nil : InvN [] := fun _ h => absurd h List.not_mem_nil
theorem nr_less : ∀ (ps : List Pth) (h : Hd), (∀ p ∈ ps, p ≠ []) → Nr h.tr → Nr (lessL ps h).tr
  | [], _, _, n => n
  | p :: ps, h, hp, n => nr_less ps (h.less p) (fun q hq => hp q (.tail _ hq)) (n.cut (hp p (.head _)))
theorem InvN.done {hs : Hs} (i : InvN hs) (b : BdOk2 hs) {w : Str} {t : Tr} (W : WishOk w t) (nt : Nr t) : InvN (hsDone hs w t) := by
  intro n hn
  unfold hsDone at hn ⊢
  rw [look_put]
  by_cases c : n = w
  · rw [if_pos c]; exact nt
  · rw [if_neg c, takeB_look b.b.ok W.ok W.mp, unordL_tr, takeA_snd, look_cuts]
    have hn := (mem_put_names.mp hn).resolve_right c
    rw [takeB_names b.b.ok W.ok W.mp] at hn
    exact nr_less _ _ (takeA_paths b.b.ok W.ok W.mp) (i n hn)
end BB
end
section
set_option maxRecDepth 100000
set_option maxHeartbeats 4000000
namespace BB
open PySem PySem.Spec PyProof.Rows L2
def Bf (ns : List Str) (a b : Str) : Prop := ∃ i j : Nat, ns[i]? = some a ∧ ns[j]? = some b ∧ i < j
theorem at_inj {ns : List Str} (nd : ns.Nodup) {i j : Nat} {a : Str} (h1 : ns[i]? = some a) (h2 : ns[j]? = some a) : i = j :=
  (List.getElem?_inj (List.getElem?_eq_some_iff.mp h1).1 nd).mp (h1.trans h2.symm)
theorem Bf.trans {ns : List Str} (nd : ns.Nodup) {a b c : Str} (h : Bf ns a b) (k : Bf ns b c) : Bf ns a c := by
  obtain ⟨i, j, h1, h2, h3⟩ := h
  obtain ⟨i', j', k1, k2, k3⟩ := k
  have e := at_inj nd h2 k1
  exact ⟨i, j', h1, k2, by omega⟩
theorem Bf.irr {ns : List Str} (nd : ns.Nodup) {a : Str} (h : Bf ns a a) : False := by
  obtain ⟨i, j, h1, h2, h3⟩ := h
  have e := at_inj nd h1 h2
  omega
end BB
end
end CF
end
section
set_option maxRecDepth 100000
namespace CF
open PySem PySem.Spec PyProof.Rows L2
local macro_rules
  | `(tactic| exists $es,*) => `(tactic| simp (disch := first | assumption | omega | (simp only [List.length_set, List.length_append, List.length_cons, List.length_nil]; omega)) only [↓wp_ok, ↓wp_ex, ↓wp_bind, ↓wp_guard, ↓wp_nox, ↓sp_nx, ↓sp_rt, ↓sp_bk, ↓sp_ct, ↓sp_ex, ↓sp_seq, ↓sp_thn, ↓sp_guard,
      ↓w_eC, ↓w_eVar, ↓w_aNil, ↓w_aCons, ↓w_eTup, ↓w_eTupP, ↓w_eLst, ↓w_eLstM, ↓w_eOp, ↓w_eChain, ↓w_asB, ↓w_tAnd, ↓w_tOr, ↓w_tNot, ↓w_eTru, ↓w_eIf, ↓w_sNext, ↓w_sSeq, ↓w_sRet, ↓w_sRetN, ↓w_sIf, ↓w_sSet, ↓w_sDrop, ↓w_sBreak, ↓w_sCont, ↓w_gNm, ↓w_gsNil, ↓w_gsCons, ↓w_gTp, ↓w_sAsg, ↓w_eOne, ↓w_eUn, ↓w_eCB, ↓w_one, ↓w_eCall, ↓w_eAnd, ↓w_eOr, ↓w_eNot, ↓w_iSeq, ↓w_eLc, ↓w_mkF, ↓w_mkM, ↓w_tYes, ↓w_eMt, ↓w_eMt0, ↓w_iRg1, ↓w_sPut, ↓w_sPutX, ↓w_eDict0X, ↓w_iKyX, itsX_dT, ↓w_gPut, ↓w_sPar2, ↓w_sPar3, ↓w_sAugD, ↓w_eDict0, ↓w_mkKF, ↓w_mkKM, ↓w_eRev, ↓w_eGet2, ↓w_eLenSet2, ↓w_iEn, ↓w_iZp, ↓w_eCm, ↓w_cmDn, ↓w_cmDc, ↓w_eFld, ↓w_eMeth, ↓w_eMethK, ↓w_eMake, ↓w_sFldD, ↓w_sRaise, ↓w_sAugE, insOf_ins, putFD_nil, lstX_l, List.lookup_cons, List.lookup_nil, ↓w_emLd, ↓w_emKd, keyD_str, keyD_int, dKOf_dK, dKOf_ref, celL_ref, celD_ref, lstIts_lst, tupIts_tup, dEqT_str, dNeT_str, tupIts_pt, tupIts_lst, tupIts_scr, tupIts_ref, strsOf_map,
      wipeD_nil, wipeD_cons, List.cons_append, List.nil_append, List.append_nil, ap_setI, eSl_ap, eOpt_none, eOpt_some,
      List.getElem?_cons_zero, List.getElem?_cons_succ, List.set_cons_zero, List.set_cons_succ, List.length_cons, List.length_nil, List.length_set, Nat.zero_add, Nat.reduceAdd, Nat.reduceSub, Nat.add_one_sub_one, List.length_append,
      itsD_tup, itsD_pt, itsD_lst, itsD_scr, dIx_tup, dIx_pt, dIx_lst, dIx_scr, atI_0, atI_1, atI_2, dAdd_int, dAdd_tup, dAdd_pt, dAdd_lst, dAdd_str, dInt_int, dInt_bl, dStr_int, dStr_str, dIsi_ap, dLen_lst, dLen_tup, dLen_pt, dLen_scr, dIsN_non, dNotN_non, dNeg_ap, dIB_ap, dI_ap,
      dEq_int, dNe_int, truD_bl, truD_non, truD_int, dSl_tup, dSl_pt, dSl_lst, dSl_scr, dTupP_lst, decide_true, decide_false, if_true, if_false, Bool.false_eq_true, Bool.not_true, Bool.not_false, eq_self, true_and, and_true, sz_le, sz_lt, rngIts_items, rngIts_chk, beq_self_eq_true, R.bind_ok, R.nox_ok, tyM_ref, mAppend_ref, mExtend_ref, ge1, ge2a, ge2b, ge3a, ge3b, ge3c, ge3d, st1, st2a, st2b, st3a, st3b, st3c, st3d, tyN, Bool.and_self, Bool.and_true, Bool.true_and, Bool.and_false, Bool.false_and, Bool.or_true, Bool.true_or, Bool.or_false, Bool.false_or, Int.reduceLT, Int.reduceLE, Int.reduceGT, Int.reduceNeg, Int.reduceAdd, Int.reduceSub, Int.reduceBEq, Int.reduceBNe, Int.reduceEq, Int.reduceToNat, Nat.reduceEqDiff, Nat.reduceLeDiff, reduceCtorEq, Int.natCast_zero, Int.cast_ofNat_Int, Int.lt_irrefl, List.map_nil, decide_eq_true_eq,
      isi_NoneType_int, isi_NoneType_str, isi_NoneType_bool, isi_NoneType_tuple, isi_NoneType_list, isi_NoneType_dict, isi_bool_int, isi_bool_str, isi_bool_bool, isi_bool_tuple, isi_bool_list, isi_bool_dict, isi_int_int, isi_int_str, isi_int_bool, isi_int_tuple, isi_int_list, isi_int_dict, isi_str_int, isi_str_str, isi_str_bool, isi_str_tuple, isi_str_list, isi_str_dict, isi_tuple_int, isi_tuple_str, isi_tuple_bool, isi_tuple_tuple, isi_tuple_list, isi_tuple_dict, isi_list_int, isi_list_str, isi_list_bool, isi_list_tuple, isi_list_list, isi_list_dict, isi_dict_int, isi_dict_str, isi_dict_bool, isi_dict_tuple, isi_dict_list, isi_dict_dict, $[$es:term],*])
  | `(tactic| and_intros) => `(tactic| (rw [wp_def]; simp only [startD, List.map_cons, List.map_nil, List.length_cons, List.length_nil, Nat.zero_add, Nat.reduceAdd, Nat.reduceSub, List.replicate, List.cons_append, List.nil_append]))
section
set_option maxRecDepth 100000
set_option maxHeartbeats 4000000
namespace BB
open PySem PySem.Spec PyProof.Rows L2 OA
structure MAt (pw : PW) (G : GH) (mc : Nat) (hs : Hs) (ix : Str → Nat) : Prop where
  top : G[mc]? = some (.dK (hs.map fun p => (.inr p.1, .ref (ix p.1))))
  cell : ∀ n ∈ namesH hs, G[ix n]? = some (.dK (hdD pw (lookH hs n)))
  inj : ∀ n ∈ namesH hs, ∀ m ∈ namesH hs, ix n = ix m → n = m
  ne : ∀ n ∈ namesH hs, ix n ≠ mc
theorem MAt.snoc {pw : PW} {G : GH} {mc : Nat} {hs : Hs} {ix : Str → Nat} (h : MAt pw G mc hs ix) (J : GH) : MAt pw (G ++ J) mc hs ix := by
  have up : ∀ {k : Nat} {c : Cell}, G[k]? = some c → (G ++ J)[k]? = some c := fun {k c} e => by
    rw [List.getElem?_append_left (List.getElem?_eq_some_iff.mp e).1]; exact e
  exact ⟨up h.top, fun n hn => up (h.cell n hn), h.inj, h.ne⟩
end BB
end
end CF
end
section
set_option maxRecDepth 100000
set_option maxHeartbeats 4000000
namespace CF
namespace K03
open PySem PySem.Spec PyProof.Rows L2
theorem prn : ∀ c : Nat, c < 127 → 32 ≤ c → Unicode.isPrintable c = true := by decide +kernel
theorem char_lt (c : Char) : c.toNat < 0x110000 := by
  have := c.valid
  rcases this with h | h
  · show c.val.toNat < _
    omega
  · show c.val.toNat < _
    omega
theorem signs_of (s : String) : (Str.ofString s).cps.toList = s.toList.map Char.toNat := by
  simp [PySem.Str.ofString_eq_toList]
theorem strOk_of (s : String) : PyData.strOk (Str.ofString s) = true := by
  unfold PyData.strOk
  rw [← Array.all_toList, signs_of, List.all_eq_true]
  intro c hc
  obtain ⟨ch, _, rfl⟩ := List.mem_map.mp hc
  exact decide_eq_true (char_lt ch)
theorem quote_plain {x : Str} (h : ∀ c ∈ x.cps.toList, plainC c = true) : reprQuote x = 39 := by
  unfold reprQuote
  have : x.cps.contains 39 = false := by
    rw [Bool.eq_false_iff]
    intro hc
    have := Array.contains_iff_mem.mp hc
    have := h 39 (by simpa using this)
    exact absurd this (by decide)
  rw [this]
  rfl
theorem reprChar_plain {c : Nat} (h : plainC c = true) : PySem.Builtin.Str.reprChar 39 c = [c] := by
  unfold plainC at h
  simp only [Bool.and_eq_true, decide_eq_true_eq, Bool.not_eq_true', beq_eq_false_iff_ne] at h
  unfold PySem.Builtin.Str.reprChar
  have e := prn c h.1.1.2 h.1.1.1
  have n1 : c ≠ 39 := h.1.2
  have n2 : c ≠ 92 := h.2
  have n3 : c ≠ 10 := by omega
  have n4 : c ≠ 13 := by omega
  have n5 : c ≠ 9 := by omega
  simp [n1, n2, n3, n4, n5, e]
theorem fold_plain : ∀ (l : List Nat) (acc : Array Nat), (∀ c ∈ l, plainC c = true) → (l.foldl (fun out c => out ++ (PySem.Builtin.Str.reprChar 39 c).toArray) acc).toList = acc.toList ++ l
  | [], acc, _ => by simp
  | c :: r, acc, h => by
    rw [List.foldl_cons, fold_plain r _ fun d hd => h d (.tail _ hd), reprChar_plain (h c (.head _))]
    simp
theorem repr_plain {x : Str} (h : ∀ c ∈ x.cps.toList, plainC c = true) : (reprText x).cps.toList = 39 :: (x.cps.toList ++ [39]) := by
  unfold reprText
  show ((x.cps.foldl (fun out c => out ++ (PySem.Builtin.Str.reprChar (reprQuote x) c).toArray) #[reprQuote x]).push (reprQuote x)).toList = _
  rw [quote_plain h, Array.toList_push, ← Array.foldl_toList, fold_plain _ _ h]
  rfl
theorem plain_okS {x : Str} (h : okS x = true) : ∀ c ∈ x.cps.toList, plainC c = true := by
  unfold okS at h
  exact List.all_eq_true.mp (Bool.and_eq_true_iff.mp h).2
theorem plain_lt {c : Nat} (h : plainC c = true) : c < 0x110000 := by
  unfold plainC at h
  simp only [Bool.and_eq_true, decide_eq_true_eq] at h
  omega
theorem strOk_repr {t : Tr} (h : leafOk t) : PyData.strOk (rpT t) = true := by
  cases t with
  | val i =>
    show PyData.strOk (PyData.shown (.int i)) = true
    rw [PyData.shown]
    exact strOk_of _
  | txt x =>
    show PyData.strOk (PyData.shown (.str x)) = true
    rw [PyData.shown]
    unfold PyData.strOk
    rw [← Array.all_toList, repr_plain (plain_okS h), List.all_eq_true]
    intro c hc
    refine decide_eq_true ?_
    rcases List.mem_cons.mp hc with rfl | hc
    · decide
    · rcases List.mem_append.mp hc with hc | hc
      · exact plain_lt (plain_okS h c hc)
      · rw [List.mem_singleton.mp hc]; decide
  | node m ps => exact strOk_of ""
end K03
end CF
end
section
set_option maxRecDepth 100000
set_option maxHeartbeats 1000000
namespace CF
namespace BB
open PySem PySem.Spec PyProof.Rows L2
theorem leaf_ok {ns : List Str} {r : Nat} {u : Tr} (ok : okT ns r u) : K03.leafOk u := by
  cases u with
  | node m ps => exact True.intro
  | val i => cases r with
    | zero => exact ok.elim
    | succ r => exact ok
  | txt x => cases r with
    | zero => exact ok.elim
    | succ r => exact ok
theorem sm_val {ns : List Str} {r : Nat} {u : Tr} (ok : okT ns r u) (hv : isVal u = true) : OA.Sm 100000 (K03.pyT u) := by
  have lf := leaf_ok ok
  cases u with
  | node m ps => cases hv
  | val i =>
    have lf : -(10 ^ 30) < i ∧ i < 10 ^ 30 := lf
    have lg := K03.log_small lf
    have h31 : (PyData.shown (.int i)).length ≤ 64 := by
      rw [PyData.shown]
      show (Str.ofString (toString i)).length ≤ 64
      rw [PySem.ofString_length]
      have := int_text_length_le10 (a := i) (k := 30) (by decide) (by omega)
      omega
    rw [K03.pyT]
    refine ⟨?_, ?_, ?_, ?_, ?_⟩
    · simp only [PyData.showable, PyData.showableAll, Bool.and_true, Bool.true_and]; exact decide_eq_true lg
    · simp only [PyData.depth, PyData.depthAll]; decide
    · simp only [PyData.canLay0, PyData.canLayAll0, Bool.and_true]; decide +kernel
    · simp only [PyData.intsShort, PyData.intsShortAll, Bool.and_true, Bool.true_and]; exact decide_eq_true h31
    · simp only [PyData.weight, PyData.weightAll]
      have h1 : ("value" : Str).cps.size = 5 := by decide +kernel
      by_cases z : i = 0
      · simp only [z]; decide +kernel
      · have : (i == 0) = false := by simpa using z
        simp only [this, Bool.false_eq_true, if_false]
        omega
  | txt x =>
    have lf : okS x = true := lf
    have h1 := Bool.and_eq_true_iff.mp lf
    have h2 := Bool.and_eq_true_iff.mp h1.1
    have h3 := of_decide_eq_true h2.2
    rw [K03.pyT]
    refine ⟨?_, ?_, ?_, ?_, ?_⟩
    · simp only [PyData.showable, PyData.showableAll, Bool.and_true, Bool.true_and]
    · simp only [PyData.depth, PyData.depthAll]; decide
    · simp only [PyData.canLay0, PyData.canLayAll0, Bool.and_true, h2.1]; decide +kernel
    · simp only [PyData.intsShort, PyData.intsShortAll, Bool.and_true, Bool.true_and]
    · simp only [PyData.weight, PyData.weightAll]
      have h3 : x.cps.size ≤ 1000 := h3
      have : ("value" : Str).cps.size = 5 := by decide +kernel
      omega
mutual
theorem szT_at : ∀ (t : Tr) (p : Pth) (u : Tr), atT t p = some u → szT u ≤ szT t
  | t, [], u, h => by cases h; exact Nat.le_refl _
  | .val _, n :: p, u, h => by simp [atT_cons, kidsT, lookP] at h
  | .txt _, n :: p, u, h => by simp [atT_cons, kidsT, lookP] at h
  | .node m ps, n :: p, u, h => by
    rw [atT_cons] at h
    cases e : lookP (kidsT (.node m ps)) n with
    | none => rw [e] at h; cases h
    | some v =>
      rw [e] at h
      rw [szT]
      exact szP_at ps n v p u e h
theorem szP_at : ∀ (ps : List (Str × Tr)) (n : Str) (v : Tr) (p : Pth) (u : Tr), lookP ps n = some v → atT v p = some u → szT u ≤ szP ps
  | [], _, _, _, _, h, _ => by cases h
  | (m, w) :: r, n, v, p, u, h, k => by
    rw [szP]
    rw [lookP] at h
    by_cases c : m = n
    · rw [if_pos c] at h
      cases h
      have := szT_at w p u k
      omega
    · rw [if_neg c] at h
      have := szP_at r n v p u h k
      omega
end
theorem depth_W (p : Pth) : (pyW p).depth ≤ 60 := by
  have e : ∀ p : Pth, PyData.depthAll (p.map PyData.str) = 0 := fun p => by
    induction p with
    | nil => rfl
    | cons x r ih => rw [List.map_cons, PyData.depthAll, ih, PyData.depth]; rfl
  show (PyData.tuple (p.map .str)).depth ≤ 60
  rw [PyData.depth, e]; decide
theorem nd_head (t : Tr) : ∃ r, K03.ndT [] t = ([], t) :: r := by
  cases t with
  | val i => exact ⟨[], by rw [K03.ndT]⟩
  | txt i => exact ⟨[], by rw [K03.ndT]⟩
  | node m ps => exact ⟨_, by rw [K03.ndT]⟩
end BB
end CF
end
section
set_option maxRecDepth 100000
namespace CF
open PySem PySem.Spec PyProof.Rows L2
local macro_rules
  | `(tactic| exists $es,*) => `(tactic| simp (disch := first | assumption | omega | (simp only [List.length_set, List.length_append, List.length_cons, List.length_nil]; omega)) only [↓wp_ok, ↓wp_ex, ↓wp_bind, ↓wp_guard, ↓wp_nox, ↓sp_nx, ↓sp_rt, ↓sp_bk, ↓sp_ct, ↓sp_ex, ↓sp_seq, ↓sp_thn, ↓sp_guard,
      ↓w_eC, ↓w_eVar, ↓w_aNil, ↓w_aCons, ↓w_eTup, ↓w_eTupP, ↓w_eLst, ↓w_eLstM, ↓w_eOp, ↓w_eChain, ↓w_asB, ↓w_tAnd, ↓w_tOr, ↓w_tNot, ↓w_eTru, ↓w_eIf, ↓w_sNext, ↓w_sSeq, ↓w_sRet, ↓w_sRetN, ↓w_sIf, ↓w_sSet, ↓w_sDrop, ↓w_sBreak, ↓w_sCont, ↓w_gNm, ↓w_gsNil, ↓w_gsCons, ↓w_gTp, ↓w_sAsg, ↓w_eOne, ↓w_eUn, ↓w_eCB, ↓w_one, ↓w_eCall, ↓w_eAnd, ↓w_eOr, ↓w_eNot, ↓w_iSeq, ↓w_eLc, ↓w_mkF, ↓w_mkM, ↓w_tYes, ↓w_eMt, ↓w_eMt0, ↓w_iRg1, ↓w_sPut, ↓w_sPutX, ↓w_eDict0X, ↓w_iKyX, itsX_dT, ↓w_gPut, ↓w_sPar2, ↓w_sPar3, ↓w_sAugD, ↓w_eDict0, ↓w_mkKF, ↓w_mkKM, ↓w_eRev, ↓w_eGet2, ↓w_eLenSet2, ↓w_iEn, ↓w_iZp, ↓w_eCm, ↓w_cmDn, ↓w_cmDc, ↓w_eFld, ↓w_eMeth, ↓w_eMethK, ↓w_eMake, ↓w_sFldD, ↓w_sRaise, ↓w_sAugE, insOf_ins, putFD_nil, lstX_l, List.lookup_cons, List.lookup_nil, ↓w_emLd, ↓w_emKd, keyD_str, keyD_int, dKOf_dK, dKOf_ref, celL_ref, celD_ref, lstIts_lst, tupIts_tup, dEqT_str, dNeT_str, tupIts_pt, tupIts_lst, tupIts_scr, tupIts_ref, strsOf_map,
      wipeD_nil, wipeD_cons, List.cons_append, List.nil_append, List.append_nil, ap_setI, eSl_ap, eOpt_none, eOpt_some,
      List.getElem?_cons_zero, List.getElem?_cons_succ, List.set_cons_zero, List.set_cons_succ, List.length_cons, List.length_nil, List.length_set, Nat.zero_add, Nat.reduceAdd, Nat.reduceSub, Nat.add_one_sub_one, List.length_append,
      itsD_tup, itsD_pt, itsD_lst, itsD_scr, dIx_tup, dIx_pt, dIx_lst, dIx_scr, atI_0, atI_1, atI_2, dAdd_int, dAdd_tup, dAdd_pt, dAdd_lst, dAdd_str, dInt_int, dInt_bl, dStr_int, dStr_str, dIsi_ap, dLen_lst, dLen_tup, dLen_pt, dLen_scr, dIsN_non, dNotN_non, dNeg_ap, dIB_ap, dI_ap,
      dEq_int, dNe_int, truD_bl, truD_non, truD_int, dSl_tup, dSl_pt, dSl_lst, dSl_scr, dTupP_lst, decide_true, decide_false, if_true, if_false, Bool.false_eq_true, Bool.not_true, Bool.not_false, eq_self, true_and, and_true, sz_le, sz_lt, rngIts_items, rngIts_chk, beq_self_eq_true, R.bind_ok, R.nox_ok, tyM_ref, mAppend_ref, mExtend_ref, ge1, ge2a, ge2b, ge3a, ge3b, ge3c, ge3d, st1, st2a, st2b, st3a, st3b, st3c, st3d, tyN, Bool.and_self, Bool.and_true, Bool.true_and, Bool.and_false, Bool.false_and, Bool.or_true, Bool.true_or, Bool.or_false, Bool.false_or, Int.reduceLT, Int.reduceLE, Int.reduceGT, Int.reduceNeg, Int.reduceAdd, Int.reduceSub, Int.reduceBEq, Int.reduceBNe, Int.reduceEq, Int.reduceToNat, Nat.reduceEqDiff, Nat.reduceLeDiff, reduceCtorEq, Int.natCast_zero, Int.cast_ofNat_Int, Int.lt_irrefl, List.map_nil, decide_eq_true_eq,
      isi_NoneType_int, isi_NoneType_str, isi_NoneType_bool, isi_NoneType_tuple, isi_NoneType_list, isi_NoneType_dict, isi_bool_int, isi_bool_str, isi_bool_bool, isi_bool_tuple, isi_bool_list, isi_bool_dict, isi_int_int, isi_int_str, isi_int_bool, isi_int_tuple, isi_int_list, isi_int_dict, isi_str_int, isi_str_str, isi_str_bool, isi_str_tuple, isi_str_list, isi_str_dict, isi_tuple_int, isi_tuple_str, isi_tuple_bool, isi_tuple_tuple, isi_tuple_list, isi_tuple_dict, isi_list_int, isi_list_str, isi_list_bool, isi_list_tuple, isi_list_list, isi_list_dict, isi_dict_int, isi_dict_str, isi_dict_bool, isi_dict_tuple, isi_dict_list, isi_dict_dict, $[$es:term],*])
  | `(tactic| and_intros) => `(tactic| (rw [wp_def]; simp only [startD, List.map_cons, List.map_nil, List.length_cons, List.length_nil, Nat.zero_add, Nat.reduceAdd, Nat.reduceSub, List.replicate, List.cons_append, List.nil_append]))
section
set_option maxRecDepth 100000
set_option maxHeartbeats 4000000
namespace BB
open PySem PySem.Spec PyProof.Rows L2 OA
theorem pyAll_W : ∀ {l : NL}, (∀ q ∈ l, ∀ x ∈ q.1, PyData.strOk x = true) → D.pyAll (l.map fun q => encW q.1) = some (l.map fun q => pyW q.1)
  | [], _ => by rw [List.map_nil, D.pyAll]; rfl
  | q :: l, h => by
    rw [List.map_cons, D.pyAll, py_W (h q (.head _)), pyAll_W fun q hq => h q (.tail _ hq)]
    rfl
theorem dInt_bl (b : Bool) (G : GH) : dInt (.bl b) G = .ok (.int (if b then 1 else 0)) G := by cases b <;> rfl
structure FAt (Ga G2 : GH) (nf nb : Nat) (fs : List Flt) (bs : List Pth) : Prop where
  pre : ∃ J, G2 = Ga ++ J
  lf : Ga.length ≤ nf
  lb : Ga.length ≤ nb
  ne : nf ≠ nb
  f : G2[nf]? = some (.lst (fs.map encF))
  b : G2[nb]? = some (.lst (bs.map encW))
theorem FAt.kind {Ga G2 : GH} {nf nb : Nat} {fs : List Flt} {bs : List Pth} (h : FAt Ga G2 nf nb fs bs) (f : Flt) (p : Pth) : FAt Ga ((G2.set nb (.lst (bs.map encW ++ [encW p]))).set nf (.lst (fs.map encF ++ [encF f]))) nf nb (fs ++ [f]) (bs ++ [p]) := by
  obtain ⟨⟨J, eJ⟩, lf, lb, ne, gf, gb⟩ := h
  have l1 := (List.getElem?_eq_some_iff.mp gb).1
  have l2 := (List.getElem?_eq_some_iff.mp gf).1
  refine ⟨⟨(J.set (nb - Ga.length) (.lst (bs.map encW ++ [encW p]))).set (nf - Ga.length) (.lst (fs.map encF ++ [encF f])), ?_⟩, lf, lb, ne, ?_, ?_⟩
  · rw [eJ, List.set_append_right _ _ lb, List.set_append_right _ _ lf]
  · rw [List.getElem?_set_self (by rw [List.length_set]; exact l2), List.map_append]; rfl
  · rw [List.getElem?_set_ne ne, List.getElem?_set_self l1, List.map_append]; rfl
end BB
end
section
set_option maxRecDepth 100000
set_option maxHeartbeats 4000000
namespace BB
open PySem PySem.Spec PyProof.Rows L2 OA
abbrev updI (ix : Str → Nat) (n : Str) (k : Nat) : Str → Nat := fun m => if m = n then k else ix m
theorem mM_put {ix : Str → Nat} {hs : Hs} {n : Str} (h : Hd) (k : Nat) : (putH hs n h).map (fun p => ((.inr p.1 : Key), D.ref (updI ix n k p.1))) = putD (hs.map fun p => ((.inr p.1 : Key), D.ref (ix p.1))) (.inr n) (.ref k) := by
  unfold putH putD
  have ea : ((hs.map fun p => ((.inr p.1 : Key), D.ref (ix p.1))).any fun p => decide (p.1 = (.inr n : Key))) = decide (n ∈ namesH hs) := by
    rw [Bool.eq_iff_iff, List.any_eq_true, decide_eq_true_eq]
    constructor
    · rintro ⟨q, hq, e⟩
      obtain ⟨p, hp, rfl⟩ := List.mem_map.mp hq
      have := Sum.inr.inj (of_decide_eq_true e)
      exact List.mem_map.mpr ⟨p, hp, this⟩
    · intro hn
      obtain ⟨p, hp, rfl⟩ := List.mem_map.mp hn
      exact ⟨_, List.mem_map.mpr ⟨p, hp, rfl⟩, decide_eq_true rfl⟩
  rw [ea]
  by_cases hn : n ∈ namesH hs
  · rw [if_pos hn, if_pos (decide_eq_true hn), List.map_map, List.map_map]
    refine List.map_congr_left fun p hp => ?_
    show ((.inr (if p.1 = n then (n, h) else p).1 : Key), D.ref (updI ix n k (if p.1 = n then (n, h) else p).1)) = if (.inr p.1 : Key) = .inr n then ((.inr p.1 : Key), D.ref k) else ((.inr p.1 : Key), D.ref (ix p.1))
    by_cases c : p.1 = n
    · rw [if_pos c, if_pos (by rw [c])]
      show ((.inr n : Key), D.ref (if n = n then k else ix n)) = _
      rw [if_pos rfl, c]
    · rw [if_neg c, if_neg fun z => c (Sum.inr.inj z)]
      show ((.inr p.1 : Key), D.ref (if p.1 = n then k else ix p.1)) = _
      rw [if_neg c]
  · rw [if_neg hn, if_neg (by rw [decide_eq_false hn]; exact Bool.false_ne_true), List.map_append]
    have e1 : hs.map (fun p => ((.inr p.1 : Key), D.ref (updI ix n k p.1))) = hs.map fun p => ((.inr p.1 : Key), D.ref (ix p.1)) := by
      refine List.map_congr_left fun p hp => ?_
      have c : p.1 ≠ n := fun e => hn (List.mem_map.mpr ⟨p, hp, e⟩)
      show ((.inr p.1 : Key), D.ref (if p.1 = n then k else ix p.1)) = _
      rw [if_neg c]
    rw [e1]
    show _ ++ [((.inr n : Key), D.ref (if n = n then k else ix n))] = _
    rw [if_pos rfl]
theorem MAt.put {pw : PW} {G : GH} {mc : Nat} {hs : Hs} {ix : Str → Nat} (M : MAt pw G mc hs ix) {n : Str} {h : Hd} {k : Nat} (hk : G[k]? = some (.dK (hdD pw h))) (nk : ∀ m ∈ namesH hs, ix m ≠ k) (km : k ≠ mc) :
    MAt pw (G.set mc (.dK (putD (hs.map fun p => ((.inr p.1 : Key), D.ref (ix p.1))) (.inr n) (.ref k)))) mc (putH hs n h) (updI ix n k) := by
  have lt := (List.getElem?_eq_some_iff.mp M.top).1
  have nm : ∀ m ∈ namesH (putH hs n h), m = n ∨ m ∈ namesH hs := fun m hm => by
    by_cases c : n ∈ namesH hs
    · rw [names_put_mem c] at hm; exact .inr hm
    · rw [names_put_new c] at hm
      rcases List.mem_append.mp hm with hm | hm
      · exact .inr hm
      · exact .inl (List.mem_singleton.mp hm)
  refine ⟨?_, fun m hm => ?_, fun a ha b hb e => ?_, fun m hm => ?_⟩
  · rw [List.getElem?_set_self lt, mM_put]
  · show (G.set mc _)[if m = n then k else ix m]? = _
    rw [look_put]
    by_cases c : m = n
    · rw [if_pos c, if_pos c, List.getElem?_set_ne (Ne.symm km)]; exact hk
    · have hm2 := (nm m hm).resolve_left c
      rw [if_neg c, if_neg c, List.getElem?_set_ne (Ne.symm (M.ne m hm2))]
      exact M.cell m hm2
  · have e : (if a = n then k else ix a) = if b = n then k else ix b := e
    by_cases ca : a = n <;> by_cases cb : b = n
    · rw [ca, cb]
    · rw [if_pos ca, if_neg cb] at e
      exact absurd e.symm (nk b ((nm b hb).resolve_left cb))
    · rw [if_neg ca, if_pos cb] at e
      exact absurd e (nk a ((nm a ha).resolve_left ca))
    · rw [if_neg ca, if_neg cb] at e
      exact M.inj a ((nm a ha).resolve_left ca) b ((nm b hb).resolve_left cb) e
  · show (if m = n then k else ix m) ≠ mc
    by_cases c : m = n
    · rw [if_pos c]; exact km
    · rw [if_neg c]; exact M.ne m ((nm m hm).resolve_left c)
theorem MAt.oth {pw : PW} {G : GH} {mc : Nat} {hs : Hs} {ix : Str → Nat} (M : MAt pw G mc hs ix) {k : Nat} (c : Cell) (k1 : k ≠ mc) (k2 : ∀ n ∈ namesH hs, ix n ≠ k) : MAt pw (G.set k c) mc hs ix :=
  ⟨by rw [List.getElem?_set_ne k1]; exact M.top, fun n hn => by rw [List.getElem?_set_ne (Ne.symm (k2 n hn))]; exact M.cell n hn, M.inj, M.ne⟩
theorem MAt.lt {pw : PW} {G : GH} {mc : Nat} {hs : Hs} {ix : Str → Nat} (M : MAt pw G mc hs ix) : mc < G.length := (List.getElem?_eq_some_iff.mp M.top).1
theorem MAt.ltI {pw : PW} {G : GH} {mc : Nat} {hs : Hs} {ix : Str → Nat} (M : MAt pw G mc hs ix) {n : Str} (hn : n ∈ namesH hs) : ix n < G.length := (List.getElem?_eq_some_iff.mp (M.cell n hn)).1
structure TAt (pw : PW) (G0 : GH) (mc : Nat) (hs0 : Hs) (ix0 : Str → Nat) (s : List Clm × Hs) (G : GH) (ix : Str → Nat) (nf : Nat) : Prop where
  M : MAt pw G mc s.2 ix
  f : G[nf]? = some (.lst (s.1.map encC))
  ln : G0.length ≤ G.length
  lf : G0.length ≤ nf
  kp : ∀ i, i < G0.length → i ≠ mc → (∀ n ∈ namesH hs0, i ≠ ix0 n) → G[i]? = G0[i]?
  ixs : ∀ n ∈ namesH s.2, ix n = ix0 n ∨ G0.length ≤ ix n
  nx : ∀ n ∈ namesH s.2, ix n ≠ nf
  mn : mc < G0.length
  nm : namesH s.2 = namesH hs0
end BB
end
section
set_option maxRecDepth 100000
set_option maxHeartbeats 4000000
namespace BB
open PySem PySem.Spec PyProof.Rows L2 OA
theorem TAt.start {pw : PW} {G : GH} {mc : Nat} {hs : Hs} {ix : Str → Nat} (M : MAt pw G mc hs ix) : TAt pw G mc hs ix ([], hs) (G ++ [.lst []]) ix G.length :=
  ⟨M.snoc _, by rw [List.getElem?_append_right (Nat.le_refl _), Nat.sub_self]; rfl, by rw [List.length_append]; omega, Nat.le_refl _, fun i h1 h2 h3 => List.getElem?_append_left h1, fun n hn => .inl rfl, fun n hn => Nat.ne_of_lt (M.ltI hn), M.lt, rfl⟩
end BB
end
section
set_option maxRecDepth 100000
set_option maxHeartbeats 4000000
namespace BB
open PySem PySem.Spec PyProof.Rows L2 OA
structure Wl where
  a : Int
  b : Int
  c : Int
def Wl.cell (w : Wl) : Cell := .lst [.int w.a, .int w.b, .int w.c]
def Wl.ok (w : Wl) (k : Int) : Prop := 0 ≤ w.c ∧ w.c < k
theorem Wl.ok.mono {w : Wl} {k l : Int} (h : w.ok k) (kl : k ≤ l) : w.ok l := ⟨h.1, Int.lt_of_lt_of_le h.2 kl⟩
noncomputable def F_drawD : List D → GH → R D := defF ["_law_well_here", "_law_size", "_law_found", "_law_salt", "_law_number"] bd__law_draw
theorem m_drawD (w : Wl) (m : Int) (n : Nat) (G : GH) (k : Int) (h : G[n]? = some w.cell) (hm : 0 < m) (hm2 : m < 18446744073709551616) (ok : w.ok k) (hk : k ≤ 1000000000) :
    ∃ (r : Int) (w' : Wl), F_drawD [.ref n, .int m] G = .ok (.int r) (G.set n w'.cell) ∧ 0 ≤ r ∧ r < m ∧ w'.ok (k + 1) := by
  obtain ⟨h0, hc⟩ := ok
  obtain ⟨a, b, c⟩ := w
  have h' : G[n]? = some (.lst [.int a, .int b, .int c]) := h
  have lt := K03.lt_of_get h
  have h0 : 0 ≤ c := h0
  have hc : c < k := hc
  have p0 : ∀ d, putO G (.ref n) (.int 0) d = some (G.set n (.lst [d, .int b, .int c])) := fun d => OA.putO_list (j := 0) d h' rfl
  have p2 : ∀ d, putO G (.ref n) (.int 2) d = some (G.set n (.lst [.int a, .int b, d])) := fun d => OA.putO_list (j := 2) d h' rfl
  have ap_put : ∀ (fo fi f : FE) (δ : DEnv) (G : GH), sPut fo fi f δ G = (f δ G).thn δ fun d G1 => (fo δ G1).thn δ fun o G2 => (fi δ G2).thn δ fun i G3 => match putO G3 o i d with | some G4 => .nx δ G4 | none => .no := fun _ _ _ _ _ => rfl
  by_cases ha : 0 < a
  · refine ⟨a % m, ⟨a / m, b, c⟩, ?_, Int.emod_nonneg _ (by omega), Int.emod_lt_of_pos _ hm, h0, by show c < k + 1; omega⟩
    simp [F_drawD, defF_ap, startD, bd__law_draw, ap_put, p0, dIx_ref _ _ _ h', h', ixN, ha, hm, hm2, Wl.cell]
  · have h2 : (G.set n (.lst [.int a, .int b, .int (c + 1)]))[n]? = some (.lst [.int a, .int b, .int (c + 1)]) := by simp [lt]
    obtain ⟨base, eb⟩ : ∃ x, x = b % 2147483629 + 7919 * (c + 1) + b / 2147483629 % 65521 + 1 := ⟨_, rfl⟩
    obtain ⟨n1, e1⟩ : ∃ x, x = base ^ 5 % 2147483647 := ⟨_, rfl⟩
    obtain ⟨n2, e2⟩ : ∃ x, x = n1 * (n1 / 1009 + 69621 + (c + 1)) % 2147483629 := ⟨_, rfl⟩
    have hb : base.natAbs < 18446744073709551616 := by
      have a1 := Int.emod_nonneg b (show (2147483629 : Int) ≠ 0 by omega)
      have a2 := Int.emod_lt_of_pos b (show (0 : Int) < 2147483629 by omega)
      have a3 := Int.emod_nonneg (b / 2147483629) (show (65521 : Int) ≠ 0 by omega)
      have a4 := Int.emod_lt_of_pos (b / 2147483629) (show (0 : Int) < 65521 by omega)
      omega
    have b1 := Int.emod_nonneg (base ^ 5) (show (2147483647 : Int) ≠ 0 by omega)
    have b2 := Int.emod_lt_of_pos (base ^ 5) (show (0 : Int) < 2147483647 by omega)
    have b3 := Int.emod_nonneg (n1 * (n1 / 1009 + 69621 + (c + 1))) (show (2147483629 : Int) ≠ 0 by omega)
    have b4 := Int.emod_lt_of_pos (n1 * (n1 / 1009 + 69621 + (c + 1))) (show (0 : Int) < 2147483629 by omega)
    rw [← e1] at b1 b2
    rw [← e2] at b3 b4
    have c0 : (-18446744073709551616 < c + 1 ∧ c + 1 < 18446744073709551616) := by omega
    have c1 : (-18446744073709551616 < n1 ∧ n1 < 18446744073709551616) := by omega
    have c2 : (-18446744073709551616 < n2 ∧ n2 < 18446744073709551616) := by omega
    refine ⟨n2 * (n2 / 2003 + 40692) % 2147483399 % m, ⟨a, b, c + 1⟩, ?_, Int.emod_nonneg _ (by omega), Int.emod_lt_of_pos _ hm, by show 0 ≤ c + 1; omega, by show c + 1 < k + 1; omega⟩
    simp [F_drawD, defF_ap, startD, bd__law_draw, ap_put, p2, dIx_ref _ _ _ h', h', dIx_ref _ _ _ h2, h2, ixN, ha, hm, hm2, Wl.cell, ← eb, hb, ← e1, c0, c1, ← e2, c2]
noncomputable def F_wellD : List D → GH → R D := defF ["_law_cell"] bd__law_well
theorem m_wellD (c : Int) (G : GH) : ∃ w : Wl, F_wellD [.int c] G = .ok (.ref G.length) (G ++ [w.cell]) ∧ w.ok 1 := by
  refine ⟨⟨if c ≥ 10 ^ 18 then c else 0, c, 0⟩, ?_, Int.le_refl _, by show (0 : Int) < 1; decide⟩
  have p18 : dPow (.int 10) (.int 18) G = .ok (.int (10 ^ 18)) G := by simp
  have st : startD ["_law_cell"] [D.int c] = [some (.int c)] := rfl
  unfold F_wellD bd__law_well
  rw [defF_ap, st]
  have sz3 : (3 : Nat) ≤ sizeLine := by decide
  have sz2 : (2 : Nat) ≤ sizeLine := by decide
  by_cases h : (1000000000000000000 : Int) ≤ c
  · simp [Wl.cell, h, sz3, sz2]
  · simp [Wl.cell, h, sz3, sz2]
noncomputable def F_oneD : List D → GH → R D := defF ["_law_well_here", "_law_some"] (bd__law_one F_drawD)
theorem m_oneD (w : Wl) (xs : List D) (n : Nat) (G : GH) (k : Int) (h : G[n]? = some w.cell) (h1 : 0 < xs.length) (h2 : xs.length < 1000000) (ok : w.ok k) (hk : k ≤ 1000000000) :
    ∃ (d : D) (w' : Wl), F_oneD [.ref n, .lst xs] G = .ok d (G.set n w'.cell) ∧ d ∈ xs ∧ w'.ok (k + 1) := by
  obtain ⟨r, w', e, r0, r1, c1⟩ := m_drawD w xs.length n G k h (by omega) (by omega) ok hk
  have hj : r.toNat < xs.length := by omega
  have er : r = ((r.toNat : Nat) : Int) := by omega
  have ea : atI xs r = some xs[r.toNat] := (congrArg (atI xs) er).trans (by rw [atI_nat2]; simp [hj])
  refine ⟨xs[r.toNat], w', ?_, List.getElem_mem hj, c1⟩
  simp [F_oneD, defF_ap, startD, bd__law_one, e, ea]
noncomputable def F_atD : List D → GH → R D := defF ["_law_script", "_law_k"] bd__law_cell_at
end BB
end
section
set_option maxRecDepth 100000
set_option maxHeartbeats 4000000
namespace BB
open PySem PySem.Spec PyProof.Rows L2 OA
def sixN : List Str := ["a", "aa", "ab", "b", "ba", "bb"]
def sevN : List Str := ["a", "aa", "ab", "b", "ba", "bb", "q"]
theorem sev_ok : K03.nsOk sevN := by
  have : sevN.all (fun n => K03.nmOk n && PyData.strOk n) = true := by decide +kernel
  intro n hn
  have := List.all_eq_true.mp this n hn
  exact Bool.and_eq_true_iff.mp this
structure WInv (left : List Str) (ps : List (Str × Tr)) (i : Nat) : Prop where
  nd : (left ++ ps.map (·.1)).Nodup
  nm : ∀ x ∈ left ++ ps.map (·.1), x ∈ sixN
  ok : ∀ p ∈ ps, okT sevN 2 p.2 ∧ szT p.2 = 0
  ln : ps.length = i
theorem six_sev {x : Str} (h : x ∈ sixN) : x ∈ sevN := by
  simp only [sixN, List.mem_cons, List.not_mem_nil, or_false] at h
  simp only [sevN, List.mem_cons, List.not_mem_nil, or_false]
  rcases h with h | h | h | h | h | h <;> simp [h]
theorem erase_perm {α : Type} : ∀ (l : List α) (j : Nat) (h : j < l.length), (l[j] :: l.eraseIdx j).Perm l
  | [], j, h => absurd h (Nat.not_lt_zero _)
  | x :: l, 0, _ => .refl _
  | x :: l, j + 1, h => by
    have ih := erase_perm l j (Nat.lt_of_succ_lt_succ h)
    show (l[j]'(Nat.lt_of_succ_lt_succ h) :: x :: l.eraseIdx j).Perm (x :: l)
    exact (List.Perm.swap ..).trans (ih.cons x)
theorem WInv.step {left : List Str} {ps : List (Str × Tr)} {i j : Nat} (W : WInv left ps i) (hj : j < left.length) {t : Tr} (okt : okT sevN 2 t) (sz : szT t = 0) : WInv (left.eraseIdx j) (ps ++ [(left[j], t)]) (i + 1) := by
  have pm : (left.eraseIdx j ++ (ps ++ [(left[j], t)]).map (·.1)).Perm (left ++ ps.map (·.1)) := by
    rw [List.map_append]
    show (left.eraseIdx j ++ (ps.map (·.1) ++ [left[j]])).Perm _
    have e1 : (left.eraseIdx j ++ (ps.map (·.1) ++ [left[j]])).Perm (left.eraseIdx j ++ ([left[j]] ++ ps.map (·.1))) := List.Perm.append_left _ List.perm_append_comm
    refine e1.trans ?_
    rw [← List.append_assoc]
    exact (List.perm_append_comm.trans (erase_perm left j hj)).append_right _
  refine ⟨pm.nodup_iff.mpr W.nd, fun x hx => W.nm x (pm.mem_iff.mp hx), fun p hp => ?_, by rw [List.length_append, W.ln]; rfl⟩
  rcases List.mem_append.mp hp with hp | hp
  · exact W.ok p hp
  · rw [List.mem_singleton.mp hp]; exact ⟨okt, sz⟩
theorem sz0 {ps : List (Str × Tr)} (h : ∀ p ∈ ps, szT p.2 = 0) : (ps.map fun p => 1 + szT p.2).sum = ps.length := by
  induction ps with
  | nil => rfl
  | cons p ps ih =>
    rw [List.map_cons, List.sum_cons, h p (.head _), ih fun q hq => h q (.tail _ hq), List.length_cons]
    omega
def LWish (t : Tr) : Prop := okT sevN 6 t ∧ szT t ≤ 40 ∧ ∃ ps, t = .node true ps
theorem WInv.done {left : List Str} {ps : List (Str × Tr)} {i : Nat} (W : WInv left ps i) (hi : i ≤ 6) : LWish (.node true [("q", .node false ps)]) := by
  have nd2 := (List.nodup_append.mp W.nd).2.1
  have oki : okT sevN 5 (.node false ps) := ⟨nd2, fun n hn => six_sev (W.nm n (List.mem_append_right _ hn)), fun h => (by cases h), fun p hp => okT_mono sevN (r := 2) (by decide) (W.ok p hp).1⟩
  refine ⟨⟨List.pairwise_singleton _ _, fun n hn => ?_, fun _ => List.pairwise_singleton _ _, fun p hp => ?_⟩, ?_, _, rfl⟩
  · rw [List.mem_singleton.mp hn]
    show ("q" : Str) ∈ sevN
    decide +kernel
  · rw [List.mem_singleton.mp hp]; exact oki
  · rw [szT_node, List.map_cons, List.map_nil, List.sum_cons]
    show (1 + szT (.node false ps)) + 0 ≤ 40
    rw [szT_node, sz0 fun p hp => (W.ok p hp).2]
    have := W.ln
    omega
end BB
end
section
set_option maxRecDepth 100000
set_option maxHeartbeats 4000000
namespace BB
open PySem PySem.Spec PyProof.Rows L2 OA
theorem sm_leaf {ns : List Str} {r : Nat} {u : Tr} (ok : okT ns r u) (hv : isVal u = true) : (K03.pyT u).weight ≤ 2000 ∧ (K03.pyT u).depth ≤ 1 := by
  cases r with
  | zero => exact ok.elim
  | succ r =>
    cases u with
    | node m ps => cases hv
    | val i =>
      have h : -(10 ^ 30) < i ∧ i < 10 ^ 30 := ok
      rw [K03.pyT]
      refine ⟨?_, by simp [PyData.depth, PyData.depthAll]⟩
      simp [PyData.weight, PyData.weightAll]
      have e5 : (("value" : Str)).cps.size = 5 := by decide +kernel
      have := K03.log_small h
      split <;> omega
    | txt x =>
      have lf : okS x = true := ok
      have h1 := Bool.and_eq_true_iff.mp lf
      have h2 := Bool.and_eq_true_iff.mp h1.1
      have h3 := of_decide_eq_true h2.2
      rw [K03.pyT]
      refine ⟨?_, by simp [PyData.depth, PyData.depthAll]⟩
      simp only [PyData.weight, PyData.weightAll]
      have h3 : x.cps.size ≤ 1000 := h3
      have : ("value" : Str).cps.size = 5 := by decide +kernel
      omega
theorem smT {ns : List Str} (hns : K03.nsOk ns) : ∀ (r : Nat) (u : Tr), okT ns r u → (K03.pyT u).showable = true ∧ (K03.pyT u).depth ≤ 3 * r ∧ (K03.pyT u).canLay0 = true ∧ (K03.pyT u).intsShort 64 = true ∧ (K03.pyT u).weight ≤ 2100 * szT u + 2000
  | 0, u, h => by cases u <;> exact h.elim
  | r + 1, u, h => by
    cases hu : u with
    | val i =>
      subst hu
      have S := sm_val h rfl
      have L := sm_leaf h rfl
      exact ⟨S.sh, by have := L.2; omega, S.cl, S.sm, by have := L.1; omega⟩
    | txt i =>
      subst hu
      have S := sm_val h rfl
      have L := sm_leaf h rfl
      exact ⟨S.sh, by have := L.2; omega, S.cl, S.sm, by have := L.1; omega⟩
    | node m ps =>
      subst hu
      obtain ⟨nd, nm, so, sub⟩ := h
      have key : ∀ qs : List (Str × Tr), (∀ q ∈ qs, q.1 ∈ ns ∧ okT ns r q.2) → PyData.showableAll (K03.pyP qs) = true ∧ PyData.depthAll (K03.pyP qs) ≤ 3 * r + 1 ∧ PyData.canLayAll0 (K03.pyP qs) = true ∧ PyData.intsShortAll 64 (K03.pyP qs) = true ∧ PyData.weightAll (K03.pyP qs) ≤ 2100 * szP qs := by
        intro qs
        induction qs with
        | nil => intro _; exact ⟨rfl, Nat.zero_le _, rfl, rfl, Nat.zero_le _⟩
        | cons q qs ih =>
          intro hq
          obtain ⟨n, t⟩ := q
          obtain ⟨a, b, c, d, e⟩ := ih fun z hz => hq z (.tail _ hz)
          obtain ⟨n1, ot⟩ := hq (n, t) (.head _)
          obtain ⟨a1, b1, c1, d1, e1⟩ := smT hns r t ot
          obtain ⟨k1, k2⟩ := hns n n1
          have k3 : n.cps.size ≤ 8 := OA.nm_len k1
          rw [K03.pyP]
          refine ⟨?_, ?_, ?_, ?_, ?_⟩
          · simp only [PyData.showableAll, PyData.showable, a, a1, Bool.and_true]
          · simp only [PyData.depthAll, PyData.depth]; omega
          · simp only [PyData.canLayAll0, PyData.canLay0, c, c1, k2, Bool.and_true]
          · simp only [PyData.intsShortAll, PyData.intsShort, d, d1, Bool.and_true]
          · simp only [PyData.weightAll, PyData.weight]
            rw [szP]
            omega
      obtain ⟨a, b, c, d, e⟩ := key ps fun q hq => ⟨nm q.1 (List.mem_map_of_mem hq), sub q hq⟩
      have kk : PyData.strOk (kindS m) = true ∧ (kindS m).cps.size ≤ 4 := by cases m <;> decide +kernel
      rw [K03.pyT]
      refine ⟨?_, ?_, ?_, ?_, ?_⟩
      · simp only [PyData.showableAll, PyData.showable, a, Bool.and_true]
      · simp only [PyData.depthAll, PyData.depth]; omega
      · simp only [PyData.canLayAll0, PyData.canLay0, c, kk.1, Bool.and_true]
      · simp only [PyData.intsShortAll, PyData.intsShort, d, Bool.and_true]
      · simp only [PyData.weightAll, PyData.weight]
        rw [szT]
        have := kk.2
        omega
theorem rep_T {ns : List Str} (hns : K03.nsOk ns) {u : Tr} (ok : okT ns 6 u) (sz : szT u ≤ 40) (G : GH) : dRepr2 (encT u) G = .ok (.str (K03.pyT u).shown) G := by
  have P := pd_T hns 6 u ok
  obtain ⟨a, b, c, d, e⟩ := smT hns 6 u ok
  exact OA.repr2_ok (by rw [P.rs]; exact P.py) ⟨a, by omega, c, d, by omega⟩
end BB
end
section
set_option maxRecDepth 100000
set_option maxHeartbeats 4000000
namespace BB
open PySem PySem.Spec PyProof.Rows L2 OA
structure MTo (pw : PW) (G : GH) (mc : Nat) (hs : Hs) (ix : Str → Nat) (G2 : GH) (hs2 : Hs) (ix2 : Str → Nat) : Prop where
  M : MAt pw G2 mc hs2 ix2
  ln : G.length ≤ G2.length
  kp : ∀ i, i < G.length → i ≠ mc → (∀ n ∈ namesH hs, i ≠ ix n) → G2[i]? = G[i]?
  ixs : ∀ n ∈ namesH hs2, (n ∈ namesH hs ∧ ix2 n = ix n) ∨ G.length ≤ ix2 n
theorem MTo.put {pw : PW} {G : GH} {mc : Nat} {hs : Hs} {ix : Str → Nat} {G2 : GH} {hs2 : Hs} {ix2 : Str → Nat} (T : MTo pw G mc hs ix G2 hs2 ix2) (mn : mc < G.length) (w : Str) (h : Hd) :
    MTo pw G mc hs ix ((G2 ++ [Cell.dK (hdD pw h)]).set mc (Cell.dK (putD (hs2.map fun p : Str × Hd => ((.inr p.1 : Key), D.ref (ix2 p.1))) (.inr w) (.ref G2.length)))) (putH hs2 w h) (updI ix2 w G2.length) := by
  have ln := T.ln
  have gk : (G2 ++ [Cell.dK (hdD pw h)])[G2.length]? = some (.dK (hdD pw h)) := by rw [List.getElem?_append_right (Nat.le_refl _), Nat.sub_self]; rfl
  refine ⟨(T.M.snoc _).put gk (fun m hm => Nat.ne_of_lt (T.M.ltI hm)) (by omega), by rw [List.length_set, List.length_append]; omega, fun i h1 h2 h3 => ?_, fun m hm => ?_⟩
  · rw [List.getElem?_set_ne (Ne.symm h2), List.getElem?_append_left (by omega)]
    exact T.kp i h1 h2 h3
  · show _ ∨ _ ≤ (if m = w then G2.length else ix2 m)
    show (_ ∧ (if m = w then G2.length else ix2 m) = _) ∨ _
    by_cases c : m = w
    · rw [if_pos c]; exact .inr (by omega)
    · rw [if_neg c]
      have hm2 : m ∈ namesH hs2 := by
        by_cases d : w ∈ namesH hs2
        · rw [names_put_mem d] at hm; exact hm
        · rw [names_put_new d] at hm
          rcases List.mem_append.mp hm with hm | hm
          · exact hm
          · exact absurd (List.mem_singleton.mp hm) c
      exact T.ixs m hm2
end BB
end
section
set_option maxRecDepth 100000
set_option maxHeartbeats 4000000
namespace BB
open PySem PySem.Spec PyProof.Rows L2 OA
section
variable [Voc]
structure LOk (hs : Hs) : Prop where
  ok : HsOk nms hs
  nm : ∀ n ∈ namesH hs, n ∈ wrs
theorem LOk.nil : LOk [] := ⟨⟨List.nodup_nil, by decide, fun n hn => (by cases hn), fun p hp => (by cases hp)⟩, fun n hn => (by cases hn)⟩
theorem LOk.step {hs : Hs} (b : LOk hs) {w : Str} {t : Tr} (W : WishOk w t) : StepOk nms hs w t :=
  ⟨(wrs_ok w W.w).1, (wrs_ok w W.w).2, W.ok, W.sz, W.mp, b.ok, room_of b.ok.nd b.nm W.w⟩
theorem LOk.done {hs : Hs} (b : LOk hs) {w : Str} {t : Tr} (W : WishOk w t) : LOk (hsDone hs w t) := by
  have okB := takeB_ok b.ok W.ok (w := w) W.mp
  have nmB := takeB_names b.ok W.ok (w := w) W.mp
  have lB : (takeB hs w t).2.length = hs.length := by
    have := congrArg List.length nmB
    unfold namesH at this
    rwa [List.length_map, List.length_map] at this
  have rm : w ∈ namesH (takeB hs w t).2 ∨ (takeB hs w t).2.length < 8 := by rw [nmB, lB]; exact room_of b.ok.nd b.nm W.w
  refine ⟨okB.put (wrs_ok w W.w) (hdOf_ok nms_ok W.ok W.sz W.mp) rm, fun n hn => ?_⟩
  rcases mem_put_names.mp hn with h | h
  · rw [nmB] at h; exact b.nm n h
  · rw [h]; exact W.w
theorem LOk.rel {hs : Hs} (b : LOk hs) {w : Str} (hw : w ∈ namesH hs) {p : Pth} (hp : p ≠ []) : LOk (putH hs w ((lookH hs w).less p)) := by
  refine ⟨b.ok.put (b.ok.nm w hw) ((look_ok b.ok hw).less p hp) (.inl hw), fun n hn => ?_⟩
  rw [names_put_mem hw] at hn
  exact b.nm n hn
end
theorem rel_board {CB CH : Addr} {G : GH} {n m : Nat} {hs : Hs} (B : BAt CB CH G n m hs) (hs2 : Hs) : BAt CB CH (G.set m (.dK (encHs CH hs2))) n m hs2 :=
  ⟨B.ne, by rw [List.getElem?_set_ne B.ne]; exact B.b, List.getElem?_set_self B.ltm⟩
theorem node_pth {ns : List Str} (hns : K03.nsOk ns) {t : Tr} (ok : okT ns 6 t) {p : Pth} {u : Tr} (h : atT t p = some u) : pthOk p := by
  obtain ⟨h1, h2⟩ := atT_names ok h
  refine ⟨fun x hx => hns x (h1 x hx), by omega⟩
end BB
end
section
set_option maxRecDepth 100000
set_option maxHeartbeats 4000000
namespace BB
open PySem PySem.Spec PyProof.Rows L2 OA
theorem set_selfD {G : GH} {n : Nat} {c : Cell} (h : G[n]? = some c) : G.set n c = G := by
  obtain ⟨lt, e⟩ := List.getElem?_eq_some_iff.mp h
  refine List.ext_getElem? fun i => ?_
  by_cases c1 : n = i
  · subst c1; rw [List.getElem?_set_self lt, h]
  · rw [List.getElem?_set_ne c1]
end BB
end
section
set_option maxRecDepth 100000
set_option maxHeartbeats 4000000
namespace BB
open PySem PySem.Spec PyProof.Rows L2 OA
def wrL : List Str := ["ann", "anna", "b", "bo"]
theorem wrL_ok : ∀ w ∈ wrL, OA.nmOk w = true ∧ PyData.strOk w = true := by
  have : wrL.all (fun n => OA.nmOk n && PyData.strOk n) = true := by decide +kernel
  intro n hn
  have := List.all_eq_true.mp this n hn
  exact Bool.and_eq_true_iff.mp this
instance (priority := 9000) vocL : Voc := ⟨sevN, sev_ok, by decide, wrL, wrL_ok, by decide⟩
structure LAt (pw : PW) (CB CH : Addr) (H : GH) (iw n m mc : Nat) (hs : Hs) (ix : Str → Nat) (w : Wl) : Prop where
  W : H[iw]? = some w.cell
  B : BAt CB CH H n m hs
  M : MAt pw H mc hs ix
  b : LOk hs
  d1 : iw ≠ n
  d2 : iw ≠ m
  d3 : iw ≠ mc
  d4 : ∀ x ∈ namesH hs, iw ≠ ix x
  e1 : n ≠ mc
  e2 : m ≠ mc
  e3 : ∀ x ∈ namesH hs, m ≠ ix x
  e4 : ∀ x ∈ namesH hs, n ≠ ix x
section
variable {pw : PW} {CB CH : Addr} {H : GH} {iw n m mc : Nat} {hs : Hs} {ix : Str → Nat} {wl : Wl} (A : LAt pw CB CH H iw n m mc hs ix wl)
include A
theorem LAt.lt : iw < H.length := K03.lt_of_get A.W
theorem LAt.well (w' : Wl) : LAt pw CB CH (H.set iw w'.cell) iw n m mc hs ix w' :=
  ⟨List.getElem?_set_self A.lt, A.B.set A.d1 A.d2 _, A.M.oth (k := iw) _ A.d3 fun x hx => Ne.symm (A.d4 x hx), A.b, A.d1, A.d2, A.d3, A.d4, A.e1, A.e2, A.e3, A.e4⟩
theorem LAt.snoc (J : GH) : LAt pw CB CH (H ++ J) iw n m mc hs ix wl :=
  ⟨by rw [List.getElem?_append_left A.lt]; exact A.W, A.B.snoc J, A.M.snoc J, A.b, A.d1, A.d2, A.d3, A.d4, A.e1, A.e2, A.e3, A.e4⟩
theorem LAt.done {w : Str} {t : Tr} (W : WishOk w t) {H2 : GH} {ix2 : Str → Nat} (T : MTo pw (apG CB CH H n hs w t) mc hs ix H2 (hsDone hs w t) ix2) : LAt pw CB CH H2 iw n H.length mc (hsDone hs w t) ix2 wl := by
  have lH1 := ap_len A.B w t
  have lt := A.lt
  have ltn := A.B.lt
  have ltm := A.M.lt
  have lti := fun x hx => A.M.ltI (n := x) hx
  have B1 := ap_board A.B w t
  have W1 := (ap_keep A.B w t A.d1 lt).trans A.W
  have lnn : n ≠ H.length := by omega
  have ix2c : ∀ x ∈ namesH (hsDone hs w t), (x ∈ namesH hs ∧ ix2 x = ix x) ∨ H.length + 2 ≤ ix2 x := fun x hx => by
    have := T.ixs x hx
    rw [lH1] at this
    exact this
  refine ⟨(T.kp iw (by omega) A.d3 A.d4).trans W1, ⟨by omega, (T.kp n (by omega) A.e1 A.e4).trans B1.b, (T.kp H.length (by omega) (by omega) fun x hx => by have := lti x hx; omega).trans B1.h⟩, T.M, A.b.done W, A.d1, by omega, A.d3, fun x hx => ?_, A.e1, by omega, fun x hx => ?_, fun x hx => ?_⟩
  · rcases ix2c x hx with ⟨a, b⟩ | b
    · rw [b]; exact A.d4 x a
    · omega
  · rcases ix2c x hx with ⟨a, b⟩ | b
    · rw [b]; have := lti x a; omega
    · omega
  · rcases ix2c x hx with ⟨a, b⟩ | b
    · rw [b]; exact A.e4 x a
    · omega
theorem LAt.rel {w : Str} (hw : w ∈ namesH hs) {p : Pth} (hp : p ≠ []) (wl' : Wl) :
    LAt pw CB CH ((((H.set iw wl'.cell) ++ [Cell.dK (hdD pw ((lookH hs w).less p))]).set mc (Cell.dK (putD (hs.map fun p : Str × Hd => ((.inr p.1 : Key), D.ref (ix p.1))) (.inr w) (.ref H.length)))).set m (.dK (encHs CH (putH hs w ((lookH hs w).less p)))))
      iw n m mc (putH hs w ((lookH hs w).less p)) (updI ix w H.length) wl' := by
  have lt := A.lt
  have ltn := A.B.lt
  have ltmm := A.B.ltm
  have ltm := A.M.lt
  have lti := fun x hx => A.M.ltI (n := x) hx
  have nme := names_put_mem hw ((lookH hs w).less p)
  have A1 := (A.well wl').snoc [Cell.dK (hdD pw ((lookH hs w).less p))]
  have l1 : (H.set iw wl'.cell).length = H.length := List.length_set ..
  have gk : (H.set iw wl'.cell ++ [Cell.dK (hdD pw ((lookH hs w).less p))])[H.length]? = some (.dK (hdD pw ((lookH hs w).less p))) := by
    rw [List.getElem?_append_right (by omega), l1, Nat.sub_self]; rfl
  have M2 := MAt.put (n := w) A1.M gk (fun x hx => Nat.ne_of_lt (lti x hx)) (by omega)
  have B2 := A1.B.set (Ne.symm A.e1) (Ne.symm A.e2) (Cell.dK (putD (hs.map fun p : Str × Hd => ((.inr p.1 : Key), D.ref (ix p.1))) (.inr w) (.ref H.length)))
  have upc : ∀ x ∈ namesH (putH hs w ((lookH hs w).less p)), (x ∈ namesH hs ∧ updI ix w H.length x = ix x) ∨ updI ix w H.length x = H.length := fun x hx => by
    rw [nme] at hx
    by_cases c : x = w
    · exact .inr (if_pos c)
    · exact .inl ⟨hx, if_neg c⟩
  refine ⟨?_, rel_board B2 _, M2.oth (k := m) _ A.e2 fun x hx => ?_, A.b.rel hw hp, A.d1, A.d2, A.d3, fun x hx => ?_, A.e1, A.e2, fun x hx => ?_, fun x hx => ?_⟩
  · rw [List.getElem?_set_ne (Ne.symm A.d2), List.getElem?_set_ne (Ne.symm A.d3)]
    exact A1.W
  all_goals
    rcases upc x hx with ⟨a, b⟩ | b <;> rw [b]
  · exact Ne.symm (A.e3 x a)
  · omega
  · exact A.d4 x a
  · omega
  · exact A.e3 x a
  · omega
  · exact A.e4 x a
  · omega
end
theorem LAt.start (pw : PW) (CB CH : Addr) (G : GH) (w : Wl) : LAt pw CB CH (G ++ [w.cell] ++ [.ins CB (flB (G.length + 1 + 1))] ++ [.dK []] ++ [.dK []]) G.length (G.length + 1) (G.length + 1 + 1) (G.length + 1 + 1 + 1) [] (fun _ => 0) w := by
  have a : G ++ [w.cell] ++ [Cell.ins CB (flB (G.length + 1 + 1))] ++ [Cell.dK []] ++ [Cell.dK []] = G ++ [w.cell, .ins CB (flB (G.length + 1 + 1)), .dK [], .dK []] := by simp
  rw [a]
  have g0 : ∀ c0 c1 c2 c3 : Cell, (G ++ [c0, c1, c2, c3])[G.length]? = some c0 := fun c0 c1 c2 c3 => by rw [List.getElem?_append_right (Nat.le_refl _), Nat.sub_self]; rfl
  exact ⟨g0 .., ⟨by omega, hp1 .., hp2 ..⟩, ⟨hp3 .., fun x hx => (by cases hx), fun x hx => (by cases hx), fun x hx => (by cases hx)⟩, .nil, by omega, by omega, by omega, fun x hx => (by cases hx), by omega, by omega, fun x hx => (by cases hx), fun x hx => (by cases hx)⟩
end BB
end
section
set_option maxRecDepth 100000
set_option maxHeartbeats 4000000
namespace BB
open PySem PySem.Spec PyProof.Rows L2 OA
abbrev h1G (G : GH) (n : Nat) (w : Wl) (c : Cell) : GH := G.set n w.cell ++ [c]
section
variable {G : GH} {n : Nat} (lt : n < G.length)
include lt
theorem h1_w (w : Wl) (c : Cell) : (h1G G n w c)[n]? = some w.cell := by
  rw [List.getElem?_append_left (by rw [List.length_set]; exact lt)]; exact List.getElem?_set_self lt
theorem h1_s (w w' : Wl) (c : Cell) : (h1G G n w c).set n w'.cell = h1G G n w' c := by
  unfold h1G
  rw [List.set_append_left _ _ (by rw [List.length_set]; exact lt), List.set_set]
omit lt in
theorem h1_c (w : Wl) (c : Cell) : (h1G G n w c)[G.length]? = some c := by
  unfold h1G
  rw [List.getElem?_append_right (by rw [List.length_set]; exact Nat.le_refl _), List.length_set, Nat.sub_self]; rfl
omit lt in
theorem h1_sc (w : Wl) (c c' : Cell) : (h1G G n w c).set G.length c' = h1G G n w c' := by
  unfold h1G
  rw [List.set_append_right _ _ (by rw [List.length_set]; exact Nat.le_refl _), List.length_set, Nat.sub_self]; rfl
end
end BB
end
section
set_option maxRecDepth 100000
set_option maxHeartbeats 4000000
namespace BB
open PySem PySem.Spec PyProof.Rows L2 OA
theorem wl_closed (w : Wl) (n : Nat) : closedC n w.cell := pures0_cons (pure0_int _) (pures0_cons (pure0_int _) (pures0_cons (pure0_int _) pures0_nil)) _
theorem fz_wl {G J : GH} {n : Nat} {w : Wl} {d d' : D} (lt : n < G.length) (e : fzD (G.set n w.cell ++ J) G.length d = some d') : fzR G (.ok d (G.set n w.cell ++ J)) = .ok d' (G.set n w.cell) :=
  fzR_ok2 (by simp) (fun k c hk ek => by
    by_cases hn : n = k
    · subst hn
      rw [List.getElem?_set_self lt] at ek
      cases ek
      exact .inr (wl_closed w _)
    · rw [List.getElem?_set_ne hn] at ek
      exact .inl ek) e
theorem okS_e : okS "" = true := by decide +kernel
theorem ps_sum {ps : List (Str × Tr)} {s m : Nat} (h : ∀ p ∈ ps, szT p.2 ≤ s) (l : ps.length ≤ m) : (ps.map fun p => 1 + szT p.2).sum ≤ m * (1 + s) := by
  have : (ps.map fun p => 1 + szT p.2).sum ≤ ps.length * (1 + s) := by
    induction ps with
    | nil => exact Nat.zero_le _
    | cons p ps ih =>
      have h1 := ih (fun q hq => h q (.tail _ hq)) (by rw [List.length_cons] at l; omega)
      have h2 := h p (.head _)
      rw [List.map_cons, List.sum_cons, List.length_cons, Nat.succ_mul]
      omega
  exact Nat.le_trans this (Nat.mul_le_mul_right _ l)
end BB
end
section
set_option maxRecDepth 100000
set_option maxHeartbeats 4000000
namespace BB
open PySem PySem.Spec PyProof.Rows L2 OA
theorem MAt.drop {pw : PW} {G : GH} {mc : Nat} {hs : Hs} {ix : Str → Nat} (M : MAt pw G mc hs ix) (w : Str) : MAt pw (G.set mc (.dK ((dropH hs w).map fun p => ((.inr p.1 : Key), D.ref (ix p.1))))) mc (dropH hs w) ix := by
  have sub : ∀ x, x ∈ namesH (dropH hs w) → x ∈ namesH hs ∧ x ≠ w := fun x hx => names_drop_mem.mp hx
  refine ⟨List.getElem?_set_self M.lt, fun x hx => ?_, fun a ha b hb e => M.inj a (sub a ha).1 b (sub b hb).1 e, fun x hx => M.ne x (sub x hx).1⟩
  rw [List.getElem?_set_ne (Ne.symm (M.ne x (sub x hx).1)), M.cell x (sub x hx).1, look_drop (sub x hx).2]
theorem LAt.drop {pw : PW} {CB CH : Addr} {H : GH} {iw n m mc : Nat} {hs : Hs} {ix : Str → Nat} {wl : Wl} (A : LAt pw CB CH H iw n m mc hs ix wl) (w : Str) :
    LAt pw CB CH ((H.set mc (.dK ((dropH hs w).map fun p => ((.inr p.1 : Key), D.ref (ix p.1))))).set m (.dK (encHs CH (dropH hs w)))) iw n m mc (dropH hs w) ix wl := by
  have sub : ∀ x, x ∈ namesH (dropH hs w) → x ∈ namesH hs := fun x hx => (names_drop_mem.mp hx).1
  have B2 := A.B.set (Ne.symm A.e1) (Ne.symm A.e2) (Cell.dK ((dropH hs w).map fun p => ((.inr p.1 : Key), D.ref (ix p.1))))
  refine ⟨?_, rel_board B2 _, (A.M.drop w).oth (k := m) _ A.e2 fun x hx => Ne.symm (A.e3 x (sub x hx)), ⟨A.b.ok.drop w, fun x hx => A.b.nm x (sub x hx)⟩, A.d1, A.d2, A.d3, fun x hx => A.d4 x (sub x hx), A.e1, A.e2, fun x hx => A.e3 x (sub x hx), fun x hx => A.e4 x (sub x hx)⟩
  rw [List.getElem?_set_ne (Ne.symm A.d2), List.getElem?_set_ne (Ne.symm A.d3)]
  exact A.W
inductive StpR (hs : Hs) : Hs → Prop
  | same : StpR hs hs
  | done {w : Str} {t : Tr} (W : WishOk w t) : StpR hs (hsDone hs w t)
  | rel {w : Str} {p : Pth} (hn : w ∈ namesH hs) (hp : p ≠ []) : StpR hs (putH hs w ((lookH hs w).less p))
  | drop (w : Str) : StpR hs (dropH hs w)
end BB
end
section
set_option maxRecDepth 100000
set_option maxHeartbeats 4000000
namespace BB
open PySem PySem.Spec PyProof.Rows L2 OA
def fiveT : List Str := ["a", "aa", "ab", "b", "ba"]
theorem fiveT_nd : fiveT.Nodup := by decide +kernel
theorem fiveT_ok : K03.nsOk fiveT := by
  have : fiveT.all (fun n => K03.nmOk n && PyData.strOk n) = true := by decide +kernel
  intro n hn
  have := List.all_eq_true.mp this n hn
  exact Bool.and_eq_true_iff.mp this
structure NmsT (m : Nat) (nms : List Str) : Prop where
  nd : nms.Nodup
  nm : ∀ x ∈ nms, x ∈ fiveT
  ln : nms.length ≤ m
theorem pop_stepT {G : GH} {n : Nat} (lt : n < G.length) {w : Wl} {k : Int} {left : List Str} (ok : w.ok k) (hk : k ≤ 1000000000) (l0 : 0 < left.length) (l1 : left.length ≤ 5) :
    ∃ (j : Nat) (w' : Wl) (hj : j < left.length), F_drawD [.ref n, .int (left.length : Nat)] (h1G G n w (.lst (left.map D.str))) = .ok (.int (j : Nat)) (h1G G n w' (.lst (left.map D.str))) ∧ w'.ok (k + 1) ∧
      mPopAt (.ref G.length) [.int (j : Nat)] (h1G G n w' (.lst (left.map D.str))) = .ok (.str left[j]) (h1G G n w' (.lst ((left.eraseIdx j).map D.str))) := by
  obtain ⟨r, w4, e6, r0, r1, ok4⟩ := m_drawD w left.length n (h1G G n w (.lst (left.map D.str))) k (h1_w lt ..) (by omega) (by omega) ok hk
  rw [h1_s lt] at e6
  obtain ⟨rj, rfl⟩ : ∃ j : Nat, r = j := ⟨r.toNat, by omega⟩
  have rl : rj < left.length := by omega
  refine ⟨rj, w4, rl, e6, ok4, ?_⟩
  rw [mPopAt_ap (j := rj) (h1_c ..) rfl (by rw [List.length_map]; exact rl) (by rw [List.length_map]; omega), h1_sc, erase_map, List.getElem_map]
theorem pop_nmsT {left nms : List Str} {j : Nat} (hj : j < left.length) (nd : (left ++ nms).Nodup) (nm : ∀ x ∈ left ++ nms, x ∈ fiveT) : (left.eraseIdx j ++ (nms ++ [left[j]])).Nodup ∧ ∀ x ∈ left.eraseIdx j ++ (nms ++ [left[j]]), x ∈ fiveT := by
  have pm : (left.eraseIdx j ++ (nms ++ [left[j]])).Perm (left ++ nms) := by
    have e1 : (left.eraseIdx j ++ (nms ++ [left[j]])).Perm (left.eraseIdx j ++ ([left[j]] ++ nms)) := List.Perm.append_left _ List.perm_append_comm
    refine e1.trans ?_
    rw [← List.append_assoc]
    exact (List.perm_append_comm.trans (erase_perm left j hj)).append_right _
  exact ⟨pm.nodup_iff.mpr nd, fun x hx => nm x (pm.mem_iff.mp hx)⟩
abbrev N_namesT : List Str := ["_law_well_here", "_law_most", "_law_left", "_law_k"]
noncomputable def F_namesT : List D → GH → R D := fun ds G => fzR G (defF N_namesT (be__law_names F_drawD) ds G)
theorem m_namesT {w : Wl} {n : Nat} {G : GH} {k : Int} (h : G[n]? = some w.cell) {m : Nat} (hm : m ≤ 3) (ok : w.ok k) (hk : k + 10 ≤ 1000000000) :
    ∃ (nms : List Str) (w' : Wl), F_namesT [.ref n, .int (m : Nat)] G = .ok (.lst (nms.map D.str)) (G.set n w'.cell) ∧ NmsT m nms ∧ w'.ok (k + 5) := by
  have lt := K03.lt_of_get h
  have ef : [D.str "a", D.str "aa", D.str "ab", D.str "b", D.str "ba"] = fiveT.map D.str := rfl
  have e0 : G ++ [Cell.lst (fiveT.map D.str)] = h1G G n w (.lst (fiveT.map D.str)) := by
    unfold h1G
    rw [set_selfD h]
  obtain ⟨r, w1, e1, r0, r1, ok1⟩ := m_drawD w ((m : Int) + 1) n (h1G G n w (.lst (fiveT.map D.str))) k (h1_w lt ..) (by omega) (by omega) ok (by omega)
  rw [h1_s lt] at e1
  obtain ⟨im, rfl⟩ : ∃ j : Nat, r = j := ⟨r.toNat, by omega⟩
  have rk : ∀ G, rng1K [.int (im : Nat)] G = .ok (rngIts 0 im) G := fun G => rng1K_nat (by omega)
  have run : (defF N_namesT (be__law_names F_drawD) [.ref n, .int (m : Nat)] G).wp (fun d H => ∃ (nms left : List Str) (w' : Wl), d = .lst (nms.map D.str) ∧ H = h1G G n w' (.lst (left.map D.str)) ∧ NmsT m nms ∧ w'.ok (k + 5)) noX := by
    unfold be__law_names
    and_intros
    have ll5 : (fiveT.map D.str).length ≤ sizeLine := by rw [List.length_map]; exact Nat.le_trans (show _ ≤ 5 by decide) (by decide)
    exists ef, ll5, e0, e1, rk
    refine lc_inv (fun j : Nat => D.int (0 + (j : Nat))) (List.range im) (fun pre acc H => ∃ (nms left : List Str) (w' : Wl), acc = nms.map D.str ∧ H = h1G G n w' (.lst (left.map D.str)) ∧ w'.ok (k + 1 + (pre.length : Int)) ∧ (left ++ nms).Nodup ∧ (∀ x ∈ left ++ nms, x ∈ fiveT) ∧ left.length + nms.length = 5 ∧ nms.length = pre.length) ⟨[], fiveT, w1, rfl, rfl, ok1.mono (by simp), by rw [List.append_nil]; exact fiveT_nd, fun x hx => by rwa [List.append_nil] at hx, rfl, rfl⟩ (by rw [List.length_range]; exact Nat.le_trans (show _ ≤ 5 by omega) (by decide)) (fun pre x post acc H e ⟨nms, left, w', ea, eH, okw, nd, nm, ll, lp⟩ => ?_) fun acc H ⟨nms, left, w', ea, eH, okw, nd, nm, ll, lp⟩ => ?_
    · subst ea eH
      have pl : pre.length < im := by
        have := congrArg List.length e
        rw [List.length_range, List.length_append, List.length_cons] at this
        omega
      obtain ⟨j, w2, hj, e2, ok2, e3⟩ := pop_stepT (n := n) lt (w := w') (left := left) okw (by omega) (by omega) (by omega)
      have dl : dLen (.ref G.length) (h1G G n w' (.lst (left.map D.str))) = .ok (.int (left.length : Nat)) (h1G G n w' (.lst (left.map D.str))) := by
        rw [dLen_ref _ G.length (xs := left.map D.str) (h1_c ..), List.length_map]
      have gc := fun w c => h1_c (G := G) (n := n) w c
      obtain ⟨nd2, nm2⟩ := pop_nmsT hj nd nm
      exists gc, dl, e2, e3
      refine ⟨nms ++ [left[j]], left.eraseIdx j, w2, ?_, rfl, ok2.mono (by omega), nd2, nm2, by rw [List.length_eraseIdx_of_lt hj, List.length_append, List.length_singleton]; omega, by rw [List.length_append, lp]; rfl⟩
      rw [List.map_append]; rfl
    · subst ea eH
      have lr : (List.range im).length = im := List.length_range
      rw [lr] at okw lp
      exists nilL
      exact ⟨nms, left, w', rfl, rfl, ⟨(List.nodup_append.mp nd).2.1, fun x hx => nm x (List.mem_append_right _ hx), by omega⟩, okw.mono (by omega)⟩
  obtain ⟨d, H, e, nms, left, w', rfl, rfl, o1, o2⟩ := R.wp_ex_iff.mp run
  refine ⟨nms, w', ?_, o1, o2⟩
  show fzR G (defF N_namesT _ _ _) = _
  rw [e]
  exact fz_wl lt (pures0_map pure0_str _ |> pure0_lst |> fun h => h _)
abbrev N_treeT : List Str := ["_law_well_here", "_law_deep", "_law_most", "_law_way", "_law_names_here", "_law_name"]
noncomputable def F_treeT : Nat → List D → GH → R D
  | 0 => fun _ _ => .no
  | k + 1 => defF N_treeT (be__law_tree F_drawD F_oneD F_namesT (F_treeT k))
def TreeT (d m : Nat) (c : Int) (s : Nat) : Prop := ∀ (f : Nat) (w : Wl) (n : Nat) (G : GH) (k : Int), d ≤ f → G[n]? = some w.cell → w.ok k → k + 1000 * ((d : Int) + 1) ≤ 1000000000 → ∃ (t : Tr) (w' : Wl), F_treeT (f + 1) [.ref n, .int ((d + 1 : Nat) : Int), .int (m : Nat)] G = .ok (encT t) (G.set n w'.cell) ∧ w'.ok (k + c) ∧ okT fiveT (d + 1) t ∧ szT t ≤ s
def leavesT : List D := [.int 0, .int 1, .int (-7), .str "", .str "x", .str "a b", .int (10 ^ 20)]
theorem okS_ab : okS "a b" = true := by decide +kernel
theorem leafT {d : D} (h : d ∈ leavesT) (r : Nat) : ∃ t, D.tup [.str "value", d] = encT t ∧ okT fiveT (r + 1) t ∧ szT t = 0 := by
  simp only [leavesT, List.mem_cons, List.not_mem_nil, or_false] at h
  rcases h with rfl | rfl | rfl | rfl | rfl | rfl | rfl
  · exact ⟨.val 0, by rw [encT_val], ⟨by decide, by decide⟩, rfl⟩
  · exact ⟨.val 1, by rw [encT_val], ⟨by decide, by decide⟩, rfl⟩
  · exact ⟨.val (-7), by rw [encT_val], ⟨by decide, by decide⟩, rfl⟩
  · exact ⟨.txt "", by rw [encT_txt], okS_e, rfl⟩
  · exact ⟨.txt "x", by rw [encT_txt], okS_x, rfl⟩
  · exact ⟨.txt "a b", by rw [encT_txt], okS_ab, rfl⟩
  · exact ⟨.val (10 ^ 20), by rw [encT_val], ⟨by decide, by decide⟩, rfl⟩
theorem tree_leafT {d m f : Nat} {w : Wl} {n : Nat} {G : GH} {k : Int} (h : G[n]? = some w.cell) (ok : w.ok k) (hk : k + 200 ≤ 1000000000) {r : Int} {w1 : Wl} (e1 : F_drawD [.ref n, .int 5] G = .ok (.int r) (G.set n w1.cell)) (ok1 : w1.ok (k + 1)) (c : (d = 0 ∧ 1 < r) ∨ r = 0) :
    ∃ (t : Tr) (w' : Wl), F_treeT (f + 1) [.ref n, .int ((d + 1 : Nat) : Int), .int (m : Nat)] G = .ok (encT t) (G.set n w'.cell) ∧ w'.ok (k + 2) ∧ okT fiveT (d + 1) t ∧ szT t = 0 := by
  have lt := K03.lt_of_get h
  obtain ⟨v, w2, e2, dm, ok2⟩ := m_oneD w1 leavesT n (G.set n w1.cell) (k + 1) (List.getElem?_set_self lt) (by decide) (by decide) ok1 (by omega)
  rw [List.set_set] at e2
  obtain ⟨t, et, o1, o2⟩ := leafT dm d
  refine ⟨t, w2, ?_, ok2.mono (by omega), o1, o2⟩
  rw [← et]
  refine R.eqn ?_
  show (defF N_treeT _ _ _).wp _ _
  unfold be__law_tree
  and_intros
  have p10 : Int.natAbs 10 < 2 ^ 64 := by decide
  have ev : [D.int 0, D.int 1, D.int (-7), D.str "", D.str "x", D.str "a b", D.int (10 ^ 20)] = leavesT := rfl
  by_cases c1 : r = 0
  · subst c1
    have c0 : (((d + 1 : Nat) : Int) ≤ 1 ∧ (1 : Int) < 0) = False := by simp
    by_cases c2 : d = 0
    · subst c2
      exists e1, p10, ev, e2
    · have c3 : decide (((d + 1 : Nat) : Int) ≤ 1) = false := decide_eq_false (by omega)
      exists e1, c3, p10, ev, e2
  · rcases c with ⟨rfl, c⟩ | c
    · have c3 : decide (1 < r) = true := decide_eq_true c
      exists e1, c3, p10, ev, e2
    · exact absurd c c1
end BB
end
section
set_option maxRecDepth 100000
set_option maxHeartbeats 4000000
namespace BB
open PySem PySem.Spec PyProof.Rows L2 OA
theorem tree0T (m : Nat) : TreeT 0 m 12 0 := fun f w n G k hf h ok hk => by
  have lt := K03.lt_of_get h
  obtain ⟨r, w1, e1, r0, r1, ok1⟩ := m_drawD w 5 n G k h (by decide) (by decide) ok (by omega)
  by_cases c : 1 < r ∨ r = 0
  · obtain ⟨t, w', e, o, o1, o2⟩ := tree_leafT (d := 0) (m := m) h ok (by omega) e1 ok1 (c.imp (fun c => ⟨rfl, c⟩) id)
    exact ⟨t, w', e, o.mono (by omega), o1, by omega⟩
  · have r1 : r = 1 := by omega
    subst r1
    obtain ⟨v, w2, e2, dm, ok2⟩ := m_oneD w1 [.str "map", .str "list"] n (G.set n w1.cell) (k + 1) (List.getElem?_set_self lt) (by decide) (by decide) ok1 (by omega)
    rw [List.set_set] at e2
    obtain ⟨b, rfl⟩ : ∃ b, v = .str (kindS b) := by
      simp only [List.mem_cons, List.not_mem_nil, or_false] at dm
      rcases dm with rfl | rfl
      · exact ⟨true, rfl⟩
      · exact ⟨false, rfl⟩
    refine ⟨.node b [], w2, ?_, ok2.mono (by omega), ⟨List.nodup_nil, fun _ h => absurd h List.not_mem_nil, fun _ => .nil, fun _ h => absurd h List.not_mem_nil⟩, Nat.le_refl _⟩
    rw [encT_node]
    refine R.eqn ?_
    show (defF N_treeT _ _ _).wp _ _
    unfold be__law_tree
    and_intros
    exists e1, e2
noncomputable def QT (src : FE) (f : Nat) : FE := (eLc mkF (iSeq src) (gNm 5) tYesD (eTup (aCons (eVar 5) (aCons (eCall 3 (F_treeT (f + 1)) [] (aCons (eVar 0) (aCons (eOp dSub (eVar 1) (eC (.int 1))) (aCons (eCB dMax2 (aCons (eC (.int 1)) (aCons (eOp dSub (eVar 2) (eC (.int 1))) aNil))) aNil)))) aNil))) [5])
theorem treeST {d m : Nat} {c : Int} {s : Nat} (hm : m ≤ 3) (hc0 : 0 ≤ c) (hc : c ≤ 300) (ih : TreeT d (max 1 (m - 1)) c s) (hm1 : 1 ≤ m) : TreeT (d + 1) m (10 + (m : Int) * c) (m * (1 + s)) := fun f w n G k hf h ok hk => by
  obtain ⟨f, rfl⟩ : ∃ j, f = j + 1 := ⟨f - 1, by omega⟩
  have lt := K03.lt_of_get h
  obtain ⟨r, w1, e1, r0, r1, ok1⟩ := m_drawD w 5 n G k h (by decide) (by decide) ok (by omega)
  by_cases c1 : r = 0
  · obtain ⟨t, w', e, o, o1, o2⟩ := tree_leafT (d := d + 1) (m := m) h ok (by omega) e1 ok1 (.inr c1)
    exact ⟨t, w', e, o.mono (by have : 0 ≤ (m : Int) * c := Int.mul_nonneg (by omega) hc0; omega), o1, by omega⟩
  · have c3 : decide (((d + 1 + 1 : Nat) : Int) ≤ 1) = false := decide_eq_false (by omega)
    have c2 : (r == 0) = false := by simpa using c1
    have h1 : (G.set n w1.cell)[n]? = some w1.cell := List.getElem?_set_self lt
    obtain ⟨nms, w2, e2, N, ok2⟩ := m_namesT h1 hm ok1 (by omega)
    rw [List.set_set] at e2
    have so := dSorted2_strs (xs := nms) fun x hx => (fiveT_ok x (N.nm x hx)).2
    have mx : ∀ G, dMax2 [.int 1, .int ((m : Int) - 1)] G = .ok (.int ((max 1 (m - 1) : Nat) : Int)) G := fun G => by
      unfold dMax2
      dsimp only
      congr 2
      by_cases q : (m : Int) - 1 > 1
      · rw [if_pos q]; omega
      · rw [if_neg q]; omega
    have dd : ((d + 1 + 1 : Nat) : Int) - 1 = ((d + 1 : Nat) : Int) := by omega
    have pairs : ∀ (src : FE) (nm2 : List Str), nm2.Perm nms → (∀ δ, δ[4]? = some (some (D.lst (nms.map D.str))) → ∀ G, src δ G = .ok (.lst (nm2.map D.str)) G) →
        (QT src f [some (.ref n), some (.int ((d + 1 + 1 : Nat) : Int)), some (.int (m : Nat)), some (.int r), some (.lst (nms.map D.str)), none] (G.set n w2.cell)).wp (fun v H => ∃ (ps : List (Str × Tr)) (w3 : Wl), v = .lst (ps.map encPr) ∧ H = G.set n w3.cell ∧ ps.map (·.1) = nm2 ∧ (∀ p ∈ ps, okT fiveT (d + 1) p.2 ∧ szT p.2 ≤ s) ∧ w3.ok (k + 7 + (m : Int) * c)) noX := fun src nm2 pm hs => by
      have l3 : nm2.length ≤ m := by rw [pm.length_eq]; exact N.ln
      have l2 : nm2.length ≤ 3 := by omega
      have es := hs [some (.ref n), some (.int ((d + 1 + 1 : Nat) : Int)), some (.int (m : Nat)), some (.int r), some (.lst (nms.map D.str)), none] rfl
      unfold QT
      exists es
      refine lc_inv D.str nm2 (fun pre acc H => ∃ (ps : List (Str × Tr)) (w3 : Wl), acc = ps.map encPr ∧ H = G.set n w3.cell ∧ ps.map (·.1) = pre ∧ (∀ p ∈ ps, okT fiveT (d + 1) p.2 ∧ szT p.2 ≤ s) ∧ w3.ok (k + 7 + (pre.length : Int) * c)) ⟨[], w2, rfl, rfl, rfl, fun p hp => (by cases hp), ok2.mono (by simp; omega)⟩ (Nat.le_trans (show _ ≤ 4 by omega) (by decide)) (fun pre x post acc H e ⟨ps, w3, ea, eH, en, hp, okw⟩ => ?_) fun acc H ⟨ps, w3, ea, eH, en, hp, okw⟩ => ?_
      · subst ea eH
        have pl : pre.length < 3 := by
          have := congrArg List.length e
          rw [List.length_append, List.length_cons] at this
          omega
        have pc : (pre.length : Int) * c ≤ 2 * c := Int.mul_le_mul_of_nonneg_right (by omega) hc0
        obtain ⟨t, w4, e4, ok4, o1, o2⟩ := ih f w3 n (G.set n w3.cell) _ (by omega) (List.getElem?_set_self lt) okw (by omega)
        rw [List.set_set] at e4
        exists dd, mx, e4
        refine ⟨ps ++ [(x, t)], w4, ?_, rfl, ?_, fun p hp' => ?_, ok4.mono ?_⟩
        · rw [List.map_append]; rfl
        · rw [List.map_append, en]; rfl
        · rcases List.mem_append.mp hp' with hp' | hp'
          · exact hp p hp'
          · rw [List.mem_singleton.mp hp']; exact ⟨o1, o2⟩
        · have : ((pre.length + 1 : Nat) : Int) * c = (pre.length : Int) * c + c := by rw [Int.natCast_add, Int.add_mul]; simp
          omega
      · subst ea eH
        exists nilL
        refine ⟨ps, w3, rfl, rfl, en, hp, okw.mono ?_⟩
        have : (nm2.length : Int) * c ≤ (m : Int) * c := Int.mul_le_mul_of_nonneg_right (by omega) hc0
        omega
    have runs : ∀ (b : Bool) (nm2 : List Str) (ps : List (Str × Tr)), nm2.Perm nms → (b = true → nm2.Pairwise fun a b => leS a b = true) → ps.map (·.1) = nm2 → (∀ p ∈ ps, okT fiveT (d + 1) p.2 ∧ szT p.2 ≤ s) → okT fiveT (d + 2) (.node b ps) ∧ szT (.node b ps) ≤ m * (1 + s) := fun b nm2 ps pm hb en hp => by
      refine ⟨⟨by rw [en]; exact pm.nodup_iff.mpr N.nd, fun x hx => by rw [en] at hx; exact N.nm x (pm.mem_iff.mp hx), fun q => ?_, fun p h => (hp p h).1⟩, ?_⟩
      · rw [en]; exact hb q
      · rw [szT_node]
        have lp : ps.length ≤ m := by
          have := congrArg List.length en
          rw [List.length_map, pm.length_eq] at this
          have := N.ln
          omega
        exact ps_sum (fun p h => (hp p h).2) lp
    by_cases c4 : r = 1
    · have c5 : (r == 1) = true := by simpa using c4
      obtain ⟨v, H, e3, ps, w3, rfl, rfl, en, hp, ok3⟩ := R.wp_ex_iff.mp (pairs (eVar 4) nms (List.Perm.refl _) fun δ hδ G => by unfold eVar; rw [hδ])
      obtain ⟨o1, o2⟩ := runs false nms ps (List.Perm.refl _) (fun q => nomatch q) en hp
      refine ⟨.node false ps, w3, ?_, ok3.mono (by omega), o1, o2⟩
      rw [encT_node]
      refine R.eqn ?_
      show (defF N_treeT _ _ _).wp _ _
      unfold be__law_tree
      rw [show (eLc mkF (iSeq (eVar 4)) (gNm 5) tYesD (eTup (aCons (eVar 5) (aCons (eCall 3 (F_treeT (f + 1)) [] (aCons (eVar 0) (aCons (eOp dSub (eVar 1) (eC (.int 1))) (aCons (eCB dMax2 (aCons (eC (.int 1)) (aCons (eOp dSub (eVar 2) (eC (.int 1))) aNil))) aNil)))) aNil))) [5]) = QT (eVar 4) f from rfl]
      and_intros
      exists e1, c3, c2, e2, c5, e3
      rfl
    · have c5 : (r == 1) = false := by simpa using c4
      obtain ⟨v, H, e3, ps, w3, rfl, rfl, en, hp, ok3⟩ := R.wp_ex_iff.mp (pairs (eCB (one (dSorted2 mkF)) (aCons (eVar 4) aNil)) (sortS nms) (sortS_perm _) fun δ hδ G => by
        refine R.eqn ?_
        exists hδ, so)
      obtain ⟨o1, o2⟩ := runs true (sortS nms) ps (sortS_perm _) (fun _ => sortS_sorted nms) en hp
      refine ⟨.node true ps, w3, ?_, ok3.mono (by omega), o1, o2⟩
      rw [encT_node]
      refine R.eqn ?_
      show (defF N_treeT _ _ _).wp _ _
      unfold be__law_tree
      rw [show (eLc mkF (iSeq (eCB (one (dSorted2 mkF)) (aCons (eVar 4) aNil))) (gNm 5) tYesD (eTup (aCons (eVar 5) (aCons (eCall 3 (F_treeT (f + 1)) [] (aCons (eVar 0) (aCons (eOp dSub (eVar 1) (eC (.int 1))) (aCons (eCB dMax2 (aCons (eC (.int 1)) (aCons (eOp dSub (eVar 2) (eC (.int 1))) aNil))) aNil)))) aNil))) [5]) = QT (eCB (one (dSorted2 mkF)) (aCons (eVar 4) aNil)) f from rfl]
      and_intros
      exists e1, c3, c2, e2, c5, e3
      rfl
theorem TreeT.up {d m : Nat} {c c' : Int} {s s' : Nat} (h : TreeT d m c s) (hc : c ≤ c') (hs : s ≤ s') : TreeT d m c' s' := fun f w n G k hf a b e => by
  obtain ⟨t, w', e1, e2, e3, e4⟩ := h f w n G k hf a b e
  exact ⟨t, w', e1, e2.mono (by omega), e3, by omega⟩
theorem treeT1 : ∀ d : Nat, d ≤ 5 → TreeT d 1 (12 + 10 * (d : Int)) d
  | 0, _ => (tree0T 1).up (by decide) (Nat.le_refl _)
  | d + 1, h => (treeST (m := 1) (by decide) (by omega) (by omega) (treeT1 d (by omega)) (by decide)).up (by omega) (by omega)
theorem treeT2 : ∀ d : Nat, d ≤ 5 → TreeT d 2 (14 + 20 * (d : Int)) (2 * d)
  | 0, _ => (tree0T 2).up (by decide) (Nat.le_refl _)
  | d + 1, h => (treeST (m := 2) (by decide) (by omega) (by omega) (treeT1 d (by omega)) (by decide)).up (by omega) (by omega)
theorem treeT3 : ∀ d : Nat, d ≤ 5 → TreeT d 3 300 30
  | 0, _ => (tree0T 3).up (by decide) (by decide)
  | d + 1, h => (treeST (m := 3) (by decide) (by omega) (by omega) (treeT2 d (by omega)) (by decide)).up (by omega) (by omega)
end BB
end
end CF
end
section
set_option maxRecDepth 100000
namespace CF
open PySem PySem.Spec PyProof.Rows L2
local macro_rules
  | `(tactic| exists $es,*) => `(tactic| simp (disch := first | assumption | omega | (simp only [List.length_set, List.length_append, List.length_cons, List.length_nil]; omega)) only [↓wp_ok, ↓wp_ex, ↓wp_bind, ↓wp_guard, ↓wp_nox, ↓sp_nx, ↓sp_rt, ↓sp_bk, ↓sp_ct, ↓sp_ex, ↓sp_seq, ↓sp_thn, ↓sp_guard,
      ↓w_eC, ↓w_eVar, ↓w_aNil, ↓w_aCons, ↓w_eTup, ↓w_eTupP, ↓w_eLst, ↓w_eLstM, ↓w_eOp, ↓w_eChain, ↓w_asB, ↓w_tAnd, ↓w_tOr, ↓w_tNot, ↓w_eTru, ↓w_eIf, ↓w_sNext, ↓w_sSeq, ↓w_sRet, ↓w_sRetN, ↓w_sIf, ↓w_sSet, ↓w_sDrop, ↓w_sBreak, ↓w_sCont, ↓w_gNm, ↓w_gsNil, ↓w_gsCons, ↓w_gTp, ↓w_sAsg, ↓w_eOne, ↓w_eUn, ↓w_eCB, ↓w_one, ↓w_eCall, ↓w_eAnd, ↓w_eOr, ↓w_eNot, ↓w_iSeq, ↓w_eLc, ↓w_mkF, ↓w_mkM, ↓w_tYes, ↓w_eMt, ↓w_eMt0, ↓w_iRg1, ↓w_sPut, ↓w_gPut, ↓w_sPar2, ↓w_sPar3, ↓w_sAugD, ↓w_eDict0, ↓w_mkKF, ↓w_mkKM, ↓w_eRev, ↓w_eGet2, ↓w_eLenSet2, ↓w_iEn, ↓w_iZp, ↓w_eCm, ↓w_cmDn, ↓w_cmDc, ↓w_eFld, ↓w_eMeth, ↓w_eMethK, ↓w_eMake, ↓w_sFldD, ↓w_sRaise, ↓w_sAugE, insOf_ins, putFD_nil, lstX_l, List.lookup_cons, List.lookup_nil, ↓w_emLd, ↓w_emKd, keyD_str, keyD_int, dKOf_dK, dKOf_ref, celL_ref, celD_ref, lstIts_lst, tupIts_tup, dEqT_str, dNeT_str, tupIts_pt, tupIts_lst, tupIts_scr, tupIts_ref, strsOf_map,
      wipeD_nil, wipeD_cons, List.cons_append, List.nil_append, List.append_nil, ap_setI, eSl_ap, eOpt_none, eOpt_some,
      List.getElem?_cons_zero, List.getElem?_cons_succ, List.set_cons_zero, List.set_cons_succ, List.length_cons, List.length_nil, List.length_set, Nat.zero_add, Nat.reduceAdd, Nat.reduceSub, Nat.add_one_sub_one, List.length_append,
      itsD_tup, itsD_pt, itsD_lst, itsD_scr, dIx_tup, dIx_pt, dIx_lst, dIx_scr, atI_0, atI_1, atI_2, dAdd_int, dAdd_tup, dAdd_pt, dAdd_lst, dAdd_str, dInt_int, dInt_bl, dStr_int, dStr_str, dIsi_ap, dLen_lst, dLen_tup, dLen_pt, dLen_scr, dIsN_non, dNotN_non, dNeg_ap, dIB_ap, dI_ap,
      dEq_int, dNe_int, truD_bl, truD_non, truD_int, dSl_tup, dSl_pt, dSl_lst, dSl_scr, dTupP_lst, decide_true, decide_false, if_true, if_false, Bool.false_eq_true, Bool.not_true, Bool.not_false, eq_self, true_and, and_true, sz_le, sz_lt, rngIts_items, rngIts_chk, beq_self_eq_true, R.bind_ok, R.nox_ok, tyM_ref, mAppend_ref, mExtend_ref, ge1, ge2a, ge2b, ge3a, ge3b, ge3c, ge3d, st1, st2a, st2b, st3a, st3b, st3c, st3d, tyN, Bool.and_self, Bool.and_true, Bool.true_and, Bool.and_false, Bool.false_and, Bool.or_true, Bool.true_or, Bool.or_false, Bool.false_or, Int.reduceLT, Int.reduceLE, Int.reduceGT, Int.reduceNeg, Int.reduceAdd, Int.reduceSub, Int.reduceBEq, Int.reduceBNe, Int.reduceEq, Int.reduceToNat, Nat.reduceEqDiff, Nat.reduceLeDiff, reduceCtorEq, Int.natCast_zero, Int.cast_ofNat_Int, Int.lt_irrefl, List.map_nil, decide_eq_true_eq,
      isi_NoneType_int, isi_NoneType_str, isi_NoneType_bool, isi_NoneType_tuple, isi_NoneType_list, isi_NoneType_dict, isi_bool_int, isi_bool_str, isi_bool_bool, isi_bool_tuple, isi_bool_list, isi_bool_dict, isi_int_int, isi_int_str, isi_int_bool, isi_int_tuple, isi_int_list, isi_int_dict, isi_str_int, isi_str_str, isi_str_bool, isi_str_tuple, isi_str_list, isi_str_dict, isi_tuple_int, isi_tuple_str, isi_tuple_bool, isi_tuple_tuple, isi_tuple_list, isi_tuple_dict, isi_list_int, isi_list_str, isi_list_bool, isi_list_tuple, isi_list_list, isi_list_dict, isi_dict_int, isi_dict_str, isi_dict_bool, isi_dict_tuple, isi_dict_list, isi_dict_dict, $[$es:term],*])
  | `(tactic| and_intros) => `(tactic| (rw [wp_def]; simp only [startD, List.map_cons, List.map_nil, List.length_cons, List.length_nil, Nat.zero_add, Nat.reduceAdd, Nat.reduceSub, List.replicate, List.cons_append, List.nil_append]))
section
set_option maxRecDepth 100000
set_option maxHeartbeats 4000000
namespace BB
open PySem PySem.Spec PyProof.Rows L2 OA
theorem cnt_zero {ls : List Lnk} {found : List Str} {x : Str} : (cntO ls found x == 0) = true ↔ ∀ l ∈ ls, l.2.1 = x → l.1 ∈ found := by
  unfold cntO
  rw [beq_iff_eq]
  constructor
  · intro h l hl e
    have h2 : (ls.filter fun l => l.2.1 == x && !(found.contains l.1)).length = 0 := by omega
    have h3 := List.eq_nil_of_length_eq_zero h2
    rw [List.filter_eq_nil_iff] at h3
    have := h3 l hl
    simp [e] at this
    exact this
  · intro h
    have : (ls.filter fun l => l.2.1 == x && !(found.contains l.1)) = [] := by
      rw [List.filter_eq_nil_iff]
      intro l hl k
      simp at k
      exact k.2 (h l hl k.1)
    rw [this]; rfl
end BB
end
section
set_option maxRecDepth 100000
set_option maxHeartbeats 4000000
namespace BB
open PySem PySem.Spec PyProof.Rows L2 OA
def TabG (tb : Addr × Str) (G : GH) : Prop := G[0]? = some (.tab tb.1 tb.2)
theorem TabG.lt {tb : Addr × Str} {G : GH} (h : TabG tb G) : 0 < G.length := (List.getElem?_eq_some_iff.mp h).1
theorem TabG.set {tb : Addr × Str} {G : GH} (h : TabG tb G) {i : Nat} (n : i ≠ 0) (c : Cell) : TabG tb (G.set i c) := by
  unfold TabG
  rw [List.getElem?_set_ne n]; exact h
theorem TabG.src {tb : Addr × Str} {G : GH} (h : TabG tb G) {i : Nat} {w : Src} (g : G[i]? = some w.cell) : i ≠ 0 := fun z => by
  rw [z, h] at g; cases g
theorem TabG.keep {tb : Addr × Str} {CB C : Addr} {G H : GH} {n m : Nat} {hs : Hs} (h : TabG tb G) (B : BAt CB C G n m hs) (K : Keeps G H n m) : TabG tb H := by
  have e1 : n ≠ 0 := fun z => by have := B.b; rw [z, h] at this; cases this
  have e2 : m ≠ 0 := fun z => by have := B.h; rw [z, h] at this; cases this
  unfold TabG
  rw [K.get 0 h.lt e1.symm e2.symm]; exact h
end BB
end
section
set_option maxRecDepth 100000
set_option maxHeartbeats 4000000
namespace BB
open PySem PySem.Spec PyProof.Rows L2 OA
structure ClOk (cs hs : Hs) : Prop where
  sm : SameC cs hs
  ok : HsOk nms cs
  so : ∀ n ∈ namesH cs, (lookH cs n).od.Pairwise (fun a b => PySem.W.dataLe false pyW a b = true) ∧ (lookH cs n).od.Nodup
theorem ClOk.nil : ClOk [] [] := ⟨SameC.refl _, BdOk2.nil.b.ok, fun n h => absurd h List.not_mem_nil⟩
theorem ClOk.enc {cs hs : Hs} (c : ClOk cs hs) (b : BdOk2 hs) : encCs cs = clH hs (namesH cs) ∧ (namesH cs).Perm (namesH hs) := by
  refine ⟨?_, (List.perm_ext_iff_of_nodup c.ok.nd b.b.ok.nd).mpr c.sm.nm⟩
  unfold encCs clH namesH
  rw [List.map_map]
  refine List.map_congr_left fun p pm => ?_
  have lk := look_of c.ok.nd pm
  have pn : p.1 ∈ namesH cs := List.mem_map.mpr ⟨p, pm, rfl⟩
  have pd := (c.sm.nm _).mp pn
  obtain ⟨s1, s2⟩ := c.so _ pn
  have e2 : p.2.od = heldL (lookH hs p.1) := by
    rw [← lk]
    exact heldL_eq (look_ok b.b.ok pd).tr (b.inn _ pd) s1 s2 fun q => c.sm.odA _ q
  have e1 : p.2.tr = (lookH hs p.1).tr := by rw [← lk]; exact c.sm.trA _
  show ((Sum.inr p.1 : Key), encE p.2) = (Sum.inr p.1, D.tup [encT (lookH hs p.1).tr, .lst ((heldL (lookH hs p.1)).map encW)])
  unfold encE
  rw [e1, e2]
theorem ClOk.done {cs hs : Hs} (c : ClOk cs hs) (b : BdOk2 hs) {w : Str} {t : Tr} (W : WishOk w t) : ClOk (putH (takeB cs w t).2 w ⟨t, heldL (hdOf t)⟩) (hsDone hs w t) := by
  have sm := take_same c.sm c.ok b.b.ok (w := w) W.ok W.mp
  have bd := b.done W
  have inD : HdIn (hdOf t) := by
    have : w ∈ namesH (hsDone hs w t) := by unfold hsDone; exact mem_put_names.mpr (.inr rfl)
    have := bd.inn w this
    rwa [look_done] at this
  have ok2 := takeB_ok c.ok (w := w) W.ok W.mp
  have nm2 := takeB_names c.ok W.ok (w := w) W.mp
  have nmw : ∀ n ∈ namesH (takeB cs w t).2, n ∈ wrs := fun n hn => by
    rw [nm2] at hn
    exact b.b.nm n ((c.sm.nm n).mp hn)
  refine ⟨sm.snd.put w rfl fun p => mem_heldL inD, ok2.put (wrs_ok w W.w) ⟨W.ok, W.sz, W.mp, fun q hq => lsts_ok nms_ok W.ok (heldL_mem hq), Nat.le_trans (heldL_len (h := hdOf t) W.sz) (by decide)⟩ (room_of ok2.nd nmw W.w), fun n hn => ?_⟩
  rw [look_put]
  by_cases e : n = w
  · rw [if_pos e]
    exact ⟨sortW_pw _, (sortW_perm _).nodup_iff.mpr ((lsts_nd W.ok).filter _)⟩
  · rw [if_neg e]
    have n1 := (mem_put_names.mp hn).resolve_right e
    rw [nm2] at n1
    have od1 : (lookH (takeB cs w t).2 n).od.Sublist (lookH cs n).od := by
      rw [takeB_look c.ok W.ok W.mp, takeA_snd, look_cuts]
      exact (unordL_ods _ _).trans (lessL_od _ _)
    obtain ⟨s1, s2⟩ := c.so n n1
    exact ⟨s1.sublist od1, s2.sublist od1⟩
theorem ClOk.drop {cs hs : Hs} (c : ClOk cs hs) (n : Str) : ClOk (dropH cs n) (dropH hs n) := by
  refine ⟨⟨fun m => ?_, fun m hm => ?_, fun m hm p => ?_⟩, c.ok.drop n, fun m hm => ?_⟩
  · rw [names_drop_mem, names_drop_mem, c.sm.nm]
  · obtain ⟨h1, h2⟩ := names_drop_mem.mp hm
    rw [look_drop h2, look_drop h2]; exact c.sm.trA m
  · obtain ⟨h1, h2⟩ := names_drop_mem.mp hm
    rw [look_drop h2, look_drop h2]; exact c.sm.odA m p
  · obtain ⟨h1, h2⟩ := names_drop_mem.mp hm
    rw [look_drop h2]; exact c.so m h1
theorem ClOk.less {cs hs : Hs} (c : ClOk cs hs) {n : Str} (hn : n ∈ namesH cs) {p : Pth} (hp : p ≠ []) : ClOk (putH cs n ((lookH cs n).less p)) (putH hs n ((lookH hs n).less p)) := by
  have et := c.sm.trA n
  refine ⟨c.sm.put n (by show cutT p _ = cutT p _; rw [et]) fun q => ?_, c.ok.put (c.ok.nm n hn) ((look_ok c.ok hn).less p hp) (.inl hn), fun m hm => ?_⟩
  · show q ∈ List.filter _ _ ↔ q ∈ List.filter _ _
    rw [List.mem_filter, List.mem_filter, c.sm.odA]
  · rw [names_put_mem hn] at hm
    rw [look_put]
    by_cases e : m = n
    · rw [if_pos e]
      obtain ⟨s1, s2⟩ := c.so n hn
      exact ⟨s1.sublist List.filter_sublist, s2.sublist List.filter_sublist⟩
    · rw [if_neg e]; exact c.so m hm
theorem less_at {hs : Hs} {n : Str} {p : Pth} (hp : p ≠ []) {m : Str} {q : Pth} {u : Tr} (h : atT (lookH (putH hs n ((lookH hs n).less p)) m).tr q = some u) : ∃ v, atT (lookH hs m).tr q = some v ∧ K03.kdT u = K03.kdT v ∧ (isVal v = true → u = v) := by
  rw [look_put] at h
  by_cases c : m = n
  · rw [if_pos c] at h
    subst c
    exact (at_cut_kd hp h).2
  · rw [if_neg c] at h
    exact ⟨u, h, rfl, fun _ => rfl⟩
end BB
end
end CF
end
section
set_option maxRecDepth 100000
namespace CF
open PySem PySem.Spec PyProof.Rows L2
local macro_rules
  | `(tactic| exists $es,*) => `(tactic| simp (disch := first | assumption | omega | (simp only [List.length_set, List.length_append, List.length_cons, List.length_nil]; omega)) only [↓wp_ok, ↓wp_ex, ↓wp_bind, ↓wp_guard, ↓wp_nox, ↓sp_nx, ↓sp_rt, ↓sp_bk, ↓sp_ct, ↓sp_ex, ↓sp_seq, ↓sp_thn, ↓sp_guard,
      ↓w_eC, ↓w_eVar, ↓w_aNil, ↓w_aCons, ↓w_eTup, ↓w_eTupP, ↓w_eLst, ↓w_eLstM, ↓w_eOp, ↓w_eChain, ↓w_asB, ↓w_tAnd, ↓w_tOr, ↓w_tNot, ↓w_eTru, ↓w_eIf, ↓w_sNext, ↓w_sSeq, ↓w_sRet, ↓w_sRetN, ↓w_sIf, ↓w_sSet, ↓w_sDrop, ↓w_sBreak, ↓w_sCont, ↓w_gNm, ↓w_gsNil, ↓w_gsCons, ↓w_gTp, ↓w_sAsg, ↓w_eOne, ↓w_eUn, ↓w_eCB, ↓w_one, ↓w_eCall, ↓w_eAnd, ↓w_eOr, ↓w_eNot, ↓w_iSeq, ↓w_eLc, ↓w_mkF, ↓w_mkM, ↓w_tYes, ↓w_eMt, ↓w_eMt0, ↓w_iRg1, ↓w_sPut, ↓w_sPutX, ↓w_eDict0X, ↓w_iKyX, itsX_dT, ↓w_gPut, ↓w_sPar2, ↓w_sPar3, ↓w_sAugD, ↓w_eDict0, ↓w_mkKF, ↓w_mkKM, ↓w_eRev, ↓w_eGet2, ↓w_eLenSet2, ↓w_iEn, ↓w_iZp, ↓w_eCm, ↓w_cmDn, ↓w_cmDc, ↓w_eFld, ↓w_eMeth, ↓w_eMethK, ↓w_eMake, ↓w_sFldD, ↓w_sRaise, ↓w_sAugE, insOf_ins, putFD_nil, lstX_l, List.lookup_cons, List.lookup_nil, ↓w_emLd, ↓w_emKd, keyD_str, keyD_int, dKOf_dK, dKOf_ref, celL_ref, celD_ref, lstIts_lst, tupIts_tup, dEqT_str, dNeT_str, tupIts_pt, tupIts_lst, tupIts_scr, tupIts_ref, strsOf_map,
      wipeD_nil, wipeD_cons, List.cons_append, List.nil_append, List.append_nil, ap_setI, eSl_ap, eOpt_none, eOpt_some,
      List.getElem?_cons_zero, List.getElem?_cons_succ, List.set_cons_zero, List.set_cons_succ, List.length_cons, List.length_nil, List.length_set, Nat.zero_add, Nat.reduceAdd, Nat.reduceSub, Nat.add_one_sub_one, List.length_append,
      itsD_tup, itsD_pt, itsD_lst, itsD_scr, dIx_tup, dIx_pt, dIx_lst, dIx_scr, atI_0, atI_1, atI_2, dAdd_int, dAdd_tup, dAdd_pt, dAdd_lst, dAdd_str, dInt_int, dInt_bl, dStr_int, dStr_str, dIsi_ap, dLen_lst, dLen_tup, dLen_pt, dLen_scr, dIsN_non, dNotN_non, dNeg_ap, dIB_ap, dI_ap,
      dEq_int, dNe_int, truD_bl, truD_non, truD_int, dSl_tup, dSl_pt, dSl_lst, dSl_scr, dTupP_lst, decide_true, decide_false, if_true, if_false, Bool.false_eq_true, Bool.not_true, Bool.not_false, eq_self, true_and, and_true, sz_le, sz_lt, rngIts_items, rngIts_chk, beq_self_eq_true, R.bind_ok, R.nox_ok, tyM_ref, mAppend_ref, mExtend_ref, ge1, ge2a, ge2b, ge3a, ge3b, ge3c, ge3d, st1, st2a, st2b, st3a, st3b, st3c, st3d, tyN, Bool.and_self, Bool.and_true, Bool.true_and, Bool.and_false, Bool.false_and, Bool.or_true, Bool.true_or, Bool.or_false, Bool.false_or, Int.reduceLT, Int.reduceLE, Int.reduceGT, Int.reduceNeg, Int.reduceAdd, Int.reduceSub, Int.reduceBEq, Int.reduceBNe, Int.reduceEq, Int.reduceToNat, Nat.reduceEqDiff, Nat.reduceLeDiff, reduceCtorEq, Int.natCast_zero, Int.cast_ofNat_Int, Int.lt_irrefl, List.map_nil, decide_eq_true_eq,
      isi_NoneType_int, isi_NoneType_str, isi_NoneType_bool, isi_NoneType_tuple, isi_NoneType_list, isi_NoneType_dict, isi_bool_int, isi_bool_str, isi_bool_bool, isi_bool_tuple, isi_bool_list, isi_bool_dict, isi_int_int, isi_int_str, isi_int_bool, isi_int_tuple, isi_int_list, isi_int_dict, isi_str_int, isi_str_str, isi_str_bool, isi_str_tuple, isi_str_list, isi_str_dict, isi_tuple_int, isi_tuple_str, isi_tuple_bool, isi_tuple_tuple, isi_tuple_list, isi_tuple_dict, isi_list_int, isi_list_str, isi_list_bool, isi_list_tuple, isi_list_list, isi_list_dict, isi_dict_int, isi_dict_str, isi_dict_bool, isi_dict_tuple, isi_dict_list, isi_dict_dict, $[$es:term],*])
  | `(tactic| and_intros) => `(tactic| (rw [wp_def]; simp only [startD, List.map_cons, List.map_nil, List.length_cons, List.length_nil, Nat.zero_add, Nat.reduceAdd, Nat.reduceSub, List.replicate, List.cons_append, List.nil_append]))
section
set_option maxRecDepth 100000
set_option maxHeartbeats 4000000
namespace BB
open PySem PySem.Spec PyProof.Rows L2 OA
theorem BdOk.lessL [Voc] {hs : Hs} (b : BdOk hs) {n : Str} (hn : n ∈ namesH hs) {p : Pth} (hp : p ≠ []) : BdOk (putH hs n ((lookH hs n).less p)) :=
  ⟨b.ok.put (b.ok.nm n hn) ((look_ok b.ok hn).less p hp) (.inl hn), agree_less b.ag hn hp, fun m hm => (mem_put_names.mp hm).elim (fun h => b.nm m h) fun e => b.nm m (e ▸ hn)⟩
theorem BdOk2.lessL [Voc] {hs : Hs} (b : BdOk2 hs) {n : Str} (hn : n ∈ namesH hs) {p : Pth} (hp : p ≠ []) : BdOk2 (putH hs n ((lookH hs n).less p)) where
  b := b.b.lessL hn hp
  inn := in_cuts [(p, n)] b.b.ok b.inn fun a ha => by rw [List.mem_singleton.mp ha]; exact ⟨hn, hp⟩
  ac := acyc_less b.ac hn hp
  av := fun m hm k hk q u v hu hv iv => by
    rw [names_put_mem hn] at hm hk
    obtain ⟨u0, a1, a2, a3⟩ := less_at hp hu
    obtain ⟨v0, b1, b2, b3⟩ := less_at hp hv
    have iu : isVal u0 = true := kd_val a2.symm iv
    have e := b.av m hm k hk q u0 v0 a1 b1 iu
    subst e
    rw [a3 iu, b3 iu]
  nd := fun m hm => by
    rw [names_put_mem hn] at hm
    rw [look_put]
    by_cases c : m = n
    · rw [if_pos c]; exact (b.nd n hn).filter _
    · rw [if_neg c]; exact b.nd m hm
theorem StpR.ok {hs hs2 : Hs} (r : StpR hs hs2) (b : BdOk2 hs) : BdOk2 hs2 := by
  cases r with
  | same => exact b
  | done W => exact b.done W
  | rel hn hp => exact b.lessL hn hp
  | drop w => exact b.drop w
end BB
end
section
set_option maxRecDepth 100000
set_option maxHeartbeats 4000000
namespace BB
open PySem PySem.Spec PyProof.Rows L2 OA
abbrev exP (CP : Addr) (d : D) : Ex := ⟨CP, ffS "path" "path" [d]⟩
theorem R.exn {r : R D} {x : Ex} {G : GH} (h : r.wp (fun _ _ => False) fun x' G' => x' = x ∧ G' = G) : r = .ex x G := by
  cases r with
  | ex x' G' => obtain ⟨rfl, rfl⟩ := h; rfl
  | ok d G' => exact h.elim
  | no => exact h.elim
noncomputable def F_nat : List D → GH → R D := defF ["tree", "path"] (b_node_at (K03.F_chk 6) F_cpath F_find)
theorem m_nat {ns : List Str} (hns : K03.nsOk ns) {t : Tr} (ok : okT ns 6 t) (sz : szT t ≤ 320) {P : Pth} (pk : pthOk P) (G : GH) : F_nat [encT t, encW P] G = .ok (encOp (atT t P)) G := by
  have b0 := K03.m_chk hns t G ok (Nat.le_refl 6) sz
  have b1 := m_cpath pk G
  have b2 := m_find ok P G
  refine R.eqn ?_
  unfold F_nat b_node_at
  and_intros
  exists b0, b1, b2
end BB
end
section
set_option maxRecDepth 100000
set_option maxHeartbeats 4000000
namespace BB
open PySem PySem.Spec PyProof.Rows L2 OA
theorem sortL_nodes {ns : List Str} (hns : K03.nsOk ns) {t : Tr} (ok : okT ns 6 t) (G : GH) : dSorted2 mkF (.lst ((K03.ndT [] t).map fun q => encW q.1)) G = .ok (.lst ((ndS t).map fun q => encW q.1)) G := by
  have st := nd_strs hns ok
  obtain ⟨r, er⟩ := nd_head t
  have so : SortOk ((K03.ndT [] t).map fun q => pyW q.1) := by
    refine ⟨fun a ha b hb => ?_, .inr ⟨⟨r.map fun q => pyW q.1, by rw [er]; rfl⟩, fun d hd => ?_⟩, fun d hd => ?_⟩
    · obtain ⟨x, _, rfl⟩ := List.mem_map.mp ha
      obtain ⟨y, _, rfl⟩ := List.mem_map.mp hb
      show PySem.W.alike (.tuple _) (.tuple _) = true
      simp only [PySem.W.alike]
      exact K03.alike_strs _ _
    · obtain ⟨x, _, rfl⟩ := List.mem_map.mp hd
      exact ⟨_, rfl⟩
    · obtain ⟨x, _, rfl⟩ := List.mem_map.mp hd
      exact depth_W _
  have es : sortD ((K03.ndT [] t).map fun q => encW q.1) = (ndS t).map fun q => encW q.1 := by
    unfold sortD ndS
    rw [sort_fst (fun q : Pth × Tr => encW q.1) pyd]
    congr 1
    refine PySem.W.sort_congr fun a ha b hb => ?_
    show PySem.W.dataLe false (fun q : Pth × Tr => pyd (encW q.1)) a b = PySem.W.dataLe false (fun q : Pth × Tr => pyW q.1) a b
    rw [PySem.W.dataLe_eq, PySem.W.dataLe_eq]
    have ka : pyd (encW a.1) = pyW a.1 := by unfold pyd; rw [py_W (st a ha)]; rfl
    have kb : pyd (encW b.1) = pyW b.1 := by unfold pyd; rw [py_W (st b hb)]; rfl
    show (!PySem.W.dataLt (pyd (encW b.1)) (pyd (encW a.1))) = (!PySem.W.dataLt (pyW b.1) (pyW a.1))
    rw [ka, kb]
  show dSorted mkF (.lst _) G = _
  unfold dSorted
  rw [lstOf_lst]
  dsimp only
  rw [pyAll_W st]
  dsimp only
  rw [if_pos so, es]
  rfl
noncomputable def F_flds : List D → GH → R D := defF ["tree", "path", "node"] (b_fields (K03.F_chk 6) (F_alln 6))
def fldsL (t : Tr) : List Pth := ((ndS t).drop 1).map (·.1)
theorem cut1 (xs : List D) (h : 1 ≤ xs.length) : cutD xs (some 1) none = xs.drop 1 := by
  exact OA.cut_n xs 1
theorem m_flds {ns : List Str} (hns : K03.nsOk ns) {t : Tr} (ok : okT ns 6 t) (sz : szT t ≤ 40) (G : GH) : F_flds [encT t] G = .ok (.ref G.length) (G ++ [.lst ((fldsL t).map encW)]) := by
  have b0 := K03.m_chk hns t G ok (Nat.le_refl 6) (by omega)
  have b1 : F_alln 6 [encT t, .tup []] G = .ok (.lst ((K03.ndT [] t).map K03.encN)) G := m_alln hns 6 6 t [] G (Nat.le_refl 6) ok (by omega) (by decide)
  have so := sortL_nodes hns ok
  have ln : (K03.ndT [] t).length ≤ sizeLine := by rw [K03.ndT_len]; exact Nat.le_trans (show _ ≤ 41 by omega) (by decide)
  have e0 : (eTup aNil : FE) = fun _ G => .ok (.tup []) G := by funext δ G; simp [eTup, aNil]
  have sl : ∀ G, dSl mkM (.lst ((ndS t).map fun q => encW q.1)) (some 1) none G = .ok (.ref G.length) (G ++ [.lst ((fldsL t).map encW)]) := fun G => by
    rw [dSl_lst, cut1 _ (by rw [List.length_map]; unfold ndS; rw [List.length_mergeSort, K03.ndT_len]; omega)]
    unfold fldsL
    rw [List.map_map, List.map_drop]
    rfl
  refine R.eqn ?_
  unfold F_flds b_fields
  and_intros
  exists b0, b1
  refine lc_pure K03.encN (K03.ndT [] t) (fun _ => true) (fun q => encW q.1) ln rfl (fun q hq => ?_) ?_
  · have en : K03.encN q = .tup [encW q.1, encT q.2] := rfl
    exists en
    exact fun _ => trivial
  · rw [List.filter_eq_self.mpr fun _ _ => rfl]
    exists so, sl
noncomputable def F_wo (CP : Addr) : List D → GH → R D := defF ["tree", "path"] (b_without_R CP F_nat (F_cut 6))
theorem isN_encK1 (o : Option Tr) : isN (encOp o) = !o.isSome := by
  cases o with
  | none => rfl
  | some u => cases u <;> rfl
theorem m_wo {ns : List Str} (hns : K03.nsOk ns) {CP : Addr} {t : Tr} (ok : okT ns 6 t) (sz : szT t ≤ 40) {p : Pth} (pk : pthOk p) (hp : p ≠ []) (ha : (atT t p).isSome = true) (G : GH) : F_wo CP [encT t, encW p] G = .ok (encT (cutT p t)) G := by
  have b0 := m_nat hns ok (by omega) pk G
  have b1 : isN (encOp (atT t p)) = false := by rw [isN_encK1, ha]; rfl
  have b2 := fun G => dEq_W (p := p) (q := []) (fun x hx => (pk.1 x hx).2) (fun x hx => nomatch hx) G
  rw [decide_eq_false hp] at b2
  have b3 := m_cut hns 6 6 t p G (Nat.le_refl 6) ok (by omega) hp (fun x hx => (pk.1 x hx).2) ha
  have ew : (.tup [] : D) = encW [] := rfl
  refine R.eqn ?_
  unfold F_wo b_without_R
  and_intros
  exists b0, b1, ew, b2, b3
theorem m_wo_no {ns : List Str} (hns : K03.nsOk ns) {CP : Addr} {t : Tr} (ok : okT ns 6 t) (sz : szT t ≤ 40) {p : Pth} (pk : pthOk p) (hn : atT t p = none ∨ p = []) (G : GH) : F_wo CP [encT t, encW p] G = .ex (exP CP (encW p)) G := by
  have b0 := m_nat hns ok (by omega) pk G
  have b2 := fun G => dEq_W (p := p) (q := []) (fun x hx => (pk.1 x hx).2) (fun x hx => nomatch hx) G
  have ew : (.tup [] : D) = encW [] := rfl
  have fe : ffS "path" "path" [encW p] = (exP CP (encW p)).fs := rfl
  refine R.exn ?_
  unfold F_wo b_without_R
  and_intros
  rcases hn with hn | hn
  · have b1 : isN (encOp (atT t p)) = true := by rw [isN_encK1, hn]; rfl
    exists b0, b1
  · rw [decide_eq_true hn] at b2
    cases h : (atT t p) with
    | none =>
      have b1 : isN (encOp (atT t p)) = true := by rw [isN_encK1, h]; rfl
      exists b0, b1
    | some u =>
      have b1 : isN (encOp (atT t p)) = false := by rw [isN_encK1, h]; rfl
      exists b0, b1, ew, b2
abbrev N_prn : List Str := ["_law_tree_here", "_law_path", "_law_gone", "_law_left", "_law_name", "_law_node"]
noncomputable def F_prn : Nat → List D → GH → R D
  | 0 => fNo
  | k + 1 => defF N_prn (be__law_pruned (F_prn k))
def prnT : Nat → Tr → Pth → Pth → Tr
  | k + 1, .node m ps, P, q => .node m ((ps.filter fun x => decide (P ++ [x.1] ≠ q)).map fun x => (x.1, prnT k x.2 (P ++ [x.1]) q))
  | _, t, _, _ => t
theorem m_prn {ns : List Str} (hns : K03.nsOk ns) : ∀ (r k : Nat) (t : Tr) (P q : Pth) (G : GH), r ≤ k → okT ns r t → szT t < 4000 → P.length + r < 60 → (∀ x ∈ P, PyData.strOk x = true) → (∀ x ∈ q, PyData.strOk x = true) → F_prn k [encT t, encW P, encW q] G = .ok (encT (prnT k t P q)) G
  | 0, _, _, _, _, _, _, h, _, _, _, _ => h.elim
  | r + 1, 0, _, _, _, _, h, _, _, _, _, _ => by omega
  | r + 1, k + 1, t, P, q, G, hk, ok, hl, hp, sP, sq => by
    show defF N_prn (be__law_pruned (F_prn k)) [encT t, encW P, encW q] G = _
    have ev := fun G => dEq_value t G
    have n0 := ix0 t
    cases t with
    | val i =>
      have ev : ∀ G, dEq (.str (K03.kdT (.val i))) (.str "value") G = .ok (.bl true) G := ev
      refine R.eqn ?_
      unfold be__law_pruned
      and_intros
      exists n0, ev
      rfl
    | txt i =>
      have ev : ∀ G, dEq (.str (K03.kdT (.txt i))) (.str "value") G = .ok (.bl true) G := ev
      refine R.eqn ?_
      unfold be__law_pruned
      and_intros
      exists n0, ev
      rfl
    | node m ps =>
      have ev : ∀ G, dEq (.str (K03.kdT (.node m ps))) (.str "value") G = .ok (.bl false) G := ev
      have okp : ∀ x ∈ ps, okT ns r x.2 := fun x hx => kids_ok (t := .node m ps) ok hx
      have nmp : ∀ x ∈ ps, PyData.strOk x.1 = true := fun x hx => (hns x.1 (kids_nm (t := .node m ps) ok hx)).2
      have lp : ps.length ≤ sizeLine := by
        have := kids_len (.node m ps)
        have : ps.length ≤ szT (.node m ps) := this
        exact Nat.le_trans (show _ ≤ 4000 by omega) (by decide)
      refine R.eqn ?_
      unfold be__law_pruned
      and_intros
      have it : ∀ G, dIx (encT (.node m ps)) (.int 1) G = .ok (.pt (ps.map encPr)) G := fun G => by rw [encT_node]; rfl
      exists n0, ev, it
      refine lc_pure encPr ps (fun x => decide (P ++ [x.1] ≠ q)) (fun x => encPr (x.1, prnT k x.2 (P ++ [x.1]) q)) lp rfl (fun x hx => ?_) ?_
      · have pa := fun G => pw_W (p := P) x.1 (by omega) G
        have sP2 : ∀ y ∈ P ++ [x.1], PyData.strOk y = true := fun y hy => by
          rcases List.mem_append.mp hy with hy | hy
          · exact sP y hy
          · rw [List.mem_singleton.mp hy]; exact nmp x hx
        have ne := fun G => dNe_W (p := P ++ [x.1]) (q := q) sP2 sq G
        have ex : encPr x = .tup [.str x.1, encT x.2] := rfl
        have sz : szT x.2 < 4000 := by
          have h2 := K03.sz_mem (ps := ps) hx
          have h3 := szT_node m ps
          omega
        have rc := m_prn hns r k x.2 (P ++ [x.1]) q G (by omega) (okp x hx) sz (by rw [List.length_append, List.length_singleton]; omega) sP2 sq
        exists ex, pa, ne, rc
        exact ⟨by by_cases c : P ++ [x.1] = q <;> simp [c], fun _ => rfl⟩
      · have tp : ∀ G, dTupP (.lst ((ps.filter fun x => decide (P ++ [x.1] ≠ q)).map fun x => encPr (x.1, prnT k x.2 (P ++ [x.1]) q))) G = .ok (.pt ((ps.filter fun x => decide (P ++ [x.1] ≠ q)).map fun x => encPr (x.1, prnT k x.2 (P ++ [x.1]) q))) G := fun G => rfl
        have kd : K03.kdT (.node m ps) = kindS m := rfl
        exists n0, tp, kd
        show _ = encT (.node m _)
        rw [encT_node, List.map_map]
        rfl
theorem fm_eq {α β : Type} {f : α → Bool} {g : α → β} {h : α → Option β} : ∀ {ps : List α}, (∀ x ∈ ps, (if f x = true then some (g x) else none) = h x) → (ps.filter f).map g = ps.filterMap h
  | [], _ => rfl
  | x :: ps, k => by
    have ih := fm_eq (ps := ps) fun y hy => k y (.tail _ hy)
    have kx := k x (.head _)
    rw [List.filter_cons, List.filterMap_cons, ← kx, ← ih]
    cases f x <;> rfl
theorem prn_id : ∀ (k : Nat) (t : Tr) (P q : Pth), (∀ s, s ≠ [] → q ≠ P ++ s) → prnT k t P q = t
  | 0, t, _, _, _ => by cases t <;> rfl
  | k + 1, .val i, _, _, _ => rfl
  | k + 1, .txt i, _, _, _ => rfl
  | k + 1, .node m ps, P, q, h => by
    rw [prnT]
    congr 1
    have e : ps.filterMap (fun x => some x) = ps := List.filterMap_some
    conv => rhs; rw [← e]
    refine fm_eq fun x hx => ?_
    have h1 : P ++ [x.1] ≠ q := fun e => h [x.1] (by simp) e.symm
    rw [if_pos (decide_eq_true h1)]
    rw [prn_id k x.2 (P ++ [x.1]) q fun s hs e => h (x.1 :: s) (by simp) (by rw [e]; simp)]
theorem prn_cut {ns : List Str} : ∀ (r k : Nat) (t : Tr) (P s : Pth), r ≤ k → okT ns r t → s ≠ [] → prnT k t P (P ++ s) = cutT s t
  | 0, _, _, _, _, _, h, _ => h.elim
  | r + 1, 0, _, _, _, h, _, _ => by omega
  | r + 1, k + 1, .val i, P, s, _, _, hs => by
    cases s with
    | nil => exact absurd rfl hs
    | cons n s => rfl
  | r + 1, k + 1, .txt i, P, s, _, _, hs => by
    cases s with
    | nil => exact absurd rfl hs
    | cons n s => rfl
  | r + 1, k + 1, .node m ps, P, [], _, _, hs => absurd rfl hs
  | r + 1, k + 1, .node m ps, P, n :: s, hk, ok, _ => by
    have okp : ∀ x ∈ ps, okT ns r x.2 := fun x hx => kids_ok (t := .node m ps) ok hx
    rw [cutT_node, prnT]
    congr 1
    refine fm_eq fun x hx => ?_
    unfold cutF
    by_cases c : x.1 = n
    · rw [if_pos c]
      by_cases c2 : s = []
      · subst c2
        rw [if_pos rfl, if_neg]
        rw [c]; simp
      · rw [if_neg c2, if_pos]
        · congr 2
          have := prn_cut r k x.2 (P ++ [x.1]) s (by omega) (okp x hx) c2
          rw [← this, c]
          simp
        · refine decide_eq_true fun e => ?_
          have := List.append_cancel_left e
          simp at this
          exact c2 this.2
    · rw [if_neg c, if_pos]
      · congr 1
        rw [prn_id]
        intro s' hs' e
        rw [List.append_assoc] at e
        have := List.append_cancel_left e
        simp at this
        exact c this.1.symm
      · refine decide_eq_true fun e => ?_
        have := List.append_cancel_left e
        simp at this
        exact c this.1
abbrev N_cls : List Str := ["_law_e", "_law_kinds"]
structure ClA where
  (BadOrders BadPath BadStep BadText BadTree BadWriter Refused TooMany ClaimError : Addr)
noncomputable def F_cls (c : ClA) (kit : Addr → Addr → Option Bool) (a d C : Addr) : List D → GH → R D := defF N_cls (be__law_classes_of c.BadText c.BadStep c.BadPath c.BadOrders c.TooMany c.Refused c.BadWriter c.BadTree c.ClaimError kit a d C)
structure KitP (c : ClA) (kit : Addr → Addr → Option Bool) : Prop where
  k1 : kit c.BadPath c.BadOrders = some false
  k2 : kit c.BadPath c.BadPath = some true
  k3 : kit c.BadPath c.BadStep = some false
  k4 : kit c.BadPath c.BadText = some false
  k5 : kit c.BadPath c.BadTree = some false
  k6 : kit c.BadPath c.BadWriter = some false
  k7 : kit c.BadPath c.Refused = some false
  k8 : kit c.BadPath c.TooMany = some false
  k9 : kit c.BadPath c.ClaimError = some true
theorem eIsX_ap {i : Nat} {a d C : Addr} {δ : DEnv} {G : GH} {fs : List (Str × D)} {b : Bool} {o : Option Bool} (h : δ[i]? = some (some (.exc a d C fs))) (e : o = some b) : eIsX i a d C o δ G = .ok (.bl b) G := by
  unfold eIsX
  rw [h, e]
  dsimp only
  rw [if_pos ⟨rfl, rfl, rfl⟩]
theorem m_cls {c : ClA} {kit : Addr → Addr → Option Bool} (k : KitP c kit) (a d : Addr) (p : D) (G : GH) : F_cls c kit a d c.BadPath [.exc a d c.BadPath (ffS "path" "path" [p])] G = .ok (.int 1) G := by
  have is := fun (r : Option D) {o : Option Bool} {b : Bool} (e : o = some b) => eIsX_ap (i := 0) (a := a) (d := d) (C := c.BadPath) (δ := [some (.exc a d c.BadPath (ffS "path" "path" [p])), r]) (G := G) (fs := ffS "path" "path" [p]) rfl e
  have ef : ∀ r, eExF 0 a d c.BadPath "why" [some (.exc a d c.BadPath (ffS "path" "path" [p])), r] G = .ok (.str "path") G := fun r => eExF_ap rfl rfl
  have ct : ∀ G, mCountB (.lst [.bl false, .bl true, .bl false, .bl false, .bl false, .bl false, .bl false, .bl false]) [.bl true] G = .ok (.int 1) G := fun G => rfl
  have i1 := fun r => is r k.k1
  have i2 := fun r => is r k.k2
  have i3 := fun r => is r k.k3
  have i4 := fun r => is r k.k4
  have i5 := fun r => is r k.k5
  have i6 := fun r => is r k.k6
  have i7 := fun r => is r k.k7
  have i8 := fun r => is r k.k8
  have i9 := fun r => is r k.k9
  refine R.eqn ?_
  unfold F_cls be__law_classes_of
  and_intros
  exists i1, i2, i3, i4, i5, i6, i7, i8, i9, ct, ef
  rfl
noncomputable def F_rfs (CP : Addr) (Fc : Addr → Addr → Addr → List D → GH → R D) : List D → GH → R D := defF ["_law_tree_here", "_law_path", "_law_e"] (be__law_refused CP (F_wo CP) Fc)
theorem m_rfs {ns : List Str} (hns : K03.nsOk ns) {c : ClA} {kit : Addr → Addr → Option Bool} (k : KitP c kit) {t : Tr} (ok : okT ns 6 t) (sz : szT t ≤ 40) {p : Pth} (pk : pthOk p) (hn : atT t p = none ∨ p = []) {z : Str} (hz : ∀ G, dRepr2 (encW p) G = .ok (.str z) G) (G : GH) :
    F_rfs c.BadPath (F_cls c kit) [encT t, encW p] G = .ok (.tup [.str z, .int 1]) G := by
  have mc := m_wo_no (CP := c.BadPath) hns ok sz pk hn G
  have hb : (sRet (eCall 2 (F_wo c.BadPath) [] (aCons (eVar 0) (aCons (eVar 1) aNil)))) [some (encT t), some (encW p), none] G = .ex (exP c.BadPath (encW p)) [some (encT t), some (encW p), none] G := by
    refine rs_ex ?_
    exists mc
  have xm : xmO c.BadPath c.BadPath = some true := by unfold xmO; rw [if_pos rfl]
  have tr : (sTryAs 2 (xmO c.BadPath) (sRet (eCall 2 (F_wo c.BadPath) [] (aCons (eVar 0) (aCons (eVar 1) aNil)))) (fun a d C => (sRet (eTup (aCons (eCB (one dRepr2) (aCons (eExF 2 a d C "path") aNil)) (aCons (eCall 1 (F_cls c kit a d C) [] (aCons (eVar 2) aNil)) aNil)))))) [some (encT t), some (encW p), none] G = .rt (.tup [.str z, .int 1]) G := by
    unfold sTryAs
    rw [hb]
    dsimp only
    rw [xm]
    dsimp only
    rw [sSuite_eq (r := .rt (.tup [.str z, .int 1]) G) fun a e => ?_]
    have ef : eExF 2 a e c.BadPath "path" [some (encT t), some (encW p), some (.exc a e c.BadPath (ffS "path" "path" [encW p]))] G = .ok (encW p) G := eExF_ap rfl rfl
    have mk := m_cls k a e (encW p) G
    have hs2 : (sRet (eTup (aCons (eCB (one dRepr2) (aCons (eExF 2 a e c.BadPath "path") aNil)) (aCons (eCall 1 (F_cls c kit a e c.BadPath) [] (aCons (eVar 2) aNil)) aNil)))) [some (encT t), some (encW p), some (.exc a e c.BadPath (ffS "path" "path" [encW p]))] G = .rt (.tup [.str z, .int 1]) G := by
      refine rs_rt ?_
      exists ef, hz, mk
    show goneS 2 ((sRet _) [some (encT t), some (encW p), some (.exc a e c.BadPath (ffS "path" "path" [encW p]))] G) = _
    rw [hs2]; rfl
  refine R.eqn ?_
  unfold F_rfs be__law_refused
  and_intros
  rw [tr]
  exact ⟨rfl, rfl⟩
end BB
end
section
set_option maxRecDepth 100000
set_option maxHeartbeats 4000000
namespace BB
open PySem PySem.Spec PyProof.Rows L2 OA
theorem m_atD (ns : List Int) (G : GH) : F_atD [.scr (ns.map D.int), .int 0] G = .ok (.int (ns.getD 0 0)) G := by
  have h : (F_atD [.scr (ns.map D.int), .int 0] G).wp (fun d G' => d = .int (ns.getD 0 0) ∧ G' = G) noX := by
    unfold F_atD bd__law_cell_at
    and_intros
    cases ns with
    | nil =>
      exists List.map_nil
      rfl
    | cons x r =>
      have h : (0 : Int) < (r.length : Int) + 1 := by omega
      exists List.map_cons, List.length_map, Int.natCast_add, h
      rfl
  obtain ⟨d, G', e, rfl, rfl⟩ := R.wp_ex_iff.mp h
  exact e
end BB
end
section
set_option maxRecDepth 100000
set_option maxHeartbeats 4000000
namespace BB
open PySem PySem.Spec PyProof.Rows L2 OA
theorem strOk_iffK1 {x : Str} : PyData.strOk x = true ↔ ∀ c ∈ x.cps.toList, c < 0x110000 := by
  unfold PyData.strOk
  rw [← Array.all_toList, List.all_eq_true]
  exact ⟨fun h c hc => of_decide_eq_true (h c hc), fun h c hc => decide_eq_true (h c hc)⟩
theorem strOk_appK1 {x y : Str} (hx : PyData.strOk x = true) (hy : PyData.strOk y = true) : PyData.strOk (x ++ y) = true := by
  rw [strOk_iffK1] at hx hy ⊢
  intro c hc
  have hc : c ∈ (x.cps ++ y.cps).toList := hc
  rw [Array.toList_append] at hc
  rcases List.mem_append.mp hc with h | h
  · exact hx c h
  · exact hy c h
theorem strOk_joinK1 : ∀ {ts : List Str}, (∀ t ∈ ts, PyData.strOk t = true) → PyData.strOk (Str.join ", " ts) = true
  | [], _ => by decide +kernel
  | [x], h => h x (.head _)
  | x :: y :: r, h => by
    have ih := strOk_joinK1 (ts := y :: r) fun t ht => h t (.tail _ ht)
    show PyData.strOk (x ++ ", " ++ Str.join ", " (y :: r)) = true
    exact strOk_appK1 (strOk_appK1 (h x (.head _)) (by decide +kernel)) ih
theorem strOk_shownW {p : Pth} (h : ∀ x ∈ p, okS x = true) : PyData.strOk (pyW p).shown = true := by
  unfold pyW
  rw [PyData.shown]
  have all : ∀ {p : Pth}, (∀ x ∈ p, okS x = true) → ∀ t ∈ PyData.shownAll (p.map PyData.str), PyData.strOk t = true := fun {p} h => by
    induction p with
    | nil => intro t ht; cases ht
    | cons x p ih =>
      intro t ht
      rw [List.map_cons, PyData.shownAll] at ht
      rcases List.mem_cons.mp ht with rfl | ht
      · exact K03.strOk_repr (t := .txt x) (h x (.head _))
      · exact ih (fun y hy => h y (.tail _ hy)) t ht
  unfold tupleText
  refine strOk_appK1 (strOk_appK1 (by decide +kernel) (strOk_joinK1 (all h))) ?_
  split
  · decide +kernel
  · decide +kernel
theorem rep_W {p : Pth} (pk : pthOk p) (hp : ∀ x ∈ p, okS x = true) : ∃ z, (∀ G, dRepr2 (encW p) G = .ok (.str z) G) ∧ PyData.strOk z = true := by
  have P := pd_W (p := p) fun x hx => (pk.1 x hx).2
  refine ⟨(pyW p).shown, fun G => OA.repr2_ok (by rw [P.rs]; exact P.py) ?_, strOk_shownW hp⟩
  obtain ⟨a, b, c, d⟩ := OA.sm_strs (xs := p) fun x hx => ⟨(pk.1 x hx).2, OA.nm_len (pk.1 x hx).1⟩
  have hl := pk.2
  refine ⟨by unfold pyW; rw [PyData.showable]; exact a, by have := P.dp; exact Nat.le_trans this (by decide), by unfold pyW; rw [PyData.canLay0]; exact b, by unfold pyW; rw [PyData.intsShort]; exact c, ?_⟩
  unfold pyW
  rw [PyData.weight]
  omega
theorem rep_nilW (G : GH) : dRepr2 (.tup []) G = .ok (.str "()") G := by
  have P := pd_W (p := []) fun x hx => nomatch hx
  have h := OA.repr2_ok (G := G) (d := encW []) (q := .tuple []) (by rw [P.rs]; exact P.py) ⟨rfl, by decide, rfl, rfl, by decide⟩
  have e : (PyData.tuple []).shown = ("()" : Str) := by decide +kernel
  rw [e] at h
  exact h
theorem dNotIn_WK1 {P : Pth} {ps : List Pth} (hp : ∀ x ∈ P, PyData.strOk x = true) (hq : ∀ q ∈ ps, ∀ x ∈ q, PyData.strOk x = true) (G : GH) : dNotInD (encW P) (.lst (ps.map encW)) G = .ok (.bl (!decide (P ∈ ps))) G := by
  have h := dInD_W hp hq G
  unfold dInD at h
  unfold dNotInD
  cases e : inDD G (encW P) (.lst (ps.map encW)) with
  | none => rw [e] at h; cases h
  | some b =>
    rw [e] at h
    dsimp only at h ⊢
    injection h with h1
    injection h1 with h1
    rw [h1]
theorem dNe_cellK1 {G : GH} {k j : Nat} {xs : List D} {p : PyData} (g : G[k]? = some (.lst xs)) (P : Pd j (.lst xs) p) (hj : j ≤ 64) : dNe (.ref k) (.lst xs) G = .ok (.bl false) G := by
  have h := (pd_same P hj G).2.1
  unfold dNe pyEq at h ⊢
  have e : res G (.ref k) = res G (.lst xs) := by
    show (match G[k]? with | some (.lst xs) => D.lst xs | _ => D.ref k) = D.lst xs
    rw [g]
  rw [e]
  exact h
def sixT : List Str := ["a", "aa", "ab", "b", "ba", "zz"]
theorem sixT_plain : ∀ n ∈ sixT, okS n = true := by
  have : sixT.all okS = true := by decide +kernel
  exact List.all_eq_true.mp this
theorem sixT_ok : ∀ n ∈ sixT, OA.nmOk n = true ∧ PyData.strOk n = true := by
  have : sixT.all (fun n => OA.nmOk n && PyData.strOk n) = true := by decide +kernel
  intro n hn
  exact Bool.and_eq_true_iff.mp (List.all_eq_true.mp this n hn)
noncomputable def PC : FE := (eLc mkF (iSeq (eVar 4)) (gTp 2 (gsCons (gNm 6) (gsCons (gNm 7) gsNil))) tYesD (eVar 6) [6, 7])
theorem m_PC {l : NL} (hl : l.length ≤ sizeLine) (x0 x1 x2 x3 x5 x6 x7 x8 x9 : Option D) (H : GH) : PC [x0, x1, x2, x3, some (.lst (l.map K03.encN)), x5, x6, x7, x8, x9] H = .ok (.lst (l.map fun q => encW q.1)) H := by
  refine R.eqn ?_
  unfold PC
  exists nilL
  refine lc_pure K03.encN l (fun _ => true) (fun q => encW q.1) hl rfl (fun q hq => ?_) ?_
  · have en : K03.encN q = .tup [encW q.1, encT q.2] := rfl
    exists en
    exact fun _ => trivial
  · rw [List.filter_eq_self.mpr fun _ _ => rfl]
    exists nilL
abbrev N_law01 : List Str := ["_law_script", "_law_cell", "_law_well_here", "_law_tree_here", "_law_nodes_here", "_law_told", "_law_path", "_law_node", "_law_known", "_law_turn"]
noncomputable def F_law01 (c : ClA) (kit : Addr → Addr → Option Bool) : List D → GH → R D := defF N_law01 (be_law F_atD F_wellD (F_treeT 6) F_drawD (K03.F_nd 6) F_flds F_nat (F_wo c.BadPath) (F_prn 6) F_oneD (F_rfs c.BadPath (F_cls c kit)))
theorem m_law01 {c : ClA} {kit : Addr → Addr → Option Bool} (kp : KitP c kit) (ns : List Int) (hl : ns.length ≤ 63) : ∃ G', F_law01 c kit [.scr (ns.map D.int)] [] = .ok (.bl true) G' := by
  have h : (F_law01 c kit [.scr (ns.map D.int)] []).wp (fun d _ => d = .bl true) noX := by
    unfold F_law01 be_law
    rw [show (eLc mkF (iSeq (eVar 4)) (gTp 2 (gsCons (gNm 6) (gsCons (gNm 7) gsNil))) tYesD (eVar 6) [6, 7]) = PC from rfl]
    generalize hS : (eLst (aCons (eC (.str "a")) (aCons (eC (.str "aa")) (aCons (eC (.str "ab")) (aCons (eC (.str "b")) (aCons (eC (.str "ba")) (aCons (eC (.str "zz")) aNil))))))) = SIX
    have eS : ∀ δ G, SIX δ G = .ok (.lst (sixT.map D.str)) G := fun δ G => by
      rw [← hS]
      refine R.eqn ?_
      exists nilL
      rfl
    and_intros
    have ec : ∀ G, dSl mkF (.scr (ns.map D.int)) (some 1) (some 6) G = .ok (.lst ((cutD ns (some 1) (some 6)).map D.int)) G := fun G => by
      rw [dSl_scr, cut_mapD]
      rfl
    have lc := cut_lenD ns (some 1) (some 6)
    have eb : D.int (ns.getD 0 0) :: (cutD ns (some 1) (some 6)).map D.int = (ns.getD 0 0 :: cutD ns (some 1) (some 6)).map D.int := rfl
    have lz : ∀ k : Nat, k ≤ 64 → k ≤ sizeLine := fun k hk => Nat.le_trans hk (by decide)
    have l1 : 1 + ((cutD ns (some 1) (some 6)).map D.int).length ≤ sizeLine := by rw [List.length_map]; exact lz _ (by omega)
    exists w_sFor, m_atD, ec, eb, l1
    refine for_inv D.int (ns.getD 0 0 :: cutD ns (some 1) (some 6)) (fun pre δ G2 => ∃ r1 r2 r3 r4 r5 r6 r7 r8 r9, δ = [some (.scr (ns.map D.int)), r1, r2, r3, r4, r5, r6, r7, r8, r9]) ⟨_, _, _, _, _, _, _, _, _, rfl⟩ (fun pre z post δ G2 e ⟨r1, r2, r3, r4, r5, r6, r7, r8, r9, e1⟩ => ?_) fun δ G2 ⟨r1, r2, r3, r4, r5, r6, r7, r8, r9, e1⟩ => ?_
    · subst e1
      obtain ⟨w, e2, ok⟩ := m_wellD z G2
      have W0 : (G2 ++ [w.cell])[G2.length]? = some w.cell := by rw [List.getElem?_append_right (Nat.le_refl _), Nat.sub_self]; rfl
      have s0 : ∀ w' : Wl, (G2 ++ [w.cell]).set G2.length w'.cell = G2 ++ [w'.cell] := fun w' => by rw [List.set_append_right _ _ (Nat.le_refl _), Nat.sub_self]; rfl
      obtain ⟨q, w1, e4, q0, q1, ok1⟩ := m_drawD w 6 G2.length _ 1 W0 (by decide) (by decide) ok (by omega)
      rw [s0] at e4
      obtain ⟨i, rfl⟩ : ∃ i : Nat, q = i := ⟨q.toNat, by omega⟩
      have W1 : (G2 ++ [w1.cell])[G2.length]? = some w1.cell := by rw [List.getElem?_append_right (Nat.le_refl _), Nat.sub_self]; rfl
      have s1 : ∀ w' : Wl, (G2 ++ [w1.cell]).set G2.length w'.cell = G2 ++ [w'.cell] := fun w' => by rw [List.set_append_right _ _ (Nat.le_refl _), Nat.sub_self]; rfl
      obtain ⟨t, w2, e5, ok2, okt0, szt⟩ := treeT3 i (by omega) 5 w1 G2.length _ _ (by omega) W1 ok1 (by omega)
      rw [s1] at e5
      have okt : okT fiveT 6 t := okT_mono fiveT (by omega) okt0
      have sz : szT t ≤ 40 := by omega
      have di : (1 : Int) + (i : Int) = ((i + 1 : Nat) : Int) := by omega
      have n3 : ((3 : Nat) : Int) = 3 := rfl
      rw [n3] at e5
      have e6 : ∀ G, K03.F_nd 6 [encT t, .tup []] G = .ok (.lst ((K03.ndT [] t).map K03.encN)) G := fun G => K03.m_nd 6 6 t [] G (Nat.le_refl _) okt (by omega) (by decide)
      have e7 := fun G => m_flds fiveT_ok okt sz G
      have ln : (K03.ndT [] t).length ≤ sizeLine := by rw [K03.ndT_len]; exact Nat.le_trans (show _ ≤ 41 by omega) (by decide)
      have pc := fun x0 x1 x2 x3 x5 x6 x7 x8 x9 H => m_PC ln x0 x1 x2 x3 x5 x6 x7 x8 x9 H
      have so := sortL_nodes fiveT_ok okt
      have sl : ∀ G, dSl mkF (.lst ((ndS t).map fun q => encW q.1)) (some 1) none G = .ok (.lst ((fldsL t).map encW)) G := fun G => by
        rw [dSl_lst, cut1 _ (by rw [List.length_map]; unfold ndS; rw [List.length_mergeSort, K03.ndT_len]; omega)]
        unfold fldsL
        rw [List.map_map, List.map_drop]
        rfl
      have pks : ∀ q ∈ K03.ndT [] t, pthOk q.1 ∧ atT t q.1 = some q.2 := fun q hq => by
        have hat := (ndS_at okt).mp (ndS_mem.mpr hq)
        exact ⟨node_pth fiveT_ok okt hat, hat⟩
      have fls : ∀ p ∈ fldsL t, ∀ x ∈ p, PyData.strOk x = true := fun p hp x hx => by
        obtain ⟨q, hq, rfl⟩ := List.mem_map.mp hp
        exact ((pks q (ndS_mem.mp (List.mem_of_mem_drop hq))).1.1 x hx).2
      have PF : Pd 2 (.lst ((fldsL t).map encW)) (.list ((fldsL t).map pyW)) := Pd.lst (k := 1) (Pds.map (f := encW) (g := pyW) fun p hp => pd_W (fls p hp))
      have flen : (fldsL t).length ≤ 41 := by
        unfold fldsL
        rw [List.length_map, List.length_drop]
        unfold ndS
        rw [List.length_mergeSort, K03.ndT_len]
        omega
      obtain ⟨H1, hH1⟩ : ∃ H1, H1 = G2 ++ [w2.cell] := ⟨_, rfl⟩
      have l1' : H1.length = G2.length + 1 := by rw [hH1, List.length_append]; rfl
      have c1 : (H1 ++ [Cell.lst ((fldsL t).map encW)])[G2.length + 1]? = some (.lst ((fldsL t).map encW)) := by rw [← l1', List.getElem?_append_right (Nat.le_refl _), Nat.sub_self]; rfl
      have n1 := dNe_cellK1 c1 PF (by decide)
      have lA : ((fldsL t).map encW).length < sizeLine := by rw [List.length_map]; exact Nat.lt_of_le_of_lt flen (by decide)
      have st1 : ∀ c, (H1 ++ [Cell.lst ((fldsL t).map encW)]).set (G2.length + 1) c = H1 ++ [c] := fun c => by rw [← l1', List.set_append_right _ _ (Nat.le_refl _), Nat.sub_self]; rfl
      have l2' : (H1 ++ [Cell.lst ((fldsL t).map encW ++ [.int 7])]).length = G2.length + 1 + 1 := by rw [List.length_append, l1']; rfl
      have e7a := e7 H1
      have e7b := e7 (H1 ++ [Cell.lst ((fldsL t).map encW ++ [.int 7])])
      rw [l1'] at e7a
      rw [l2'] at e7b
      have c2 : (H1 ++ [Cell.lst ((fldsL t).map encW ++ [.int 7])] ++ [Cell.lst ((fldsL t).map encW)])[G2.length + 1 + 1]? = some (.lst ((fldsL t).map encW)) := by rw [← l2', List.getElem?_append_right (Nat.le_refl _), Nat.sub_self]; rfl
      have n2 := dNe_cellK1 c2 PF (by decide)
      rw [← hH1] at e5
      exists e2, e4, di, e5, e6, e7a, pc, so, sl, n1, c1, lA, st1, e7b, n2, w_sFor
      refine for_inv K03.encN (K03.ndT [] t) (fun pre δ H => H = H1 ++ [Cell.lst ((fldsL t).map encW ++ [.int 7])] ++ [Cell.lst ((fldsL t).map encW)] ∧ ∃ s6 s7, δ = [some (.scr (ns.map D.int)), some (.int z), some (.ref G2.length), some (encT t), some (.lst ((K03.ndT [] t).map K03.encN)), some (.ref (G2.length + 1)), s6, s7, r8, r9]) ⟨rfl, _, _, rfl⟩ (fun pre q post δ H e ⟨eH, s6, s7, ed⟩ => ?_) fun δ H ⟨eH, s6, s7, ed⟩ => ?_
      · subst ed eH
        have hq : q ∈ K03.ndT [] t := by rw [e]; simp
        obtain ⟨pk, hat⟩ := pks q hq
        obtain ⟨s, okq, hs⟩ := atT_ok okt hat
        have okq6 := okT_mono fiveT hs okq
        have szq : szT q.2 ≤ 40 := Nat.le_trans (szT_at _ _ _ hat) sz
        have en : K03.encN q = .tup [encW q.1, encT q.2] := rfl
        have na := m_nat fiveT_ok okt (by omega) pk
        rw [hat] at na
        have na : ∀ G, F_nat [encT t, encW q.1] G = .ok (encT q.2) G := na
        have rq := rep_T fiveT_ok okq6 szq
        have nt := fun s G => dNeT_str s s G
        simp only [beq_self_eq_true] at nt
        have np := fun G => dNe_W (p := q.1) (q := []) (fun x hx => (pk.1 x hx).2) (fun x hx => nomatch hx) G
        have ew : (.tup [] : D) = encW [] := rfl
        by_cases hp : q.1 = []
        · rw [decide_eq_true hp] at np
          exists en, na, rq, nt, ew, np
          exact ⟨_, _, rfl⟩
        · rw [decide_eq_false hp] at np
          have wo := m_wo (CP := c.BadPath) fiveT_ok okt sz pk hp (by rw [hat]; rfl)
          have pr := fun G => m_prn fiveT_ok 6 6 t [] q.1 G (Nat.le_refl 6) okt (by omega) (by decide) (fun x hx => nomatch hx) (fun x hx => (pk.1 x hx).2)
          have pq := prn_cut 6 6 t [] q.1 (Nat.le_refl 6) okt hp
          rw [List.nil_append] at pq
          rw [pq] at pr
          have rc := rep_T fiveT_ok (okT_cut q.1 6 t okt) (Nat.le_trans (szT_cut q.1 t) sz)
          exists en, na, rq, nt, ew, np, wo, pr, rc
          exact ⟨_, _, rfl⟩
      · subst ed eH
        have l3' : (H1 ++ [Cell.lst ((fldsL t).map encW ++ [.int 7])] ++ [Cell.lst ((fldsL t).map encW)]) = G2 ++ [w2.cell] ++ [Cell.lst ((fldsL t).map encW ++ [.int 7]), Cell.lst ((fldsL t).map encW)] := by rw [hH1]; simp
        rw [l3']
        obtain ⟨J, hJ⟩ : ∃ J, J = [Cell.lst ((fldsL t).map encW ++ [.int 7]), Cell.lst ((fldsL t).map encW)] := ⟨_, rfl⟩
        rw [← hJ]
        have r4 : ∀ G, rng1K [.int 4] G = .ok (rngIts 0 4) G := fun G => by
          have := rng1K_nat (n := 4) (G := G) (by decide)
          exact this
        have Wc : ∀ w : Wl, (G2 ++ [w.cell] ++ J)[G2.length]? = some w.cell := fun w => by
          rw [List.append_assoc, List.getElem?_append_right (Nat.le_refl _), Nat.sub_self]; rfl
        have Ws : ∀ w w' : Wl, (G2 ++ [w.cell] ++ J).set G2.length w'.cell = G2 ++ [w'.cell] ++ J := fun w w' => by
          rw [List.append_assoc, List.set_append_right _ _ (Nat.le_refl _), Nat.sub_self, List.append_assoc]; rfl
        have eW : ((K03.ndT [] t).map fun q => encW q.1) = ((K03.ndT [] t).map (·.1)).map encW := by rw [List.map_map]; rfl
        obtain ⟨KN, hKN⟩ : ∃ l, l = (K03.ndT [] t).map (·.1) := ⟨_, rfl⟩
        rw [← hKN] at eW
        have nlen : (K03.ndT [] t).length = 1 + szT t := K03.ndT_len [] t
        have fv6 : ∀ x ∈ fiveT, x ∈ sixT := by decide +kernel
        have kn : ∀ p ∈ KN, pthOk p ∧ p.length ≤ 6 ∧ (∀ x ∈ p, x ∈ sixT) := fun p hp => by
          rw [hKN] at hp
          obtain ⟨q, hq, rfl⟩ := List.mem_map.mp hp
          obtain ⟨pk, hat⟩ := pks q hq
          obtain ⟨a, b⟩ := atT_names okt hat
          exact ⟨pk, by omega, fun x hx => fv6 x (a x hx)⟩
        have ee : (.tup [] : D) = encW [] := rfl
        have z0 : PyData.strOk "()" = true := by decide +kernel
        have rf0 := m_rfs fiveT_ok kp okt sz (p := []) ⟨fun x hx => (by cases hx), by decide⟩ (.inr rfl) (z := "()") rep_nilW
        have ne0 := fun G => (pd_same (Pd.tup (k := 0) (.cons (Pd.str z0) (.cons (Pd.int 1) .nil))) (by decide) G).2.1
        exists pc, eW, r4, w_sFor
        refine for_inv (fun j : Nat => D.int (0 + (j : Nat))) (List.range 4) (fun pre δ H => ∃ (w : Wl) (s6 s9 : Option D), H = G2 ++ [w.cell] ++ J ∧ δ = [some (.scr (ns.map D.int)), some (.int z), some (.ref G2.length), some (encT t), some (.lst ((K03.ndT [] t).map K03.encN)), some (.ref (G2.length + 1)), s6, s7, some (.lst (KN.map encW)), s9] ∧ w.ok (400 + 10 * (pre.length : Int))) ⟨w2, _, _, rfl, rfl, ok2.mono (by simp)⟩ (fun pre x post δ H e' ⟨w3, u6, u9, eH, ed, ok3⟩ => ?_) fun δ H ⟨w3, u6, u9, eH, ed, ok3⟩ => ?_
        · subst eH ed
          have pl : pre.length < 4 := by
            have := congrArg List.length e'
            rw [List.length_range, List.length_append, List.length_cons] at this
            omega
          obtain ⟨d1, wa, f1, m1, oka⟩ := m_oneD w3 (KN.map encW) G2.length (G2 ++ [w3.cell] ++ J) _ (Wc w3) (by rw [List.length_map, hKN, List.length_map]; omega) (by rw [List.length_map, hKN, List.length_map]; omega) ok3 (by omega)
          rw [Ws] at f1
          obtain ⟨p0, hp0, rfl⟩ := List.mem_map.mp m1
          obtain ⟨d2, wb, f2, m2, okb⟩ := m_oneD wa (sixT.map D.str) G2.length (G2 ++ [wa.cell] ++ J) _ (Wc wa) (by decide) (by decide) oka (by omega)
          rw [Ws] at f2
          obtain ⟨y, hy, rfl⟩ := List.mem_map.mp m2
          obtain ⟨b, wc, f3, b0, b1, okc⟩ := m_drawD wb 2 G2.length (G2 ++ [wb.cell] ++ J) _ (Wc wb) (by decide) (by decide) okb (by omega)
          rw [Ws] at f3
          obtain ⟨pk0, pl0, ps0⟩ := kn p0 hp0
          have pa := fun G => pw_W (p := p0) y (by omega) G
          have pb := fun G => pw_W (p := p0 ++ [y]) "a" (by rw [List.length_append, List.length_singleton]; omega) G
          obtain ⟨P2, hP2⟩ : ∃ P2, P2 = if b = 0 then p0 ++ [y] else p0 ++ [y] ++ (["a"] : Pth) := ⟨_, rfl⟩
          have ix : atI [encW (p0 ++ [y]), encW (p0 ++ [y] ++ (["a"] : Pth))] b = some (encW P2) := by
            have : b = 0 ∨ b = 1 := by omega
            rcases this with rfl | rfl
            · rw [hP2, if_pos rfl]; rfl
            · rw [hP2, if_neg (by decide)]; rfl
          have six2 : ∀ x ∈ P2, x ∈ sixT := fun x hx => by
            have a1 : ∀ x ∈ p0 ++ [y], x ∈ sixT := fun x hx => by
              rcases List.mem_append.mp hx with hx | hx
              · exact ps0 x hx
              · rw [List.mem_singleton.mp hx]; exact hy
            rw [hP2] at hx
            by_cases q : b = 0
            · rw [if_pos q] at hx; exact a1 x hx
            · rw [if_neg q] at hx
              rcases List.mem_append.mp hx with hx | hx
              · exact a1 x hx
              · rw [List.mem_singleton.mp hx]; decide +kernel
          have pk2 : pthOk P2 := ⟨fun x hx => sixT_ok x (six2 x hx), by
            rw [hP2]
            by_cases q : b = 0
            · rw [if_pos q, List.length_append, List.length_singleton]; omega
            · rw [if_neg q, List.length_append, List.length_append, List.length_singleton, List.length_singleton]; omega⟩
          have ni := dNotIn_WK1 (P := P2) (ps := KN) (fun x hx => (pk2.1 x hx).2) (fun q hq x hx => ((kn q hq).1.1 x hx).2)
          by_cases hm : P2 ∈ KN
          · rw [decide_eq_true hm] at ni
            exists f1, eS, f2, pa, pb, f3, ix, ni
            exact ⟨wc, _, _, rfl, rfl, okc.mono (by omega)⟩
          · rw [decide_eq_false hm] at ni
            have nat : atT t P2 = none := by
              cases h : atT t P2 with
              | none => rfl
              | some u =>
                refine absurd ?_ hm
                rw [hKN]
                exact List.mem_map.mpr ⟨(P2, u), ndS_mem.mp ((ndS_at okt (q := (P2, u))).mpr h), rfl⟩
            have na := m_nat fiveT_ok okt (by omega) pk2
            rw [nat] at na
            have na : ∀ G, F_nat [encT t, encW P2] G = .ok .non G := na
            obtain ⟨zz, hz, oz⟩ := rep_W pk2 fun x hx => sixT_plain x (six2 x hx)
            have rf := m_rfs fiveT_ok kp okt sz pk2 (.inl nat) hz
            have ne := fun G => (pd_same (Pd.tup (k := 0) (.cons (Pd.str oz) (.cons (Pd.int 1) .nil))) (by decide) G).2.1
            have inn : isN D.non = true := rfl
            exists f1, eS, f2, pa, pb, f3, ix, ni, na, inn, rf, hz, ne
            exact ⟨wc, _, _, rfl, rfl, okc.mono (by omega)⟩
        · subst eH ed
          exists ee, rf0, ne0
          exact ⟨_, _, _, _, _, _, _, _, _, rfl⟩
    · subst e1
      exists nilL
  obtain ⟨d, G', e, rfl⟩ := R.wp_ex_iff.mp h
  exact ⟨G', e⟩
end BB
end
end CF
end
section
set_option maxRecDepth 100000
set_option maxHeartbeats 0
namespace CF
namespace K01
open PySem PySem.Spec PyProof.Rows L2 BB
theorem sc_ClaimError___init__ : FnScope ["self", "why"] ["self", "why"] (defScope s_ClaimError___init__) := ⟨rfl, rfl, rfl, by decide +kernel, rfl, by decide +kernel, by decide +kernel⟩
theorem ok_ClaimError___init__ {P : Program} {w : World} {K : PySem.W.Frag} {mg : Str → Option Value} {base : Heap} {k : Nat} {f : Addr} {fd : FuncData} (F : FnAt K "__init__" "ClaimError.__init__" s_ClaimError___init__ f fd) (hm : mg "ValueError" = none) (vV : veB K = true) :
    FnOk P w K mg base (L2.CX P w) (k + 1) f fd ["self", "why"] (spI K ["why"] 1 flB) :=
  fnI F sc_ClaimError___init__ (spI_len rfl) fun cdv A outer s H vs Q E hr h => by
    have sc := sc_ClaimError___init__
    exact ⟨_, pss_cons (ps_expr (pe_veinit rfl hm (veB_ok vV) (pa_cons (xvP 0) (pa_cons (xvP 1) pa_nil)))) (pss_cons (ps_ost (xvP 0) (xvP 1)) pss_nil), base_read h⟩
theorem sc_BadPath___init__ : FnScope ["self", "path"] ["self", "path"] (defScope s_BadPath___init__) := ⟨rfl, rfl, rfl, by decide +kernel, rfl, by decide +kernel, by decide +kernel⟩
theorem ok_BadPath___init__ {P : Program} {w : World} {K : PySem.W.Frag} {mg : Str → Option Value} {base : Heap} {k : Nat} {f : Addr} {fd : FuncData} (F : FnAt K "__init__" "BadPath.__init__" s_BadPath___init__ f fd) {C : Addr} {fI : Addr} {fdI : FuncData} (hm : mg "ClaimError" = some (.ref C)) (c : ClF K C "__init__" fI) {ds : List Value} (hb : Binds K fdI ["self", "why"] ds) (hd : Vals [] ds) (FI : FnOk P w K mg base (L2.CX P w) k fI fdI ["self", "why"] (spI K ["why"] 1 flB)) :
    FnOk P w K mg base (L2.CX P w) (k + 1) f fd ["self", "path"] (spI K ["path", "why"] 1 (flS "path" "path")) :=
  fnI F sc_BadPath___init__ (spI_len rfl) fun cdv A outer s H vs Q E hr h => by
    have sc := sc_BadPath___init__
    exact ⟨_, pss_cons (ps_expr (pe_clsF FI hr rfl hm c hb hd (passes_no takes0) (pa_cons (xvP 0) (pa_cons pe_str pa_nil)))) (pss_cons (ps_ost (xvP 0) (xvP 1)) pss_nil), sub_read h⟩
def clA (K : PySem.W.Frag) : ClA := ⟨He.ga K "BadOrders", He.ga K "BadPath", He.ga K "BadStep", He.ga K "BadText", He.ga K "BadTree", He.ga K "BadWriter", He.ga K "Refused", He.ga K "TooMany", He.ga K "ClaimError"⟩
theorem kitL {K : PySem.W.Frag} (cx : exL K = true) : KitP (clA K) (kitK K) := by
  unfold exL at cx
  obtain ⟨x0, cx⟩ := Bool.and_eq_true_iff.mp cx
  obtain ⟨x1, cx⟩ := Bool.and_eq_true_iff.mp cx
  obtain ⟨x2, cx⟩ := Bool.and_eq_true_iff.mp cx
  obtain ⟨x3, cx⟩ := Bool.and_eq_true_iff.mp cx
  obtain ⟨x4, cx⟩ := Bool.and_eq_true_iff.mp cx
  obtain ⟨x5, cx⟩ := Bool.and_eq_true_iff.mp cx
  obtain ⟨x6, cx⟩ := Bool.and_eq_true_iff.mp cx
  obtain ⟨x7, cx⟩ := Bool.and_eq_true_iff.mp cx
  obtain ⟨x8, cx⟩ := Bool.and_eq_true_iff.mp cx
  obtain ⟨x9, cx⟩ := Bool.and_eq_true_iff.mp cx
  obtain ⟨x10, cx⟩ := Bool.and_eq_true_iff.mp cx
  obtain ⟨x11, cx⟩ := Bool.and_eq_true_iff.mp cx
  obtain ⟨x12, cx⟩ := Bool.and_eq_true_iff.mp cx
  obtain ⟨x13, cx⟩ := Bool.and_eq_true_iff.mp cx
  obtain ⟨x14, cx⟩ := Bool.and_eq_true_iff.mp cx
  have x15 := cx
  exact ⟨kitB_ok x2, kitB_ok x3, kitB_ok x4, kitB_ok x5, kitB_ok x6, kitB_ok x7, kitB_ok x8, kitB_ok x9, kitB_ok x10⟩
theorem factsL {P : Program} {w : World} {K : PySem.W.Frag} {h : Heap} {mg : Str → Option Value} {f : Addr} (X : K.In h) (G : h.Ns mainGlobals mg) (hfa : mg ("law" : Str) = some (.ref f)) (c : He.SaysD faL fnL K) (cx : exL K = true) :
    ∃ fd : FuncData, (∀ (s : Shared) (v : Value), BindsTo s fd ⟨[v], []⟩ [("_law_script", v)]) ∧ ∀ base : Heap, K.In base → base.Ns mainGlobals mg → FnD P w K mg base 18 f fd ["_law_script"] (F_law01 (clA K) (kitK K)) := by
  unfold exL at cx
  obtain ⟨x0, cx⟩ := Bool.and_eq_true_iff.mp cx
  obtain ⟨x1, cx⟩ := Bool.and_eq_true_iff.mp cx
  obtain ⟨x2, cx⟩ := Bool.and_eq_true_iff.mp cx
  obtain ⟨x3, cx⟩ := Bool.and_eq_true_iff.mp cx
  obtain ⟨x4, cx⟩ := Bool.and_eq_true_iff.mp cx
  obtain ⟨x5, cx⟩ := Bool.and_eq_true_iff.mp cx
  obtain ⟨x6, cx⟩ := Bool.and_eq_true_iff.mp cx
  obtain ⟨x7, cx⟩ := Bool.and_eq_true_iff.mp cx
  obtain ⟨x8, cx⟩ := Bool.and_eq_true_iff.mp cx
  obtain ⟨x9, cx⟩ := Bool.and_eq_true_iff.mp cx
  obtain ⟨x10, cx⟩ := Bool.and_eq_true_iff.mp cx
  obtain ⟨x11, cx⟩ := Bool.and_eq_true_iff.mp cx
  obtain ⟨x12, cx⟩ := Bool.and_eq_true_iff.mp cx
  obtain ⟨x13, cx⟩ := Bool.and_eq_true_iff.mp cx
  obtain ⟨x14, cx⟩ := Bool.and_eq_true_iff.mp cx
  have x15 := cx
  obtain ⟨d_is_integer, H0_is_integer⟩ := c.def_ 0 (d := dd_is_integer) rfl
  have H_is_integer : FunD K "is_integer" "is_integer" (defArgs s_is_integer) (defBody s_is_integer) (defScope s_is_integer) [] [] (He.ga K "is_integer") d_is_integer := H0_is_integer
  have g_is_integer := He.glo_ok X G (c.fact 0 (f := .glo "is_integer") rfl)
  obtain ⟨d_is_name, H0_is_name⟩ := c.def_ 1 (d := dd_is_name) rfl
  have H_is_name : FunD K "is_name" "is_name" (defArgs s_is_name) (defBody s_is_name) (defScope s_is_name) [] [] (He.ga K "is_name") d_is_name := H0_is_name
  have g_is_name := He.glo_ok X G (c.fact 1 (f := .glo "is_name") rfl)
  obtain ⟨d_is_pairs, H0_is_pairs⟩ := c.def_ 2 (d := dd_is_pairs) rfl
  have H_is_pairs : FunD K "is_pairs" "is_pairs" (defArgs s_is_pairs) (defBody s_is_pairs) (defScope s_is_pairs) [] [] (He.ga K "is_pairs") d_is_pairs := H0_is_pairs
  have g_is_pairs := He.glo_ok X G (c.fact 2 (f := .glo "is_pairs") rfl)
  obtain ⟨d_is_tree, H0_is_tree⟩ := c.def_ 3 (d := dd_is_tree) rfl
  have H_is_tree : FunD K "is_tree" "is_tree" (defArgs s_is_tree) (defBody s_is_tree) (defScope s_is_tree) [V.int 6] [] (He.ga K "is_tree") d_is_tree := H0_is_tree
  have g_is_tree := He.glo_ok X G (c.fact 3 (f := .glo "is_tree") rfl)
  obtain ⟨d_count_of, H0_count_of⟩ := c.def_ 4 (d := dd_count_of) rfl
  have H_count_of : FunD K "count_of" "count_of" (defArgs s_count_of) (defBody s_count_of) (defScope s_count_of) [] [] (He.ga K "count_of") d_count_of := H0_count_of
  have g_count_of := He.glo_ok X G (c.fact 4 (f := .glo "count_of") rfl)
  obtain ⟨d_check_tree, H0_check_tree⟩ := c.def_ 5 (d := dd_check_tree) rfl
  have H_check_tree : FunD K "check_tree" "check_tree" (defArgs s_check_tree) (defBody s_check_tree) (defScope s_check_tree) [] [] (He.ga K "check_tree") d_check_tree := H0_check_tree
  have g_check_tree := He.glo_ok X G (c.fact 5 (f := .glo "check_tree") rfl)
  obtain ⟨d_check_path, H0_check_path⟩ := c.def_ 6 (d := dd_check_path) rfl
  have H_check_path : FunD K "check_path" "check_path" (defArgs s_check_path) (defBody s_check_path) (defScope s_check_path) [] [] (He.ga K "check_path") d_check_path := H0_check_path
  have g_check_path := He.glo_ok X G (c.fact 6 (f := .glo "check_path") rfl)
  obtain ⟨d_all_nodes, H0_all_nodes⟩ := c.def_ 7 (d := dd_all_nodes) rfl
  have H_all_nodes : FunD K "all_nodes" "all_nodes" (defArgs s_all_nodes) (defBody s_all_nodes) (defScope s_all_nodes) [V.ref (He.dflAt ("all_nodes", none) 0 K)] [] (He.ga K "all_nodes") d_all_nodes := H0_all_nodes
  have g_all_nodes := He.glo_ok X G (c.fact 7 (f := .glo "all_nodes") rfl)
  obtain ⟨d_fields, H0_fields⟩ := c.def_ 8 (d := dd_fields) rfl
  have H_fields : FunD K "fields" "fields" (defArgs s_fields) (defBody s_fields) (defScope s_fields) [] [] (He.ga K "fields") d_fields := H0_fields
  have g_fields := He.glo_ok X G (c.fact 8 (f := .glo "fields") rfl)
  obtain ⟨d_find_node, H0_find_node⟩ := c.def_ 9 (d := dd_find_node) rfl
  have H_find_node : FunD K "find_node" "find_node" (defArgs s_find_node) (defBody s_find_node) (defScope s_find_node) [] [] (He.ga K "find_node") d_find_node := H0_find_node
  have g_find_node := He.glo_ok X G (c.fact 9 (f := .glo "find_node") rfl)
  obtain ⟨d_node_at, H0_node_at⟩ := c.def_ 10 (d := dd_node_at) rfl
  have H_node_at : FunD K "node_at" "node_at" (defArgs s_node_at) (defBody s_node_at) (defScope s_node_at) [] [] (He.ga K "node_at") d_node_at := H0_node_at
  have g_node_at := He.glo_ok X G (c.fact 10 (f := .glo "node_at") rfl)
  obtain ⟨d_cut, H0_cut⟩ := c.def_ 11 (d := dd_cut) rfl
  have H_cut : FunD K "cut" "cut" (defArgs s_cut) (defBody s_cut) (defScope s_cut) [] [] (He.ga K "cut") d_cut := H0_cut
  have g_cut := He.glo_ok X G (c.fact 11 (f := .glo "cut") rfl)
  obtain ⟨d_without_R, H0_without_R⟩ := c.def_ 12 (d := dd_without_R) rfl
  have H_without_R : FunD K "without" "without" (defArgs s_without_R) (defBody s_without_R) (defScope s_without_R) [] [] (He.ga K "without") d_without_R := H0_without_R
  have g_without_R := He.glo_ok X G (c.fact 12 (f := .glo "without") rfl)
  obtain ⟨d__law_cell_at, H0__law_cell_at⟩ := c.def_ 13 (d := dd__law_cell_at) rfl
  have H__law_cell_at : FunD K "_law_cell_at" "_law_cell_at" (defArgs s__law_cell_at) (defBody s__law_cell_at) (defScope s__law_cell_at) [] [] (He.ga K "_law_cell_at") d__law_cell_at := H0__law_cell_at
  have g__law_cell_at := He.glo_ok X G (c.fact 13 (f := .glo "_law_cell_at") rfl)
  obtain ⟨d__law_well, H0__law_well⟩ := c.def_ 14 (d := dd__law_well) rfl
  have H__law_well : FunD K "_law_well" "_law_well" (defArgs s__law_well) (defBody s__law_well) (defScope s__law_well) [] [] (He.ga K "_law_well") d__law_well := H0__law_well
  have g__law_well := He.glo_ok X G (c.fact 14 (f := .glo "_law_well") rfl)
  obtain ⟨d__law_draw, H0__law_draw⟩ := c.def_ 15 (d := dd__law_draw) rfl
  have H__law_draw : FunD K "_law_draw" "_law_draw" (defArgs s__law_draw) (defBody s__law_draw) (defScope s__law_draw) [] [] (He.ga K "_law_draw") d__law_draw := H0__law_draw
  have g__law_draw := He.glo_ok X G (c.fact 15 (f := .glo "_law_draw") rfl)
  obtain ⟨d__law_one, H0__law_one⟩ := c.def_ 16 (d := dd__law_one) rfl
  have H__law_one : FunD K "_law_one" "_law_one" (defArgs s__law_one) (defBody s__law_one) (defScope s__law_one) [] [] (He.ga K "_law_one") d__law_one := H0__law_one
  have g__law_one := He.glo_ok X G (c.fact 16 (f := .glo "_law_one") rfl)
  obtain ⟨d__law_names, H0__law_names⟩ := c.def_ 17 (d := dd__law_names) rfl
  have H__law_names : FunD K "_law_names" "_law_names" (defArgs s__law_names) (defBody s__law_names) (defScope s__law_names) [] [] (He.ga K "_law_names") d__law_names := H0__law_names
  have g__law_names := He.glo_ok X G (c.fact 17 (f := .glo "_law_names") rfl)
  obtain ⟨d__law_tree, H0__law_tree⟩ := c.def_ 18 (d := dd__law_tree) rfl
  have H__law_tree : FunD K "_law_tree" "_law_tree" (defArgs s__law_tree) (defBody s__law_tree) (defScope s__law_tree) [] [] (He.ga K "_law_tree") d__law_tree := H0__law_tree
  have g__law_tree := He.glo_ok X G (c.fact 18 (f := .glo "_law_tree") rfl)
  obtain ⟨d__law_nodes, H0__law_nodes⟩ := c.def_ 19 (d := dd__law_nodes) rfl
  have H__law_nodes : FunD K "_law_nodes" "_law_nodes" (defArgs s__law_nodes) (defBody s__law_nodes) (defScope s__law_nodes) [] [] (He.ga K "_law_nodes") d__law_nodes := H0__law_nodes
  have g__law_nodes := He.glo_ok X G (c.fact 19 (f := .glo "_law_nodes") rfl)
  obtain ⟨d__law_classes_of, H0__law_classes_of⟩ := c.def_ 20 (d := dd__law_classes_of) rfl
  have H__law_classes_of : FunD K "_law_classes_of" "_law_classes_of" (defArgs s__law_classes_of) (defBody s__law_classes_of) (defScope s__law_classes_of) [] [] (He.ga K "_law_classes_of") d__law_classes_of := H0__law_classes_of
  have g__law_classes_of := He.glo_ok X G (c.fact 20 (f := .glo "_law_classes_of") rfl)
  obtain ⟨d__law_pruned, H0__law_pruned⟩ := c.def_ 21 (d := dd__law_pruned) rfl
  have H__law_pruned : FunD K "_law_pruned" "_law_pruned" (defArgs s__law_pruned) (defBody s__law_pruned) (defScope s__law_pruned) [] [] (He.ga K "_law_pruned") d__law_pruned := H0__law_pruned
  have g__law_pruned := He.glo_ok X G (c.fact 21 (f := .glo "_law_pruned") rfl)
  obtain ⟨d__law_refused, H0__law_refused⟩ := c.def_ 22 (d := dd__law_refused) rfl
  have H__law_refused : FunD K "_law_refused" "_law_refused" (defArgs s__law_refused) (defBody s__law_refused) (defScope s__law_refused) [] [] (He.ga K "_law_refused") d__law_refused := H0__law_refused
  have g__law_refused := He.glo_ok X G (c.fact 22 (f := .glo "_law_refused") rfl)
  obtain ⟨d_law, H0_law⟩ := c.def_ 23 (d := dd_law) rfl
  have H_law : FunD K "law" "law" (defArgs s_law) (defBody s_law) (defScope s_law) [] [] (He.ga K "law") d_law := H0_law
  have g_law := He.glo_ok X G (c.fact 23 (f := .glo "law") rfl)
  obtain ⟨d_ClaimError___init__, H0_ClaimError___init__⟩ := c.def_ 24 (d := dd_ClaimError___init__) rfl
  have H_ClaimError___init__ : FunD K "__init__" "ClaimError.__init__" (defArgs s_ClaimError___init__) (defBody s_ClaimError___init__) (defScope s_ClaimError___init__) [V.str "invalid"] [] (He.ma K (He.ga K "ClaimError") "__init__") d_ClaimError___init__ := H0_ClaimError___init__
  obtain ⟨d_BadPath___init__, H0_BadPath___init__⟩ := c.def_ 25 (d := dd_BadPath___init__) rfl
  have H_BadPath___init__ : FunD K "__init__" "BadPath.__init__" (defArgs s_BadPath___init__) (defBody s_BadPath___init__) (defScope s_BadPath___init__) [] [] (He.ma K (He.ga K "BadPath") "__init__") d_BadPath___init__ := H0_BadPath___init__
  have n_BadPath_path : NoAttr K (He.ga K "BadPath") "path" := He.noat_ok (c.fact 42 (f := .noat "BadPath" "path") rfl)
  have x_BadPath : XcC K mg "BadPath" (He.ga K "BadPath") := ⟨He.glo_ok X G (c.fact 43 (f := .glo "BadPath") rfl), He.exm_ok (c.fact 44 (f := .exm "BadPath" "BadPath" true) rfl), xfB_ok x0⟩
  have y_BadText := He.glo_ok X G (c.fact 45 (f := .glo "BadText") rfl)
  have y_BadStep := He.glo_ok X G (c.fact 46 (f := .glo "BadStep") rfl)
  have y_BadPath := He.glo_ok X G (c.fact 43 (f := .glo "BadPath") rfl)
  have y_BadOrders := He.glo_ok X G (c.fact 47 (f := .glo "BadOrders") rfl)
  have y_TooMany := He.glo_ok X G (c.fact 48 (f := .glo "TooMany") rfl)
  have y_Refused := He.glo_ok X G (c.fact 49 (f := .glo "Refused") rfl)
  have y_BadWriter := He.glo_ok X G (c.fact 50 (f := .glo "BadWriter") rfl)
  have y_BadTree := He.glo_ok X G (c.fact 51 (f := .glo "BadTree") rfl)
  have y_ClaimError := He.glo_ok X G (c.fact 52 (f := .glo "ClaimError") rfl)
  have cx_BadPath : ClsX K (He.ga K "BadPath") := clsXB_ok x1
  have e_all_nodes : EmpT K (He.dflAt ("all_nodes", none) 0 K) := empB_ok x11
  have t_is_integer : Tx K mg "is_integer" ["value"] [] (He.ga K "is_integer") d_is_integer := Tx.ofN H_is_integer g_is_integer fun _ _ _ _ _ _ us hl => match us, hl with | [_], _ => rfl
  have t_is_name : Tx K mg "is_name" ["value"] [] (He.ga K "is_name") d_is_name := Tx.ofN H_is_name g_is_name fun _ _ _ _ _ _ us hl => match us, hl with | [_], _ => rfl
  have t_is_pairs : Tx K mg "is_pairs" ["pairs", "room"] [] (He.ga K "is_pairs") d_is_pairs := Tx.ofN H_is_pairs g_is_pairs fun _ _ _ _ _ _ us hl => match us, hl with | [_, _], _ => rfl
  have t_is_tree : Tx K mg "is_tree" ["value", "room"] [] (He.ga K "is_tree") d_is_tree := Tx.ofD 2 1 H_is_tree g_is_tree (by simp) rfl fun _ _ _ _ _ _ _ us its hl hi => match us, hl, its, hi with | [_, _], _, [_], _ => ⟨_, rfl, rfl⟩
  have t_is_tree_1 : Tx K mg "is_tree" ["value", "room"] [V.int 6] (He.ga K "is_tree") d_is_tree := Tx.ofD 1 0 H_is_tree g_is_tree (by simp) rfl fun _ _ _ _ _ _ _ us its hl hi => match us, hl, its, hi with | [_], _, [_], _ => ⟨_, rfl, rfl⟩
  have t_count_of : Tx K mg "count_of" ["tree"] [] (He.ga K "count_of") d_count_of := Tx.ofN H_count_of g_count_of fun _ _ _ _ _ _ us hl => match us, hl with | [_], _ => rfl
  have t_check_tree : Tx K mg "check_tree" ["tree"] [] (He.ga K "check_tree") d_check_tree := Tx.ofN H_check_tree g_check_tree fun _ _ _ _ _ _ us hl => match us, hl with | [_], _ => rfl
  have t_check_path : Tx K mg "check_path" ["path"] [] (He.ga K "check_path") d_check_path := Tx.ofN H_check_path g_check_path fun _ _ _ _ _ _ us hl => match us, hl with | [_], _ => rfl
  have t_all_nodes : Tx K mg "all_nodes" ["tree", "path"] [] (He.ga K "all_nodes") d_all_nodes := Tx.ofD 2 1 H_all_nodes g_all_nodes (by simp) rfl fun _ _ _ _ _ _ _ us its hl hi => match us, hl, its, hi with | [_, _], _, [_], _ => ⟨_, rfl, rfl⟩
  have t_all_nodes_1 : Tx K mg "all_nodes" ["tree", "path"] [V.ref (He.dflAt ("all_nodes", none) 0 K)] (He.ga K "all_nodes") d_all_nodes := Tx.ofD 1 0 H_all_nodes g_all_nodes (by simp) rfl fun _ _ _ _ _ _ _ us its hl hi => match us, hl, its, hi with | [_], _, [_], _ => ⟨_, rfl, rfl⟩
  have t_fields : Tx K mg "fields" ["tree"] [] (He.ga K "fields") d_fields := Tx.ofN H_fields g_fields fun _ _ _ _ _ _ us hl => match us, hl with | [_], _ => rfl
  have t_find_node : Tx K mg "find_node" ["tree", "path"] [] (He.ga K "find_node") d_find_node := Tx.ofN H_find_node g_find_node fun _ _ _ _ _ _ us hl => match us, hl with | [_, _], _ => rfl
  have t_node_at : Tx K mg "node_at" ["tree", "path"] [] (He.ga K "node_at") d_node_at := Tx.ofN H_node_at g_node_at fun _ _ _ _ _ _ us hl => match us, hl with | [_, _], _ => rfl
  have t_cut : Tx K mg "cut" ["tree", "path"] [] (He.ga K "cut") d_cut := Tx.ofN H_cut g_cut fun _ _ _ _ _ _ us hl => match us, hl with | [_, _], _ => rfl
  have t_without_R : Tx K mg "without" ["tree", "path"] [] (He.ga K "without") d_without_R := Tx.ofN H_without_R g_without_R fun _ _ _ _ _ _ us hl => match us, hl with | [_, _], _ => rfl
  have t__law_cell_at : Tx K mg "_law_cell_at" ["_law_script", "_law_k"] [] (He.ga K "_law_cell_at") d__law_cell_at := Tx.ofN H__law_cell_at g__law_cell_at fun _ _ _ _ _ _ us hl => match us, hl with | [_, _], _ => rfl
  have t__law_well : Tx K mg "_law_well" ["_law_cell"] [] (He.ga K "_law_well") d__law_well := Tx.ofN H__law_well g__law_well fun _ _ _ _ _ _ us hl => match us, hl with | [_], _ => rfl
  have t__law_draw : Tx K mg "_law_draw" ["_law_well_here", "_law_many"] [] (He.ga K "_law_draw") d__law_draw := Tx.ofN H__law_draw g__law_draw fun _ _ _ _ _ _ us hl => match us, hl with | [_, _], _ => rfl
  have t__law_one : Tx K mg "_law_one" ["_law_well_here", "_law_some"] [] (He.ga K "_law_one") d__law_one := Tx.ofN H__law_one g__law_one fun _ _ _ _ _ _ us hl => match us, hl with | [_, _], _ => rfl
  have t__law_names : Tx K mg "_law_names" ["_law_well_here", "_law_most"] [] (He.ga K "_law_names") d__law_names := Tx.ofN H__law_names g__law_names fun _ _ _ _ _ _ us hl => match us, hl with | [_, _], _ => rfl
  have t__law_tree : Tx K mg "_law_tree" ["_law_well_here", "_law_deep", "_law_most"] [] (He.ga K "_law_tree") d__law_tree := Tx.ofN H__law_tree g__law_tree fun _ _ _ _ _ _ us hl => match us, hl with | [_, _, _], _ => rfl
  have t__law_nodes : Tx K mg "_law_nodes" ["_law_tree_here", "_law_path"] [] (He.ga K "_law_nodes") d__law_nodes := Tx.ofN H__law_nodes g__law_nodes fun _ _ _ _ _ _ us hl => match us, hl with | [_, _], _ => rfl
  have t__law_classes_of : Tx K mg "_law_classes_of" ["_law_e"] [] (He.ga K "_law_classes_of") d__law_classes_of := Tx.ofN H__law_classes_of g__law_classes_of fun _ _ _ _ _ _ us hl => match us, hl with | [_], _ => rfl
  have t__law_pruned : Tx K mg "_law_pruned" ["_law_tree_here", "_law_path", "_law_gone"] [] (He.ga K "_law_pruned") d__law_pruned := Tx.ofN H__law_pruned g__law_pruned fun _ _ _ _ _ _ us hl => match us, hl with | [_, _, _], _ => rfl
  have t__law_refused : Tx K mg "_law_refused" ["_law_tree_here", "_law_path"] [] (He.ga K "_law_refused") d__law_refused := Tx.ofN H__law_refused g__law_refused fun _ _ _ _ _ _ us hl => match us, hl with | [_, _], _ => rfl
  have e := hfa.symm.trans g_law
  cases e
  have T : Top K mg := ⟨He.free_ok X G (c.fact 24 (f := .free "all") rfl),
    He.free_ok X G (c.fact 25 (f := .free "bool") rfl),
    He.free_ok X G (c.fact 26 (f := .free "dict") rfl),
    He.free_ok X G (c.fact 27 (f := .free "int") rfl),
    He.free_ok X G (c.fact 28 (f := .free "isinstance") rfl),
    He.free_ok X G (c.fact 29 (f := .free "len") rfl),
    He.free_ok X G (c.fact 30 (f := .free "max") rfl),
    He.free_ok X G (c.fact 31 (f := .free "range") rfl),
    He.free_ok X G (c.fact 32 (f := .free "repr") rfl),
    He.free_ok X G (c.fact 33 (f := .free "set") rfl),
    He.free_ok X G (c.fact 34 (f := .free "sorted") rfl),
    He.free_ok X G (c.fact 35 (f := .free "str") rfl),
    He.free_ok X G (c.fact 36 (f := .free "sum") rfl),
    He.free_ok X G (c.fact 37 (f := .free "tuple") rfl),
    He.int_ok X G (c.fact 38 (f := .int "BOUND" (1000000000000000000000000000000)) rfl),
    He.str_ok X G (c.fact 39 (f := .str "LETTERS" "abcdefghijklmnopqrstuvwxyz") rfl),
    He.int_ok X G (c.fact 40 (f := .int "MOST_LETTERS" (8)) rfl),
    He.int_ok X G (c.fact 41 (f := .int "MOST_NODES" (320)) rfl)⟩
  refine ⟨d_law, fun s v => FunD.bindsA (ps := ["_law_script"]) H_law (fun _ _ _ _ _ _ us hl => match us, hl with | [_], _ => rfl) s [v] rfl, fun base _ _ => ?_⟩
  have F_ClaimError___init__ : FnOk P w K mg base (L2.CX P w) 1 (He.ma K (He.ga K "ClaimError") "__init__") d_ClaimError___init__ ["self", "why"] (spI K ["why"] 1 flB) := ok_ClaimError___init__ (.mkD H_ClaimError___init__) (He.free_ok X G (c.fact 53 (f := .free "ValueError") rfl)) x12
  obtain ⟨dsI, _, bI⟩ : ∃ ds, Vals ([] : List V) ds ∧ Binds K d_ClaimError___init__ ["self", "why"] ds := (Tx.ofD (K := K) (mg := fun _ => some (.ref (He.ma K (He.ga K "ClaimError") "__init__"))) (x := "__init__") 2 1 H_ClaimError___init__ rfl (by simp) rfl fun _ _ _ _ _ _ _ us its hl hi => match us, hl, its, hi with | [_, _], _, [_], _ => ⟨_, rfl, rfl⟩).b
  have F_BadPath___init__ : FnOk P w K mg base (L2.CX P w) 2 (He.ma K (He.ga K "BadPath") "__init__") d_BadPath___init__ ["self", "path"] (spI K ["path", "why"] 1 (flS "path" "path")) := ok_BadPath___init__ (.mkD H_BadPath___init__) (He.glo_ok X G (c.fact 52 (f := .glo "ClaimError") rfl)) (clfB_ok x13) bI ‹_› F_ClaimError___init__
  have r_BadPath : RsC P w K mg base 2 "BadPath" (He.ga K "BadPath") (He.ma K (He.ga K "BadPath") "__init__") d_BadPath___init__ ["self", "path"] [] ["path", "why"] 1 (flS "path" "path") := ⟨He.glo_ok X G (c.fact 43 (f := .glo "BadPath") rfl), ⟨oexB_ok x14, fun f hf => by
    rcases List.mem_cons.mp hf with rfl | hf
    · exact He.noat_ok (c.fact 42 (f := .noat "BadPath" "path") rfl)
    · rw [List.mem_singleton.mp hf]; exact He.noat_ok (c.fact 54 (f := .noat "BadPath" "why") rfl)⟩, (iniB_ok x15).1, (iniB_ok x15).2, F_BadPath___init__, bnN H_BadPath___init__ fun _ _ _ _ _ _ us hl => match us, hl with | [_, _], _ => rfl⟩
  have g_is_integer : FnD P w K mg base 1 (He.ga K "is_integer") d_is_integer ["value"] (K03.F_int) := ok_is_integer T (.mkD H_is_integer)
  have g_is_name : FnD P w K mg base 1 (He.ga K "is_name") d_is_name ["value"] (OA.F_name) := ok_is_name T (.mkD H_is_name)
  have g_is_tree : ∀ j, FnD P w K mg base (2 * j + 1) (He.ga K "is_tree") d_is_tree ["value", "room"] (K03.F_ist j) := by
    intro j
    induction j with
    | zero => exact FnD.no
    | succ j ih => exact ok_is_tree T (.mkD H_is_tree) t_is_integer (g_is_integer.mono (by omega)) t_is_pairs (ok_is_pairs T (.mkD H_is_pairs) t_is_name (g_is_name.mono (by omega)) t_is_tree ih)
  have g_is_tree : FnD P w K mg base 13 (He.ga K "is_tree") d_is_tree ["value", "room"] (K03.F_ist 6) := g_is_tree 6
  have g_count_of : ∀ j, FnD P w K mg base (0 + j) (He.ga K "count_of") d_count_of ["tree"] (K03.F_cnt j) := by
    intro j
    induction j with
    | zero => exact FnD.no
    | succ j ih => exact ok_count_of T (.mkD H_count_of) t_count_of ih
  have g_count_of : FnD P w K mg base 6 (He.ga K "count_of") d_count_of ["tree"] (K03.F_cnt 6) := g_count_of 6
  have g_check_tree : FnD P w K mg base 14 (He.ga K "check_tree") d_check_tree ["tree"] (K03.F_chk 6) := ok_check_tree T (.mkD H_check_tree) t_is_tree_1 (g_is_tree.mono (by decide)) t_count_of (g_count_of.mono (by decide))
  have g_check_path : FnD P w K mg base 2 (He.ga K "check_path") d_check_path ["path"] (F_cpath) := ok_check_path T (.mkD H_check_path) t_is_name (g_is_name.mono (by decide))
  have g_all_nodes : ∀ j, FnD P w K mg base (0 + j) (He.ga K "all_nodes") d_all_nodes ["tree", "path"] (F_alln j) := by
    intro j
    induction j with
    | zero => exact FnD.no
    | succ j ih => exact FnD.le (ok_all_nodes T (.mkD H_all_nodes) t_all_nodes ih) fun ds G => .inr rfl
  have g_all_nodes : FnD P w K mg base 6 (He.ga K "all_nodes") d_all_nodes ["tree", "path"] (F_alln 6) := g_all_nodes 6
  have g_fields : FnD P w K mg base 15 (He.ga K "fields") d_fields ["tree"] (F_flds) := ok_fields T (.mkD H_fields) t_check_tree (g_check_tree.mono (by decide)) e_all_nodes t_all_nodes_1 (g_all_nodes.mono (by decide))
  have g_find_node : FnD P w K mg base 1 (He.ga K "find_node") d_find_node ["tree", "path"] (F_find) := ok_find_node T (.mkD H_find_node)
  have g_node_at : FnD P w K mg base 15 (He.ga K "node_at") d_node_at ["tree", "path"] (F_nat) := ok_node_at T (.mkD H_node_at) t_check_tree (g_check_tree.mono (by decide)) t_check_path (g_check_path.mono (by decide)) t_find_node (g_find_node.mono (by decide))
  have g_cut : ∀ j, FnD P w K mg base (0 + j) (He.ga K "cut") d_cut ["tree", "path"] (F_cut j) := by
    intro j
    induction j with
    | zero => exact FnD.no
    | succ j ih => exact FnD.le (ok_cut T (.mkD H_cut) t_cut ih) fun ds G => .inr rfl
  have g_cut : FnD P w K mg base 6 (He.ga K "cut") d_cut ["tree", "path"] (F_cut 6) := g_cut 6
  have g_without_R : FnD P w K mg base 16 (He.ga K "without") d_without_R ["tree", "path"] (F_wo (He.ga K "BadPath")) := ok_without_R T (.mkD H_without_R) (by decide) r_BadPath t_node_at (g_node_at.mono (by decide)) t_cut (g_cut.mono (by decide))
  have g__law_cell_at : FnD P w K mg base 1 (He.ga K "_law_cell_at") d__law_cell_at ["_law_script", "_law_k"] (F_atD) := ok__law_cell_at T (.mkD H__law_cell_at)
  have g__law_well : FnD P w K mg base 1 (He.ga K "_law_well") d__law_well ["_law_cell"] (F_wellD) := ok__law_well T (.mkD H__law_well)
  have g__law_draw : FnD P w K mg base 1 (He.ga K "_law_draw") d__law_draw ["_law_well_here", "_law_many"] (F_drawD) := ok__law_draw T (.mkD H__law_draw)
  have g__law_one : FnD P w K mg base 2 (He.ga K "_law_one") d__law_one ["_law_well_here", "_law_some"] (F_oneD) := ok__law_one T (.mkD H__law_one) t__law_draw (g__law_draw.mono (by decide))
  have g__law_names : FnD P w K mg base 2 (He.ga K "_law_names") d__law_names ["_law_well_here", "_law_most"] (F_namesT) := FnD.le (ok__law_names T (.mkD H__law_names) t__law_draw (g__law_draw.mono (by decide))) fun ds G => .inr rfl
  have g__law_tree : ∀ j, FnD P w K mg base (2 + j) (He.ga K "_law_tree") d__law_tree ["_law_well_here", "_law_deep", "_law_most"] (F_treeT j) := by
    intro j
    induction j with
    | zero => exact FnD.no
    | succ j ih => exact ok__law_tree T (.mkD H__law_tree) t__law_draw (g__law_draw.mono (by first | omega | exact Nat.le_trans (m := 2) (by decide) (Nat.le_add_right _ _))) t__law_one (g__law_one.mono (by first | omega | exact Nat.le_trans (m := 2) (by decide) (Nat.le_add_right _ _))) t__law_names (g__law_names.mono (by first | omega | exact Nat.le_trans (m := 2) (by decide) (Nat.le_add_right _ _))) t__law_tree ih
  have g__law_tree : FnD P w K mg base 8 (He.ga K "_law_tree") d__law_tree ["_law_well_here", "_law_deep", "_law_most"] (F_treeT 6) := g__law_tree 6
  have g__law_nodes : ∀ j, FnD P w K mg base (0 + j) (He.ga K "_law_nodes") d__law_nodes ["_law_tree_here", "_law_path"] (K03.F_nd j) := by
    intro j
    induction j with
    | zero => exact FnD.no
    | succ j ih => exact ok__law_nodes T (.mkD H__law_nodes) t__law_nodes ih
  have g__law_nodes : FnD P w K mg base 6 (He.ga K "_law_nodes") d__law_nodes ["_law_tree_here", "_law_path"] (K03.F_nd 6) := g__law_nodes 6
  have g__law_classes_of : FnDH P w K mg base 1 (He.ga K "_law_classes_of") d__law_classes_of ["_law_e"] (F_cls (clA K) (kitK K)) := ok__law_classes_of T (.mkD H__law_classes_of) y_BadText y_BadStep y_BadPath y_BadOrders y_TooMany y_Refused y_BadWriter y_BadTree y_ClaimError
  have g__law_pruned : ∀ j, FnD P w K mg base (0 + j) (He.ga K "_law_pruned") d__law_pruned ["_law_tree_here", "_law_path", "_law_gone"] (F_prn j) := by
    intro j
    induction j with
    | zero => exact FnD.no
    | succ j ih => exact ok__law_pruned T (.mkD H__law_pruned) t__law_pruned ih
  have g__law_pruned : FnD P w K mg base 6 (He.ga K "_law_pruned") d__law_pruned ["_law_tree_here", "_law_path", "_law_gone"] (F_prn 6) := g__law_pruned 6
  have g__law_refused : FnD P w K mg base 17 (He.ga K "_law_refused") d__law_refused ["_law_tree_here", "_law_path"] (F_rfs (He.ga K "BadPath") (F_cls (clA K) (kitK K))) := ok__law_refused T (.mkD H__law_refused) n_BadPath_path x_BadPath cx_BadPath t_without_R (g_without_R.mono (by decide)) t__law_classes_of (g__law_classes_of.mono (by decide))
  have g_law : FnD P w K mg base 18 (He.ga K "law") d_law ["_law_script"] (F_law01 (clA K) (kitK K)) := ok_law T (.mkD H_law) t__law_cell_at (g__law_cell_at.mono (by decide)) t__law_well (g__law_well.mono (by decide)) t__law_tree (g__law_tree.mono (by decide)) t__law_draw (g__law_draw.mono (by decide)) t__law_nodes (g__law_nodes.mono (by decide)) t_fields (g_fields.mono (by decide)) t_node_at (g_node_at.mono (by decide)) t_without_R (g_without_R.mono (by decide)) t__law_pruned (g__law_pruned.mono (by decide)) t__law_one (g__law_one.mono (by decide)) t__law_refused (g__law_refused.mono (by decide))
  exact g_law
end K01
end CF
open PySem PySem.W PySem.Calls PyProof.Rows
theorem PySem.Challenge.cw_claimfield_k01_whole_trees_and_paths_holds : PySem.Challenge.rw_claimfield_k01_whole_trees_and_paths.Holds := by
  w_on; o_law
  refine HandSHeadRun.head_any (r := OpenLaw.row PySem.Challenge.rw_claimfield_k01_whole_trees_and_paths) (q := view (OpenLaw.row PySem.Challenge.rw_claimfield_k01_whole_trees_and_paths).prog [41]) (H := CF.K01.hkL) (ob := CF.K01.obL) (M := 6000) (loose := CF.K01.nmL) (d := HandSHeadRun.topDef (OpenLaw.row PySem.Challenge.rw_claimfield_k01_whole_trees_and_paths).prog 41) (kwd := []) CF.K01.obL_eq
    (by kernel_rfl) (fun s => by kernel_rfl) CF.K01.runL (by kernel_rfl) (by kernel_rfl) (by kernel_rfl) (by rfl) (by first | assumption | decide +kernel) (by decide +kernel) ⟨rfl, rfl, rfl, rfl, rfl, by decide +kernel⟩ ?hw ?hc
  case hw => w_witness2
  case hc =>
    refine CF.law_endX (l := PySem.Challenge.rw_claimfield_k01_whole_trees_and_paths) (n := 63) (k := 18) (x := "_law_script") rfl (by decide) (by kernel_rfl) ⟨rfl, by decide, by decide⟩ ?F
    intro w mg fa h Y G hmg0
    obtain ⟨K, KX, c, cx⟩ := Y
    have hmg : mg ("law" : PySem.Str) = some (.ref fa) := by
      have e : (HandSHeadRun.topDef (OpenLaw.row PySem.Challenge.rw_claimfield_k01_whole_trees_and_paths).prog 41).name = ("law" : PySem.Str) := by kernel_rfl
      rw [← e]
      exact hmg0
    obtain ⟨fd, hb, hF⟩ := CF.K01.factsL (P := (PySem.Challenge.rw_claimfield_k01_whole_trees_and_paths).prog) (w := w) KX G hmg c cx
    exact ⟨K, fd, _, KX, hb, hF, fun ns hl hb => CF.BB.m_law01 (CF.K01.kitL cx) ns hl⟩
end
