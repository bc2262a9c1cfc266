import PyProof.Rows.All
import Wide.All
import OpenK.AllK
import Wide.FinOn
import HandS.Dict
import PyProof.Rows.SetFrom
import HandS.Base
import HandS.Call
import HandS.Exc
import HandS.Comp
import HandS.Wide
import HandS.ForMost
import HandS.TupAny
import HandS.IsInst
import HandS.Conv
import KE.SortData
import HandS.ForExc
import HandS.CallSlots
import HandS.Zip
import HandS.Words
import HandS.Defaults
import HandS.Iter
import HandS.Style
import HandS.Flow
import HandS.List
import HandS.Ends
import HandS.EndBits
import HandS.RaiseMore
import HandS.More
import HandS.Strs
import HandS.Head0
import HandS.Head1
import HandS.Head2
import HandS.HeadEnd
import HandS.HeadHook1
import HandS.HeadHook2
import HandS.DictComp
import HandS.SetKeys
import KE.GoesMore
import PyProof.EnumMake
import HandS.SetFor
import PySem.Challenge.RW_claimfield_k06_whole_least_orders
set_option Elab.async false
set_option linter.all false
section
set_option maxRecDepth 100000
set_option maxHeartbeats 3200000
/-! What is shown over the heap alone: dict(..) of a tuple of pairs, set(..) of texts. -/
namespace CF
open PySem PySem.Spec PyProof.Rows L2
section
variable {prog : Program} {w : World} {A : Around} {E : Value → Shared → Prop}
theorem tup_nokeys : typeLookup (.type "tuple") "keys" = pure none := am_miss_of_fast (by first | decide +kernel | rfl)
theorem miss_tup {s : Shared} {a : Addr} {o : Obj} {xs : Array Value} {k : Nat} {Q : Option Value → Shared → Prop} (hx : s.heap.get? a = some o) (hc : o.cls = .type "tuple") (hdat : o.data = .seq xs k) (hd : o.dict = none) (hA : A.handled = none)
    (h : ∀ h' tk, (∀ b ob, s.heap.get? b = some ob → h'.get? b = some ob) → Q none { s with heap := h', toks := tk }) : wpAny (model prog w) A (getAttr? (.ref a) "keys") Q E s := by
  obtain ⟨c, dct, dat, sl⟩ := o
  simp only at hc hdat hd
  subst hc hdat hd
  obtain ⟨hp, g, d, tk, os⟩ := s
  have hT : ∀ tk', (⟨hp, g, d, tk', os⟩ : Shared).TypeIs (.ref a) "tuple" := fun _ => ⟨_, hx, rfl⟩
  have m0 := tup_nokeys
  have nm : (["__module__", "__name__", "__qualname__", "__doc__", "__annotations__"] : List Str).contains "keys" = false := by decide +kernel
  have sz : ("keys" : Str).length + 100 ≤ sizeLine := by first | size_fits | decide +kernel
  have f1 := sub_AttributeError
  have f3 := PySem.F.slot_tuple_getattribute.lookup
  have f4 := PySem.F.slot_tuple_getattribute.bind (.ref a)
  have f5 : typeLookup (.type "tuple") "__getattr__" = pure none := am_miss_of_fast (by first | decide +kernel | rfl)
  unfold getAttr? getAttrBy? getAttrBy
  repeat (any_goals (first | assumption | exact hT _ | ((with_reducible show wpAny _ _ (call (Value.builtin "tuple.__getattribute__") _ _) _ _ _); refine call_meets PySem.F.slot_tuple_getattribute (hT _) am_entry_tuple_getattribute (PySem.F.args_tuple_getattribute_2 _ _) (meets_getattribute_miss_tuple a xs k sl "keys" _ m0 nm sz) ⟨hx, hA, fun h' tk' e hx' => ?_⟩) | wp_step))
  obtain ⟨t', u', he⟩ := hx'.there
  show wpAny _ _ (getattributeRaised _ _ _ _ _ _ _) _ _ _
  unfold getattributeRaised
  repeat (any_goals (first | assumption | wp_step))
  all_goals first | exact h _ _ hx'.keeps | (dsimp only; repeat (any_goals (first | assumption | exact h _ _ hx'.keeps | wp_step)))

/-- the walk over the pairs of a tuple -/
theorem pairs_loop {R : Result → Shared → Prop} {S I l : Addr} {items : Array Value} {res : Value} (hh : A.handled = none) (lI : l ≠ I) (sI : S ≠ I) (sl : S ≠ l) :
    ∀ (todo : List (Key × Value)) (i : Nat) (got : List (Key × Value)) (ix : Int) (t : Tok) (s : Shared), items.size = i + todo.length → got.length + todo.length ≤ sizeLine →
      (∀ (j : Nat) (q : Key × Value), todo[j]? = some q → ∃ (b : Addr) (u : Value), items[i + j]? = some (.ref b) ∧ b ≠ S ∧ b ≠ I ∧ IsTup s.heap b #[u, q.2] ∧ keyIs q.1 u = true) →
      s.heap.IsTupleIter I l i → s.heap.IsTuple l items → s.heap.DictOf (mixKind prog w) S got →
      (∀ h' tk, h'.DictOf (mixKind prog w) S (merged got todo) → (∀ b o, b ≠ S → b ≠ I → s.heap.get? b = some o → h'.get? b = some o) → R (.ok (.ret res)) { s with heap := h', toks := tk }) →
      codeAny (model prog w) A (.builtin "dict.update.loop" ⟨[.ref S, .ref I, .int ix t, res], []⟩) R s
  | [], i, got, ix, t, s, sz, ln, ht, hit, hl, hm, hR => by
    refine codeAny_builtin ud_entry ?_
    rw [Around.under_plainId ud_plain _]
    show wpAny _ A.in1 (pyNext (.ref I) >>= _) _ _ s
    refine wpAny_bind (wpAny_pyNext_tuple_end (A := A.in1) hh hit hl (by first | exact Array.getElem?_eq_none (Nat.le_of_eq sz) | (simp at sz; simp; omega)) fun h' he => ?_)
    show wpAny _ A.in1 (Builtin.Dict.addKeywords S [] >>= _) _ _ _
    exact wpAny_bind (wpAny_pure (wpAny_pure (hR h' s.toks (hm.extBut he sI) fun b o _ hb e => he b o hb e)))
  | q :: todo, i, got, ix, t, s, sz, ln, ht, hit, hl, hm, hR => by
    obtain ⟨b, u, hb, bS, bI, tup, hk⟩ := ht 0 q rfl
    rw [List.length_cons] at sz ln
    refine codeAny_builtin ud_entry ?_
    rw [Around.under_plainId ud_plain _]
    show wpAny _ A.in1 (pyNext (.ref I) >>= _) _ _ s
    refine wpAny_bind (wpAny_pyNext_tuple_item (x := .ref b) hit hl (by simpa using hb) fun h1 it1 same1 => ?_)
    have tup1 : IsTup h1 b #[u, q.2] := tup.extBut same1.extBut bI
    have l1 : h1.IsTuple l items := hl.extBut same1.extBut lI
    have m1 : h1.DictOf (mixKind prog w) S got := hm.extBut same1.extBut sI
    obtain ⟨o, ho, hc, n, hd⟩ := id tup1
    show wpAny _ A.in1 (holding [Value.ref b] _ >>= _) _ _ _
    refine wpAny_bind (wpAny_holding (wpAny_bind (wpAny_tryCatch ?_)))
    unfold Builtin.Dict.pairItems
    refine wpAny_bind (wpAny_typeOf (T := "tuple") ⟨o, ho, hc⟩ ?_)
    rw [if_pos (by first | decide | rfl | simp)]
    refine wpAny_bind (wpAny_seqItems ho hd (wpAny_pure ?_))
    show wpAny _ A.in1 (holding [u, q.2] (dictSet S u q.2)) _ _ _
    refine wpAny_holding (wpAny_dictSet_pairs (knd := mixKind prog w) (k := q.1) hk m1 (fun h2 m2 same2 => ?_) (by omega))
    refine wpAny_pure ⟨plainId_quiet ud_plain _, pairs_loop (items := items) hh lI sI sl todo (i + 1) (stored got q.1 q.2) (ix + 1) 0 _ (show items.size = i + 1 + todo.length by omega) ?_ (fun j q' e => ?_) ?_ ?_ m2 fun h' tk hd' k => ?_⟩
    · have z := stored_length_le got q.1 q.2
      omega
    · obtain ⟨b', u', x1, x2, x3, x4, x5⟩ := ht (j + 1) q' (by simpa using e)
      exact ⟨b', u', by rw [show i + 1 + j = i + (j + 1) by omega]; exact x1, x2, x3, (x4.extBut same1.extBut x3).extBut same2.extBut x2, x5⟩
    · exact it1.extBut same2.extBut (Ne.symm sI)
    · exact l1.extBut same2.extBut (Ne.symm sl)
    · exact hR h' tk hd' fun c oc h3 h4 e => k c oc h3 h4 (same2.extBut c oc h3 (same1.extBut c oc h4 e))
/-- dict(t) of a tuple of pairs -/
theorem dict_of_tup {s : Shared} {l : Addr} {ol : Obj} {items : Array Value} {n : Nat} {prs : List (Key × Value)} {Q : Value → Shared → Prop} (hh : A.handled = none) (hl : s.heap.get? l = some ol) (hc : ol.cls = .type "tuple") (hd : ol.dict = none)
    (hdat : ol.data = .seq items n) (hsz : items.size = prs.length) (hln : prs.length ≤ sizeLine)
    (ht : ∀ (j : Nat) (q : Key × Value), prs[j]? = some q → ∃ (b : Addr) (u : Value), items[j]? = some (.ref b) ∧ IsTup s.heap b #[u, q.2] ∧ keyIs q.1 u = true)
    (h : ∀ h' tk, h'.DictOf (mixKind prog w) s.heap.objs.size (merged [] prs) → (∀ b o, s.heap.get? b = some o → h'.get? b = some o) → Q (.ref s.heap.objs.size) { s with heap := h', toks := tk }) :
    wpAny (model prog w) A (call (.type "dict") [.ref l]) Q E s := by
  refine callType_codes (Q₁ := fun obj s₁ => obj = .ref s.heap.objs.size ∧ s₁ = { s with heap := s.heap.push { cls := .type "dict", data := .dict #[] } }) PySem.F.kt_called_dict (PySem.F.kt_typeCall_dict_1 _) PySem.F.entry_dict_init (kt_code_dict_new _ ⟨rfl, rfl⟩) ?_
  rintro obj s₁ ⟨rfl, rfl⟩
  have new0 : (s.heap.push { cls := .type "dict", data := .dict #[] }).DictOf (mixKind prog w) s.heap.objs.size [] := Heap.DictOf.new s.heap
  have k0 : ∀ b o, s.heap.get? b = some o → (s.heap.push { cls := .type "dict", data := .dict #[] }).get? b = some o := fun b o e => Heap.get?_push_of_some _ e
  refine ⟨new0.typeIs, PySem.F.args_dict_init_2 _ _, ?_⟩
  unfold Builtin.«dict.__init__»
  refine wpAny_bind ?_
  unfold Builtin.Dict.selfAndRest
  refine wpAny_bind (wpAny_notOrdered_dict new0.typeIs ?_)
  show wpAny _ _ (pure (s.heap.objs.size, [Value.ref l])) _ _ _
  refine wpAny_pure ?_
  show wpAny _ _ (Builtin.Dict.updateFrom "dict.__init__" s.heap.objs.size (.ref l) [] .none) _ _ _
  unfold Builtin.Dict.updateFrom
  refine wpAny_bind (wpAny_typeOf (T := "tuple") ⟨ol, k0 _ _ hl, hc⟩ ?_)
  rw [if_pos (by first | decide | rfl | simp)]
  refine wpAny_bind (miss_tup (k0 _ _ hl) hc hdat hd hh fun h1 tk1 hk1 => ?_)
  rw [if_pos (show (none : Option Value).isNone = true from rfl)]
  refine wpAny_bind (wpAny_rule ?_)
  have l1 : h1.IsTuple l items := ⟨ol, hk1 _ _ (k0 _ _ hl), hc, n, hdat⟩
  have S1 : s.heap.objs.size < h1.objs.size := Heap.lt_size (hk1 _ _ (Heap.get?_push_size s.heap (o := { cls := .type "dict", data := .dict #[] }) rfl))
  refine wpAny_bind (wpAny_pyIter_tuple l1 ?_)
  have k2 : ∀ b o, h1.get? b = some o → (h1.push { cls := .type "tuple_iterator", data := .fields #[.ref l, .int 0 0] }).get? b = some o := fun b o e => Heap.get?_push_of_some _ e
  have lt : l < s.heap.objs.size := Heap.lt_size hl
  have key := pairs_loop (prog := prog) (w := w) (A := A.in1) (R := wants (fun r s₂ => r = .none ∧ Q (.ref s.heap.objs.size) s₂) E) (S := s.heap.objs.size) (I := h1.objs.size) (l := l) (items := items) (res := Value.none) hh
    (Nat.ne_of_lt (Nat.lt_trans lt S1)) (Nat.ne_of_lt S1) (Nat.ne_of_gt lt) prs 0 [] 0 0
    { s with heap := h1.push { cls := .type "tuple_iterator", data := .fields #[.ref l, .int 0 0] }, toks := tk1 } (by rw [hsz, Nat.zero_add]) (by rw [List.length_nil, Nat.zero_add]; exact hln)
    (fun j q e => by
      obtain ⟨b, u, e1, e2, e3⟩ := ht j q e
      have hb : b < s.heap.objs.size := e2.lt
      exact ⟨b, u, by rw [Nat.zero_add]; exact e1, Nat.ne_of_lt hb, Nat.ne_of_lt (Nat.lt_trans hb S1), e2.keeps fun c o z => k2 _ _ (hk1 _ _ (k0 _ _ z)), e3⟩)
    ⟨_, Heap.get?_push_size _ rfl, rfl, rfl⟩ ⟨ol, k2 _ _ (hk1 _ _ (k0 _ _ hl)), hc, n, hdat⟩ ((new0.at fun o e => hk1 _ _ e).at fun o e => k2 _ _ e)
    (fun h' tk hd' k => ⟨rfl, h h' tk hd' fun b o e => k b o (Nat.ne_of_lt (Heap.lt_size e)) (Nat.ne_of_lt (Nat.lt_trans (Heap.lt_size e) S1)) (k2 _ _ (hk1 _ _ (k0 _ _ e)))⟩)
  first
    | exact wpAny_pure ⟨plainId_quiet ud_plain _, key⟩
    | exact wpAny_bind (wpAny_pure (wpAny_pure ⟨plainId_quiet ud_plain _, key⟩))
end
end CF
namespace CF
open PySem PySem.Spec PyProof.Rows
/-- the texts without doubles, as they are met -/
def met (xs : List Str) : List Str := xs.foldl step_dedup []
theorem met_snoc (xs : List Str) (x : Str) : met (xs ++ [x]) = step_dedup (met xs) x := by unfold met; rw [List.foldl_append]; rfl
theorem dedup_len (σ : List Str) (v : Str) : (step_dedup σ v).length = if σ.any (· == v) then σ.length else σ.length + 1 := by
  unfold step_dedup; split <;> simp
theorem dedup_any (σ : List Str) (v k : Str) : (step_dedup σ v).any (· == k) = (σ.any (· == k) || decide (k = v)) := by
  unfold step_dedup
  by_cases h : σ.any (· == v) = true
  · rw [if_pos h]
    by_cases e : k = v
    · subst e; rw [h]; simp
    · simp [e]
  · rw [if_neg h, List.any_append]
    by_cases e : k = v
    · subst e; simp
    · have hb : (v == k) = false := by
        cases z : v == k with
        | false => rfl
        | true => exact absurd (eq_of_beq z).symm e
      simp [hb, e]
theorem met_le (xs : List Str) (i : Nat) : (met (xs.take i)).length ≤ i := by
  induction i with
  | zero => simp [met]
  | succ i ih =>
    by_cases h : i < xs.length
    · rw [List.take_add_one, List.getElem?_eq_getElem h]
      show (met (xs.take i ++ [xs[i]])).length ≤ _
      rw [met_snoc, dedup_len]
      split <;> omega
    · rw [List.take_of_length_le (by omega)]
      rw [List.take_of_length_le (by omega)] at ih
      omega
section
variable {prog : Program} {w : World} {A : Around} {R : Result → Shared → Prop} {I : Addr} {fp wr : List Addr} {G : Array GenState → Array GenState → Prop} {n : Nat} {P : Nat → Value → Prop} {St : Nat → Shared → Prop}
theorem set_loop_strs (W : WalksS prog w A.in1 I fp wr G n P St) (S : Addr) (hSf : S ∉ fp) (xs : List Str) (hx : xs.length = n) (hval : ∀ i v, P i v → ∃ x t, xs[i]? = some x ∧ v = .str x t) (hb : n + 1 < scanBound) :
    ∀ (k i : Nat) (s : Shared), n - i = k → i ≤ n → St i s → s.heap.SetOf (strKind prog w) S (fun k' => (met (xs.take i)).any (· == k')) (met (xs.take i)).length →
      (∀ s', Moved (S :: wr) G s s' → s'.heap.SetOf (strKind prog w) S (fun k' => (met xs).any (· == k')) (met xs).length → R (.ok (.ret .none)) s') →
      codeAny (model prog w) A (.builtin "set.update.loop" ⟨[.ref S, .ref I], []⟩) R s := by
  have hSw : S ∉ wr := fun h => hSf (W.sub _ h)
  have more : ∀ b ∈ wr, b ∈ S :: wr := fun b hb => List.mem_cons_of_mem _ hb
  intro k
  induction k with
  | zero =>
    intro i s hk hi hst hS hR
    obtain rfl : i = n := by omega
    refine codeAny_builtin F.entry_set_update_loop ?_
    rw [Around.under_plainId F.plain_set_update_loop _]
    show wpAny _ A.in1 (pyNext (.ref I) >>= _) _ _ s
    refine wpAny_bind (W.done s _ _ hst fun s' hm => ?_)
    show wpAny _ A.in1 (ret Value.none) _ _ s'
    refine wpAny_pure (hR s' (hm.mono more) ?_)
    rw [List.take_of_length_le (by omega)] at hS
    obtain ⟨o, es, ep, t, ho, rest⟩ := hS
    exact ⟨o, es, ep, t, hm.heap S _ hSw ho, rest⟩
  | succ k ih =>
    intro i s hk hi hst hS hR
    have lt : i < n := by omega
    refine codeAny_builtin F.entry_set_update_loop ?_
    rw [Around.under_plainId F.plain_set_update_loop _]
    show wpAny _ A.in1 (pyNext (.ref I) >>= _) _ _ s
    refine wpAny_bind (W.item i s _ _ lt hst fun v s' hP hst' hm => ?_)
    obtain ⟨x, t, ex, rfl⟩ := hval i v hP
    have hS' : s'.heap.SetOf (strKind prog w) S (fun k' => (met (xs.take i)).any (· == k')) (met (xs.take i)).length := by
      obtain ⟨o, es, ep, tb, ho, rest⟩ := hS
      exact ⟨o, es, ep, tb, hm.heap S _ hSw ho, rest⟩
    show wpAny _ A.in1 (holding [Value.str x t] (setAdd S (.str x t)) >>= _) _ _ s'
    refine wpAny_bind (wpAny_holding ?_)
    unfold setAdd
    refine wpAny_holding (wpAny_bind ((strKind prog w).pyHash (k := x) (strKind_is _ _ _ _) ?_))
    have room : (met (xs.take i)).length + 1 < scanBound := by have := met_le xs i; omega
    refine wpAny_setAddHashed_of (knd := strKind prog w) (s := { s' with toks := s'.toks + 1 }) (strKind_is _ _ _ _) rfl hS' room fun h' same hS2 => ?_
    have tk : met (xs.take (i + 1)) = step_dedup (met (xs.take i)) x := by
      rw [List.take_add_one, ex]
      exact met_snoc _ _
    have hSi : h'.SetOf (strKind prog w) S (fun k' => (met (xs.take (i + 1))).any (· == k')) (met (xs.take (i + 1))).length :=
      SetOf_congr hS2 (fun k' => by rw [tk, dedup_any]) (by rw [tk, dedup_len])
    refine wpAny_pure ⟨plainId_quiet F.plain_set_update_loop _, ih (i + 1) _ (by omega) lt (W.frame _ s' _ _ hst' (Nat.le_succ _) fun b hb o e => ?_) hSi fun s'' hm'' hS'' => ?_⟩
    · rw [same.2 b (fun h : b = S => hSf (by rw [← h]; exact hb))]; exact e
    · refine hR s'' (Moved.trans W.gtrans ((hm.mono more).then_heap (Nat.le_succ _) fun b o hb e => ?_) hm'') hS''
      rw [same.2 b (fun h : b = S => hb (by rw [h]; exact List.mem_cons_self))]; exact e
end
section
variable {prog : Program} {w : World} {A : Around} {E : Value → Shared → Prop} {s : Shared}
theorem strs_get : ∀ {vs : List Value} {xs : List Str}, StrsAre vs xs → ∀ (i : Nat) (v : Value), vs[i]? = some v → ∃ x t, xs[i]? = some x ∧ v = .str x t
  | _, _, .nil, i, v, h => by simp at h
  | _, _, .cons x t r, 0, v, h => by simp at h; exact ⟨x, t, rfl, h.symm⟩
  | _, _, .cons x t r, i + 1, v, h => by simpa using strs_get r i v (by simpa using h)
theorem strs_len : ∀ {vs : List Value} {xs : List Str}, StrsAre vs xs → vs.length = xs.length
  | _, _, .nil => rfl
  | _, _, .cons _ _ r => congrArg (· + 1) (strs_len r)
theorem set_of_strs {l : Addr} {items : Array Value} {xs : List Str} {Q : Value → Shared → Prop} (hh : A.handled = none) (hl : s.heap.IsList l items) (hi : StrsAre items.toList xs) (hb : items.size + 1 < scanBound)
    (h : ∀ (h' : Heap) (tk : Nat), h'.SetOf (strKind prog w) s.heap.objs.size (fun k' => (met xs).any (· == k')) (met xs).length → (∀ b o, b < s.heap.objs.size → s.heap.get? b = some o → h'.get? b = some o) → Q (.ref s.heap.objs.size) { s with heap := h', toks := tk }) :
    wpAny (model prog w) A (call (.type "set") [.ref l]) Q E s := by
  obtain ⟨c, tl, hmro⟩ := F.called_set.mro
  have hmade := F.called_set.made
  have hsub := F.called_set.sub
  refine wpAny_call (codeAny_of_tree ?_)
  show wpAny _ _ (callAny (.type "set") _) _ _ _
  refine wpAny_pure ⟨Code.quiet_builtin _ (by decide +kernel), codeAny_builtin F.entry_type_call ?_⟩
  rw [Around.under_plain (weight_type_call_type "set" [.ref l] []) rfl]
  have h1 := F.called_set.notType
  have h2 := F.called_set.canCreate
  have hct := F.typeCall_set_1 (.ref l)
  repeat (any_goals (first | assumption | wp_step))
  refine codeAny_mono (code_set_new_1 (.ref l) (E := E) (Q₁ := fun obj s₁ => ∃ led : Bool, obj = .ref s.heap.objs.size ∧ s₁ = { s with heap := s.heap.push { cls := .type "set", dict := none, data := .set #[] 0 (.fresh 0 0 led) } }) fun led => ⟨led, rfl, rfl⟩) fun r s₁ hr => ?_
  match r, hr with
  | .error e, hr => exact hr
  | .ok .next, hr => exact hr.elim
  | .ok .brk, hr => exact hr.elim
  | .ok .cont, hr => exact hr.elim
  | .ok (.ret obj), hr =>
    obtain ⟨led, rfl, rfl⟩ := hr
    have hS : (s.heap.push { cls := .type "set", dict := none, data := .set #[] 0 (.fresh 0 0 led) }).get? s.heap.objs.size = some { cls := .type "set", dict := none, data := .set #[] 0 (.fresh 0 0 led) } := Heap.get?_push_size _ rfl
    have hT : Shared.TypeIs { s with heap := s.heap.push { cls := .type "set", dict := none, data := .set #[] 0 (.fresh 0 0 led) } } (.ref s.heap.objs.size) "set" := ⟨_, hS, rfl⟩
    have hli := F.called_set.init.lookup
    have hbi := F.called_set.init.bind (.ref s.heap.objs.size)
    repeat (any_goals (first | assumption | wp_step))
    refine codeAny_mono (codeAny_call_builtin (R := wants (fun r s₂ => r = .none ∧ ∃ h' tk, s₂ = { s with heap := h', toks := tk } ∧
        h'.SetOf (strKind prog w) s.heap.objs.size (fun k' => (met xs).any (· == k')) (met xs).length ∧ (∀ b o, b < s.heap.objs.size → s.heap.get? b = some o → h'.get? b = some o)) E) F.called_set.init.plain F.entry_set_init (check_set_init_1 hT ?_)) fun r₂ s₂ hr₂ => ?_
    · obtain ⟨ol, hol, hcl, nl, hdl⟩ := hl
      obtain ⟨ocls, odict, odata, oslots⟩ := ol
      simp only at hcl hdl
      subst hcl; subst hdl
      have hol' : (s.heap.push { cls := .type "set", dict := none, data := .set #[] 0 (.fresh 0 0 led) }).get? l = some { cls := .type "list", dict := odict, data := .seq items nl, slots := oslots } := Heap.get?_push_of_some _ hol
      have hsls := F.sub_list_set
      have hslf := F.sub_list_frozenset
      have hne : (Value.type "list" == Value.type "dict") = false := by decide
      have hl1 : (s.heap.push { cls := .type "set", dict := none, data := .set #[] 0 (.fresh 0 0 led) }).IsList l items := ⟨_, hol', rfl, nl, rfl⟩
      unfold Builtin.«set.__init__» noKeywords Builtin.Frozenset.updateFrom
      generalize hPI : pyIter = PI
      wp_walk
      subst hPI
      refine wpAny_pyIter_list hl1 (wpAny_bind (wpAny_runValue ?_))
      have hlS : l < s.heap.objs.size := Heap.lt_size hol
      have hh3 : A.in1.in1.in1.handled = none := by simp [hh]
      have hneI : l ≠ (s.heap.push { cls := .type "set", dict := none, data := .set #[] 0 (.fresh 0 0 led) }).objs.size := by
        rw [Heap.size_push]; exact Nat.ne_of_lt (Nat.lt_succ_of_lt hlS)
      have hSf : s.heap.objs.size ∉ [(s.heap.push { cls := .type "set", dict := none, data := .set #[] 0 (.fresh 0 0 led) }).objs.size, l] := by
        rw [Heap.size_push]; simp only [List.mem_cons, List.mem_singleton, List.not_mem_nil, or_false, not_or]
        exact ⟨Nat.ne_of_lt (Nat.lt_succ_self _), Nat.ne_of_gt hlS⟩
      refine set_loop_strs ((Walks.list hh3 _ l hneI items).toS) s.heap.objs.size hSf xs (by rw [← strs_len hi, Array.length_toList]) (fun i v hv => strs_get hi i v (by rw [Array.getElem?_toList]; exact hv)) hb (items.size - 0) 0 _ (by omega) (Nat.zero_le _)
        ⟨⟨_, Heap.get?_push_size _ rfl, rfl, rfl⟩, (hl1.push _)⟩ ?hS0 ?hR
      case hS0 =>
        have hget : ((s.heap.push { cls := .type "set", dict := none, data := .set #[] 0 (.fresh 0 0 led) }).push { cls := .type "list_iterator", data := .fields #[.ref l, .int 0 0] }).get? s.heap.objs.size
            = some { cls := .type "set", dict := none, data := .set #[] 0 (.fresh 0 0 led) } := Heap.get?_push_of_some _ hS
        exact SetOf_congr ((setObjOf_fresh (knd := strKind prog w) led).setOf hget (by unfold scanBound; omega)) (fun _ => rfl) rfl
      case hR =>
        intro s' hm hS'
        obtain ⟨h', g', d', tk', os'⟩ := s'
        obtain rfl : g' = s.gens := hm.gens
        obtain rfl : d' = s.drawn := hm.drawn
        obtain rfl : os' = s.os := hm.os
        show wpAny _ _ _ _ _ _
        refine wpAny_pure ?_
        show wpAny _ _ (ret Value.none) _ _ _
        refine wpAny_pure ⟨rfl, h', tk', rfl, hS', fun b o hb e => hm.heap b o ?_ (Heap.get?_push_of_some _ (Heap.get?_push_of_some _ e))⟩
        simp only [List.mem_cons, List.mem_singleton, List.not_mem_nil, or_false, not_or]
        exact ⟨Nat.ne_of_lt hb, by rw [Heap.size_push]; exact Nat.ne_of_lt (Nat.lt_succ_of_lt hb)⟩
    · match r₂, hr₂ with
      | .error e, z => exact z
      | .ok .next, z => exact z.elim
      | .ok .brk, z => exact z.elim
      | .ok .cont, z => exact z.elim
      | .ok (.ret r), z =>
        obtain ⟨rfl, h', tk, rfl, hS', hk'⟩ := z
        repeat (any_goals (first | assumption | wp_step))
        exact h _ _ hS' hk'
end
end CF
end
section
set_option maxRecDepth 100000
set_option maxHeartbeats 1000000
/-! The data level: values with their insides, mutable cells by number. Everything here is ours. -/
namespace CF
open PySem PySem.Spec PyProof.Rows L2
abbrev St := L2.St

/-- a value with what is in it; ref: a cell that may change -/
inductive D where
  | non | bl (b : Bool) | int (i : Int) | str (x : Str)
  | tup (xs : List D) | pt (xs : List D) | lst (xs : List D) | dK (kvs : List (Key × D)) | dT (kvs : List (List Key × D))
  | ins (C : Addr) (fs : List (Str × D)) | scr (xs : List D) | ref (n : Nat)
/-- a cell -/
inductive Cell where
  | lst (xs : List D) | dK (kvs : List (Key × D)) | dT (kvs : List (List Key × D)) | ins (C : Addr) (fs : List (Str × D))
abbrev GH := List Cell
abbrev DEnv := List (Option D)
/-- an exception: its class, its fields -/
structure Ex where
  cls : Addr
  fs : List (Str × D)
inductive R (α : Type) where
  | ok (a : α) (G : GH) | ex (x : Ex) (G : GH) | no
def R.bind {α β : Type} (r : R α) (k : α → GH → R β) : R β := match r with
  | .ok a G => k a G
  | .ex x G => .ex x G
  | .no => .no
@[simp] theorem R.bind_ok {α β : Type} (a : α) (G : GH) (k : α → GH → R β) : (R.ok a G).bind k = k a G := rfl
@[simp] theorem R.bind_ex {α β : Type} (x : Ex) (G : GH) (k : α → GH → R β) : (R.ex x G : R α).bind k = .ex x G := rfl
@[simp] theorem R.bind_no {α β : Type} (k : α → GH → R β) : (R.no : R α).bind k = .no := rfl

def TupAt (K : PySem.W.Frag) (Z : Hp) (p : Addr) (vs : List V) : Prop :=
  Z p = some (.tup vs) ∨ ∃ (o : Obj) (its : Array Value) (n : Nat), K.lookup p = some o ∧ o.cls = .type "tuple" ∧ o.data = .seq its n ∧ its.size ≤ sizeLine ∧ Vals vs its.toList
/-- where the script stands -/
def ScrAt (K : PySem.W.Frag) (Z : Hp) (p : Addr) (vs : List V) : Prop :=
  (∃ o, Z p = some (.frz o (.lst vs))) ∨ ∃ (o : Obj) (its : Array Value) (n : Nat), K.lookup p = some o ∧ o.cls = .type "list" ∧ o.dict = none ∧ o.data = .seq its n ∧ its.size ≤ sizeLine ∧ Vals vs its.toList
mutual
inductive Rep (K : PySem.W.Frag) (Z : Hp) (r : List Addr) : D → V → Prop
  | non : Rep K Z r .non .non
  | bl (b) : Rep K Z r (.bl b) (.bl b)
  | int (i) : Rep K Z r (.int i) (.int i)
  | str (x) : Rep K Z r (.str x) (.str x)
  | tup {p vs ds} : TupAt K Z p vs → Reps K Z r ds vs → Rep K Z r (.tup ds) (.ref p)
  | pt {p o vs ds} : Z p = some (.frz o (.tup vs)) → o.dict = none → Reps K Z r ds vs → Rep K Z r (.pt ds) (.ref p)
  | lst {p vs ds} : Z p = some (.lst vs) → Reps K Z r ds vs → Rep K Z r (.lst ds) (.ref p)
  | dK {p kvs kds} : Z p = some (.dK kvs) → kds.map (·.1) = kvs.map (·.1) → Reps K Z r (kds.map (·.2)) (kvs.map (·.2)) → Rep K Z r (.dK kds) (.ref p)
  | dT {p kvs kds} : Z p = some (.dT kvs) → kds.map (·.1) = kvs.map (·.1) → Reps K Z r (kds.map (·.2)) (kvs.map (·.2)) → Rep K Z r (.dT kds) (.ref p)
  | ins {p C dx fs fds} : Z p = some (.ins C dx fs) → fds.map (·.1) = fs.map (·.1) → Reps K Z r (fds.map (·.2)) (fs.map (·.2)) → Rep K Z r (.ins C fds) (.ref p)
  | scr {p vs ds} : ScrAt K Z p vs → Reps K Z r ds vs → Rep K Z r (.scr ds) (.ref p)
  | ref {n a} : r[n]? = some a → Rep K Z r (.ref n) (.ref a)
inductive Reps (K : PySem.W.Frag) (Z : Hp) (r : List Addr) : List D → List V → Prop
  | nil : Reps K Z r [] []
  | cons {d v ds vs} : Rep K Z r d v → Reps K Z r ds vs → Reps K Z r (d :: ds) (v :: vs)
end

/-- where the frozen things stand, and the cells -/
structure Lk where
  Z : Hp
  r : List Addr
  /-- what stands besides and is never touched -/
  F : Hp
structure Lk.le (a b : Lk) : Prop where
  z : ∀ p o, a.Z p = some o → b.Z p = some o
  r : ∀ (n : Nat) (x : Addr), a.r[n]? = some x → b.r[n]? = some x
  f : b.F = a.F
theorem Lk.le.refl (a : Lk) : a.le a := ⟨fun _ _ h => h, fun _ _ h => h, rfl⟩
theorem Lk.le.trans {a b c : Lk} (h : a.le b) (k : b.le c) : a.le c := ⟨fun p o e => k.z p o (h.z p o e), fun n x e => k.r n x (h.r n x e), k.f.trans h.f⟩
theorem ScrAt.mono {K : PySem.W.Frag} {a b : Hp} (h : ∀ p o, a p = some o → b p = some o) {p : Addr} {vs : List V} (t : ScrAt K a p vs) : ScrAt K b p vs := t.elim (fun ⟨o, e⟩ => .inl ⟨o, h _ _ e⟩) .inr
theorem TupAt.mono {K : PySem.W.Frag} {a b : Hp} (h : ∀ p o, a p = some o → b p = some o) {p : Addr} {vs : List V} (t : TupAt K a p vs) : TupAt K b p vs := t.elim (fun e => .inl (h _ _ e)) .inr
mutual
theorem Rep.mono {K : PySem.W.Frag} {a b : Lk} (h : a.le b) : ∀ {d : D} {v : V}, Rep K a.Z a.r d v → Rep K b.Z b.r d v
  | _, _, .non => .non
  | _, _, .bl _ => .bl _
  | _, _, .int _ => .int _
  | _, _, .str _ => .str _
  | _, _, .tup e t => .tup (e.mono h.z) (Reps.mono h t)
  | _, _, .pt e k t => .pt (h.z _ _ e) k (Reps.mono h t)
  | _, _, .lst e t => .lst (h.z _ _ e) (Reps.mono h t)
  | _, _, .dK e k t => .dK (h.z _ _ e) k (Reps.mono h t)
  | _, _, .dT e k t => .dT (h.z _ _ e) k (Reps.mono h t)
  | _, _, .ins e k t => .ins (h.z _ _ e) k (Reps.mono h t)
  | _, _, .scr e t => .scr (e.mono h.z) (Reps.mono h t)
  | _, _, .ref e => .ref (h.r _ _ e)
theorem Reps.mono {K : PySem.W.Frag} {a b : Lk} (h : a.le b) : ∀ {ds : List D} {vs : List V}, Reps K a.Z a.r ds vs → Reps K b.Z b.r ds vs
  | _, _, .nil => .nil
  | _, _, .cons x t => .cons (Rep.mono h x) (Reps.mono h t)
end
theorem Reps.length {K : PySem.W.Frag} {Z : Hp} {r : List Addr} : ∀ {ds : List D} {vs : List V}, Reps K Z r ds vs → ds.length = vs.length
  | _, _, .nil => rfl
  | _, _, .cons _ t => congrArg (· + 1) (Reps.length t)
theorem Reps.get {K : PySem.W.Frag} {Z : Hp} {r : List Addr} : ∀ {ds : List D} {vs : List V} {i : Nat} {d : D}, Reps K Z r ds vs → ds[i]? = some d → ∃ v, vs[i]? = some v ∧ Rep K Z r d v
  | _, _, _, _, .nil, e => by simp at e
  | _, _, 0, _, .cons x t, e => by simp at e; subst e; exact ⟨_, rfl, x⟩
  | _, _, i + 1, d, .cons x t, e => by
    obtain ⟨v, e1, e2⟩ := Reps.get (i := i) (d := d) t (by simpa using e)
    exact ⟨v, by simpa using e1, e2⟩
theorem Reps.getV {K : PySem.W.Frag} {Z : Hp} {r : List Addr} : ∀ {ds : List D} {vs : List V} {i : Nat} {v : V}, Reps K Z r ds vs → vs[i]? = some v → ∃ d, ds[i]? = some d ∧ Rep K Z r d v
  | _, _, _, _, .nil, e => by simp at e
  | _, _, 0, _, .cons x t, e => by simp at e; subst e; exact ⟨_, rfl, x⟩
  | _, _, i + 1, d, .cons x t, e => by
    obtain ⟨v, e1, e2⟩ := Reps.getV (i := i) (v := d) t (by simpa using e)
    exact ⟨v, by simpa using e1, e2⟩
theorem Reps.append {K : PySem.W.Frag} {Z : Hp} {r : List Addr} : ∀ {ds es : List D} {vs us : List V}, Reps K Z r ds vs → Reps K Z r es us → Reps K Z r (ds ++ es) (vs ++ us)
  | _, _, _, _, .nil, s => s
  | _, _, _, _, .cons x t, s => .cons x (Reps.append t s)
theorem Reps.take {K : PySem.W.Frag} {Z : Hp} {r : List Addr} : ∀ (n : Nat) {ds : List D} {vs : List V}, Reps K Z r ds vs → Reps K Z r (ds.take n) (vs.take n)
  | 0, _, _, _ => by simp only [List.take_zero]; exact .nil
  | _ + 1, _, _, .nil => .nil
  | n + 1, _, _, .cons x t => .cons x (Reps.take n t)
theorem Reps.drop {K : PySem.W.Frag} {Z : Hp} {r : List Addr} : ∀ (n : Nat) {ds : List D} {vs : List V}, Reps K Z r ds vs → Reps K Z r (ds.drop n) (vs.drop n)
  | 0, _, _, h => h
  | _ + 1, _, _, .nil => .nil
  | n + 1, _, _, .cons _ t => Reps.drop n t
theorem Reps.set {K : PySem.W.Frag} {Z : Hp} {r : List Addr} {d : D} {v : V} (x : Rep K Z r d v) : ∀ (i : Nat) {ds : List D} {vs : List V}, Reps K Z r ds vs → Reps K Z r (ds.set i d) (vs.set i v)
  | _, _, _, .nil => .nil
  | 0, _, _, .cons _ t => .cons x t
  | i + 1, _, _, .cons y t => .cons y (Reps.set x i t)
theorem Reps.eraseIdx {K : PySem.W.Frag} {Z : Hp} {r : List Addr} : ∀ (i : Nat) {ds : List D} {vs : List V}, Reps K Z r ds vs → Reps K Z r (ds.eraseIdx i) (vs.eraseIdx i)
  | _, _, _, .nil => .nil
  | 0, _, _, .cons _ t => t
  | i + 1, _, _, .cons y t => .cons y (Reps.eraseIdx i t)
theorem Reps.reverse {K : PySem.W.Frag} {Z : Hp} {r : List Addr} : ∀ {ds : List D} {vs : List V}, Reps K Z r ds vs → Reps K Z r ds.reverse vs.reverse
  | _, _, .nil => .nil
  | _, _, .cons x t => by rw [List.reverse_cons, List.reverse_cons]; exact (Reps.reverse t).append (.cons x .nil)

/-- a frozen thing as it stands in the heap: dicts may be locked -/
def ZH (H : Hp) (p : Addr) (o : HO) : Prop := H p = some o ∨ (((∃ k, o = .dK k) ∨ ∃ k, o = .dT k) ∧ ∃ ob, H p = some (.frz ob o))
theorem ZH.rd {H : Hp} {p : Addr} {o : HO} (h : ZH H p o) : Rd H p o := h.elim .inl fun ⟨_, ob, e⟩ => .inr ⟨ob, e⟩
theorem ZH.some {H : Hp} {p : Addr} {o : HO} (h : ZH H p o) : ∃ u, H p = .some u := h.elim (fun e => ⟨_, e⟩) fun ⟨_, _, e⟩ => ⟨_, e⟩
theorem ZH.lst {H : Hp} {p : Addr} {xs : List V} (h : ZH H p (.lst xs)) : H p = .some (.lst xs) := h.elim id fun ⟨k, _⟩ => by
  rcases k with ⟨_, e⟩ | ⟨_, e⟩ <;> cases e
theorem ZH.tup {H : Hp} {p : Addr} {xs : List V} (h : ZH H p (.tup xs)) : H p = .some (.tup xs) := h.elim id fun ⟨k, _⟩ => by
  rcases k with ⟨_, e⟩ | ⟨_, e⟩ <;> cases e
theorem ZH.frz {H : Hp} {p : Addr} {o : Obj} {u : HO} (h : ZH H p (.frz o u)) : H p = .some (.frz o u) := h.elim id fun ⟨k, _⟩ => by
  rcases k with ⟨_, e⟩ | ⟨_, e⟩ <;> cases e
theorem ZH.ins {H : Hp} {p : Addr} {C dx : Addr} {fs : List (Str × V)} (h : ZH H p (.ins C dx fs)) : H p = .some (.ins C dx fs) := h.elim id fun ⟨k, _⟩ => by
  rcases k with ⟨_, e⟩ | ⟨_, e⟩ <;> cases e
theorem ZH.xd {H : Hp} {p : Addr} {fs : List (Str × V)} (h : ZH H p (.xd fs)) : H p = .some (.xd fs) := h.elim id fun ⟨k, _⟩ => by
  rcases k with ⟨_, e⟩ | ⟨_, e⟩ <;> cases e
theorem ZH.upd {H : Hp} {p q : Addr} {o u : HO} (h : ZH H p o) (n : p ≠ q) : ZH (L2.upd H q u) p o := by
  rcases h with e | ⟨k, ob, e⟩
  · exact .inl (by rw [upd_ne n]; exact e)
  · exact .inr ⟨k, ob, by rw [upd_ne n]; exact e⟩

inductive CellAt (K : PySem.W.Frag) (L : Lk) (H : Hp) : Cell → Addr → Prop
  | lst {a vs ds} : H a = some (.lst vs) → Reps K L.Z L.r ds vs → CellAt K L H (.lst ds) a
  | dK {a kvs kds} : H a = some (.dK kvs) → kds.map (·.1) = kvs.map (·.1) → Reps K L.Z L.r (kds.map (·.2)) (kvs.map (·.2)) → CellAt K L H (.dK kds) a
  | dT {a kvs kds} : H a = some (.dT kvs) → kds.map (·.1) = kvs.map (·.1) → Reps K L.Z L.r (kds.map (·.2)) (kvs.map (·.2)) → CellAt K L H (.dT kds) a
  | ins {a C dx fs fds} : H a = some (.ins C dx fs) → fds.map (·.1) = fs.map (·.1) → Reps K L.Z L.r (fds.map (·.2)) (fs.map (·.2)) → CellAt K L H (.ins C fds) a
theorem CellAt.some {K : PySem.W.Frag} {L : Lk} {H : Hp} {c : Cell} {a : Addr} (h : CellAt K L H c a) : ∃ u, H a = .some u := by
  cases h <;> exact ⟨_, by assumption⟩
theorem CellAt.move {K : PySem.W.Frag} {L L' : Lk} {H H' : Hp} {c : Cell} {a : Addr} (h : CellAt K L H c a) (le : L.le L') (e : H' a = H a) : CellAt K L' H' c a := by
  cases h with
  | lst h t => exact .lst (e.trans h) (t.mono le)
  | dK h k t => exact .dK (e.trans h) k (t.mono le)
  | dT h k t => exact .dT (e.trans h) k (t.mono le)
  | ins h k t => exact .ins (e.trans h) k (t.mono le)

structure HR (K : PySem.W.Frag) (L : Lk) (G : GH) (H : Hp) : Prop where
  z : ∀ p o, L.Z p = some o → ZH H p o
  len : L.r.length = G.length
  cell : ∀ (n : Nat) (a : Addr) (c : Cell), L.r[n]? = some a → G[n]? = some c → CellAt K L H c a
  inj : ∀ (n m : Nat) (a : Addr), L.r[n]? = some a → L.r[m]? = some a → n = m
  dis : ∀ (n : Nat) (a : Addr), L.r[n]? = some a → L.Z a = none
  fr : ∀ p o, L.F p = some o → H p = some o
  fd : ∀ (n : Nat) (a : Addr), L.r[n]? = some a → L.F a = none
  fz : ∀ p o, L.F p = some o → (∃ od u, o = .frz od u) ∨ L.Z p = none
section
variable {K : PySem.W.Frag} {L : Lk} {G : GH} {H : Hp} {p : Addr} {o : HO}
theorem HR.zfree (h : HR K L G H) (e : H p = none) : L.Z p = none := by
  cases q : L.Z p with
  | none => rfl
  | some u =>
    obtain ⟨w, z⟩ := (h.z p u q).some
    rw [e] at z; cases z
theorem HR.rfree (h : HR K L G H) (e : H p = none) : ∀ n : Nat, L.r[n]? ≠ some p := fun n q => by
  have hn : n < G.length := by rw [← h.len]; exact (List.getElem?_eq_some_iff.mp q).1
  obtain ⟨u, z⟩ := (h.cell n p G[n] q (by simp [hn])).some
  rw [e] at z; cases z
/-- a frozen thing is laid -/
def Lk.put (L : Lk) (p : Addr) (o : HO) : Lk := ⟨upd L.Z p o, L.r, L.F⟩
def Lk.add (L : Lk) (p : Addr) : Lk := ⟨L.Z, L.r ++ [p], L.F⟩
theorem HR.ffree (h : HR K L G H) (e : H p = none) : L.F p = none := by
  cases q : L.F p with
  | none => rfl
  | some u =>
    have z := h.fr p u q
    rw [e] at z; cases z
theorem Lk.le_put (e : L.Z p = none) : L.le (L.put p o) := ⟨fun q u k => by
  show upd L.Z p o q = some u
  rw [upd_ne (ne_of_none k e)]; exact k, fun _ _ k => k, rfl⟩
theorem Lk.le_add : L.le (L.add p) := ⟨fun _ _ k => k, fun n x k => by
  show (L.r ++ [p])[n]? = some x
  rw [List.getElem?_append_left (List.getElem?_eq_some_iff.mp k).1]; exact k, rfl⟩
theorem HR.put (h : HR K L G H) (e : H p = none) : HR K (L.put p o) G (upd H p o) where
  z := fun q u k => by
    by_cases hq : q = p
    · subst hq
      have k' : upd L.Z q o q = some u := k
      rw [upd_same] at k'
      cases k'
      exact .inl upd_same
    · have k' : upd L.Z p o q = some u := k
      rw [upd_ne hq] at k'
      exact (h.z q u k').upd hq
  len := h.len
  cell := fun n a c e1 e2 => (h.cell n a c e1 e2).move (Lk.le_put (h.zfree e)) (upd_ne fun q => h.rfree e n (q ▸ e1))
  inj := h.inj
  dis := fun n a e1 => by
    show upd L.Z p o a = none
    rw [upd_ne fun (q : a = p) => h.rfree e n (q ▸ e1)]
    exact h.dis n a e1
  fr := fun q u k => by rw [upd_ne (ne_of_none (h.fr q u k) e)]; exact h.fr q u k
  fd := h.fd
  fz := fun q u k => by
    show _ ∨ upd L.Z p o q = none
    rw [upd_ne (ne_of_none (h.fr q u k) e)]; exact h.fz q u k
/-- a cell is laid -/
theorem HR.add (h : HR K L G H) (e : H p = none) {c : Cell} (hc : CellAt K (L.add p) (upd H p o) c p) : HR K (L.add p) (G ++ [c]) (upd H p o) where
  z := fun q u k => (h.z q u k).upd fun z => by
    obtain ⟨w, y⟩ := (h.z q u k).some
    rw [z, e] at y; cases y
  len := by show (L.r ++ [p]).length = _; rw [List.length_append, List.length_append, h.len]; rfl
  cell := fun n a c' e1 e2 => by
    have e1' : (L.r ++ [p])[n]? = some a := e1
    by_cases hn : n < L.r.length
    · rw [List.getElem?_append_left hn] at e1'
      rw [List.getElem?_append_left (by rw [← h.len]; exact hn)] at e2
      exact (h.cell n a c' e1' e2).move Lk.le_add (upd_ne fun q => h.rfree e n (q ▸ e1'))
    · have hl : n = L.r.length := by
        have := (List.getElem?_eq_some_iff.mp e1').1
        rw [List.length_append, List.length_singleton] at this
        omega
      subst hl
      rw [List.getElem?_append_right (Nat.le_refl _), Nat.sub_self] at e1'
      rw [List.getElem?_append_right (by rw [h.len]; exact Nat.le_refl _), h.len, Nat.sub_self] at e2
      simp at e1' e2
      subst e1' e2
      exact hc
  inj := fun n m a e1 e2 => by
    have key : ∀ {k : Nat}, (L.r ++ [p])[k]? = some a → (k < L.r.length ∧ L.r[k]? = some a) ∨ (k = L.r.length ∧ p = a) := fun {k} q => by
      by_cases hk : k < L.r.length
      · rw [List.getElem?_append_left hk] at q
        exact .inl ⟨hk, q⟩
      · have hl : k = L.r.length := by
          have := (List.getElem?_eq_some_iff.mp q).1
          rw [List.length_append, List.length_singleton] at this
          omega
        subst hl
        rw [List.getElem?_append_right (Nat.le_refl _), Nat.sub_self] at q
        simp at q
        exact .inr ⟨rfl, q⟩
    rcases key e1 with ⟨_, a1⟩ | ⟨h1, a1⟩ <;> rcases key e2 with ⟨_, a2⟩ | ⟨h2, a2⟩
    · exact h.inj n m a a1 a2
    · exact absurd a1 (a2 ▸ h.rfree e n)
    · exact absurd a2 (a1 ▸ h.rfree e m)
    · rw [h1, h2]
  dis := fun n a e1 => by
    have e1' : (L.r ++ [p])[n]? = some a := e1
    by_cases hn : n < L.r.length
    · rw [List.getElem?_append_left hn] at e1'
      exact h.dis n a e1'
    · have hl : n = L.r.length := by
        have := (List.getElem?_eq_some_iff.mp e1').1
        rw [List.length_append, List.length_singleton] at this
        omega
      subst hl
      rw [List.getElem?_append_right (Nat.le_refl _), Nat.sub_self] at e1'
      simp at e1'
      subst e1'
      exact h.zfree e
  fr := fun q u k => by rw [upd_ne (ne_of_none (h.fr q u k) e)]; exact h.fr q u k
  fd := fun n a e1 => by
    have e1' : (L.r ++ [p])[n]? = some a := e1
    by_cases hn : n < L.r.length
    · rw [List.getElem?_append_left hn] at e1'
      exact h.fd n a e1'
    · have hl : n = L.r.length := by
        have := (List.getElem?_eq_some_iff.mp e1').1
        rw [List.length_append, List.length_singleton] at this
        omega
      subst hl
      rw [List.getElem?_append_right (Nat.le_refl _), Nat.sub_self] at e1'
      simp at e1'
      subst e1'
      exact h.ffree e
  fz := h.fz
/-- a cell is changed -/
theorem HR.set (h : HR K L G H) {n : Nat} (e : L.r[n]? = some p) {c : Cell} (hc : CellAt K L (upd H p o) c p) : HR K L (G.set n c) (upd H p o) where
  z := fun q u k => (h.z q u k).upd fun z => by rw [z, h.dis n p e] at k; cases k
  len := by rw [List.length_set]; exact h.len
  cell := fun m a c' e1 e2 => by
    by_cases hm : n = m
    · subst hm
      rw [e] at e1; cases e1
      rw [List.getElem?_set_self (by rw [← h.len]; exact (List.getElem?_eq_some_iff.mp e).1)] at e2
      cases e2
      exact hc
    · rw [List.getElem?_set_ne hm] at e2
      exact (h.cell m a c' e1 e2).move (.refl _) (upd_ne fun q => hm (h.inj n m p e (q ▸ e1)))
  inj := h.inj
  dis := h.dis
  fr := fun q u k => by
    have hq : q ≠ p := fun z => by rw [z, h.fd n p e] at k; cases k
    rw [upd_ne hq]; exact h.fr q u k
  fd := h.fd
  fz := h.fz
/-- the frame: what stands besides -/
def Lk.frm (L : Lk) (F : Hp) : Lk := ⟨L.Z, L.r, F⟩
theorem HR.frm (h : HR K L G H) {F : Hp} (h1 : ∀ p o, F p = some o → H p = some o) (h2 : ∀ (n : Nat) (a : Addr), L.r[n]? = some a → F a = none) (h3 : ∀ p o, F p = some o → (∃ od u, o = .frz od u) ∨ L.Z p = none) : HR K (L.frm F) G H where
  z := h.z
  len := h.len
  cell := fun n a c e1 e2 => by
    have q := h.cell n a c e1 e2
    cases q with
    | lst h t => exact .lst h t
    | dK h k t => exact .dK h k t
    | dT h k t => exact .dT h k t
    | ins h k t => exact .ins h k t
  inj := h.inj
  dis := h.dis
  fr := h1
  fd := h2
  fz := h3
/-- the same but for the frame -/
structure Lk.cle (a b : Lk) : Prop where
  z : ∀ p o, a.Z p = some o → b.Z p = some o
  r : ∀ (n : Nat) (x : Addr), a.r[n]? = some x → b.r[n]? = some x
theorem Lk.le.c {a b : Lk} (h : a.le b) : a.cle b := ⟨h.z, h.r⟩
theorem Lk.cle.refl (a : Lk) : a.cle a := ⟨fun _ _ h => h, fun _ _ h => h⟩
theorem Lk.cle.trans {a b c : Lk} (h : a.cle b) (k : b.cle c) : a.cle c := ⟨fun p o e => k.z p o (h.z p o e), fun n x e => k.r n x (h.r n x e)⟩
theorem Lk.cle.le {a b : Lk} (h : a.cle b) (f : b.F = a.F) : a.le b := ⟨h.z, h.r, f⟩
/-- .. and the frame may be bigger -/
structure Lk.fle (a b : Lk) : Prop where
  z : ∀ p o, a.Z p = some o → b.Z p = some o
  r : ∀ (n : Nat) (x : Addr), a.r[n]? = some x → b.r[n]? = some x
  f : ∀ p o, a.F p = some o → b.F p = some o
/-- .. locked things alone -/
structure Lk.sle (a b : Lk) : Prop where
  z : ∀ p o, a.Z p = some o → b.Z p = some o
  r : ∀ (n : Nat) (x : Addr), a.r[n]? = some x → b.r[n]? = some x
  f : ∀ p od u, a.F p = some (.frz od u) → b.F p = some (.frz od u)
theorem Lk.fle.s {a b : Lk} (h : a.fle b) : a.sle b := ⟨h.z, h.r, fun p od u e => h.f p _ e⟩
theorem Lk.le.s {a b : Lk} (h : a.le b) : a.sle b := ⟨h.z, h.r, fun p od u e => by rw [h.f]; exact e⟩
theorem Lk.sle.c {a b : Lk} (h : a.sle b) : a.cle b := ⟨h.z, h.r⟩
theorem Lk.le.fl {a b : Lk} (h : a.le b) : a.fle b := ⟨h.z, h.r, fun p o e => by rw [h.f]; exact e⟩
theorem Lk.fle.c {a b : Lk} (h : a.fle b) : a.cle b := ⟨h.z, h.r⟩
theorem Lk.fle.refl (a : Lk) : a.fle a := ⟨fun _ _ h => h, fun _ _ h => h, fun _ _ h => h⟩
theorem Lk.fle.trans {a b c : Lk} (h : a.fle b) (k : b.fle c) : a.fle c := ⟨fun p o e => k.z p o (h.z p o e), fun n x e => k.r n x (h.r n x e), fun p o e => k.f p o (h.f p o e)⟩
theorem HR.shrink (h : HR K L G H) {F : Hp} (s : ∀ p o, F p = some o → L.F p = some o) : HR K (L.frm F) G H := h.frm (fun p o e => h.fr p o (s p o e)) (fun n a e => by
  cases q : F a with
  | none => rfl
  | some o =>
    have z := s a o q
    rw [h.fd n a e] at z; cases z) fun p o e => h.fz p o (s p o e)
/-- a private object at p -/
def Lk.prv (L : Lk) (p : Addr) (o : HO) : Lk := L.frm (upd L.F p o)
theorem CellAt.frm {L : Lk} {F : Hp} {H H' : Hp} {c : Cell} {a : Addr} (q : CellAt K L H c a) (e' : H' a = H a) : CellAt K (L.frm F) H' c a := by
  cases q with
  | lst h t => exact .lst (e'.trans h) t
  | dK h k t => exact .dK (e'.trans h) k t
  | dT h k t => exact .dT (e'.trans h) k t
  | ins h k t => exact .ins (e'.trans h) k t
/-- one object changes that the data level does not see -/
theorem HR.elsewhere (h : HR K L G H) {H2 F2 : Hp} (hz : L.Z p = none) (hrn : ∀ n : Nat, L.r[n]? ≠ some p) (same : ∀ q, q ≠ p → H2 q = H q) (f1 : ∀ q o, F2 q = some o → H2 q = some o)
    (f2 : ∀ (n : Nat) (a : Addr), L.r[n]? = some a → F2 a = none) (f3 : ∀ q o, F2 q = some o → (∃ od u, o = .frz od u) ∨ L.Z q = none) : HR K (L.frm F2) G H2 where
  z := fun q u k => by
    have k : L.Z q = some u := k
    have hq : q ≠ p := fun z => by rw [z, hz] at k; cases k
    rcases h.z q u k with e | ⟨e, ob, e'⟩
    · exact .inl ((same q hq).trans e)
    · exact .inr ⟨e, ob, (same q hq).trans e'⟩
  len := h.len
  cell := fun n a c e1 e2 => (h.cell n a c e1 e2).frm (same a fun (q : a = p) => hrn n (q ▸ e1))
  inj := h.inj
  dis := h.dis
  fr := f1
  fd := f2
  fz := f3
theorem HR.prv (h : HR K L G H) (e : H p = none) : HR K (L.prv p o) G (upd H p o) :=
  h.elsewhere (p := p) (h.zfree e) (h.rfree e) (fun q hq => upd_ne hq)
    (fun q u k => by
      by_cases hq : q = p
      · subst hq; rw [upd_same] at k ⊢; exact k
      · rw [upd_ne hq] at k ⊢; exact h.fr q u k)
    (fun n a e1 => by rw [upd_ne fun (q : a = p) => h.rfree e n (q ▸ e1)]; exact h.fd n a e1)
    (fun q u k => by
      by_cases hq : q = p
      · subst hq; exact .inr (h.zfree e)
      · rw [upd_ne hq] at k; exact h.fz q u k)
theorem HR.prvZ (h : HR K (L.prv p o) G H) (ho : ∀ od w, o ≠ .frz od w) : L.Z p = none := (h.fz p o upd_same).resolve_left fun ⟨od, w, e⟩ => ho od w e
theorem HR.prvR (h : HR K (L.prv p o) G H) : ∀ n : Nat, L.r[n]? ≠ some p := fun n q => by
  have z : upd L.F p o p = none := h.fd n p q
  rw [upd_same] at z; cases z
theorem HR.prvH (h : HR K (L.prv p o) G H) : H p = some o := h.fr p o upd_same
/-- a private object is changed -/
theorem HR.prvSet {u : HO} (h : HR K (L.prv p o) G H) (ho : ∀ od w, o ≠ .frz od w) : HR K (L.prv p u) G (upd H p u) :=
  HR.elsewhere (L := L.prv p o) (p := p) h (h.prvZ ho) h.prvR (fun q hq => upd_ne hq)
    (fun q w k => by
      by_cases hq : q = p
      · subst hq; rw [upd_same] at k ⊢; exact k
      · rw [upd_ne hq] at k ⊢
        exact h.fr q w (by show upd L.F p o q = some w; rw [upd_ne hq]; exact k))
    (fun n a e1 => by
      have hq : a ≠ p := fun (q : a = p) => h.prvR n (q ▸ e1)
      have z : upd L.F p o a = none := h.fd n a e1
      rw [upd_ne hq] at z ⊢; exact z)
    (fun q w k => by
      by_cases hq : q = p
      · subst hq; exact .inr (h.prvZ ho)
      · rw [upd_ne hq] at k
        exact h.fz q w (by show upd L.F p o q = some w; rw [upd_ne hq]; exact k))
/-- .. is taken out -/
theorem HR.prvOut (h : HR K (L.prv p o) G H) (ho : ∀ od w, o ≠ .frz od w) (hF : L.F p = none) : HR K L G (fun b => if b = p then none else H b) :=
  HR.elsewhere (L := L.prv p o) (p := p) (F2 := L.F) h (h.prvZ ho) h.prvR (fun q hq => if_neg hq)
    (fun q w k => by
      have hq : q ≠ p := fun z => by rw [z, hF] at k; cases k
      rw [if_neg hq]
      exact h.fr q w (by show upd L.F p o q = some w; rw [upd_ne hq]; exact k))
    (fun n a e1 => by
      have hq : a ≠ p := fun (q : a = p) => h.prvR n (q ▸ e1)
      have z : upd L.F p o a = none := h.fd n a e1
      rw [upd_ne hq] at z; exact z)
    (fun q w k => by
      have hq : q ≠ p := fun z => by rw [z, hF] at k; cases k
      exact h.fz q w (by show upd L.F p o q = some w; rw [upd_ne hq]; exact k))
theorem upd_out {H : Hp} {p : Addr} {o : HO} (e : H p = some o) : upd (fun b => if b = p then none else H b) p o = H := by
  funext b
  by_cases hb : b = p
  · subst hb; rw [upd_same, e]
  · rw [upd_ne hb, if_neg hb]
end

def ER (K : PySem.W.Frag) (L : Lk) (δ : DEnv) (σ : St) : Prop := δ.length = σ.length ∧ ∀ (i : Nat) (d : D), δ[i]? = some (some d) → ∃ v, σ[i]? = some (some v) ∧ Rep K L.Z L.r d v
theorem ER.mono {K : PySem.W.Frag} {L L' : Lk} {δ : DEnv} {σ : St} (h : ER K L δ σ) (le : L.le L') : ER K L' δ σ := ⟨h.1, fun i d e => let ⟨v, a, b⟩ := h.2 i d e; ⟨v, a, b.mono le⟩⟩
theorem ER.fmono {K : PySem.W.Frag} {L L' : Lk} {δ : DEnv} {σ : St} (h : ER K L δ σ) (le : L.fle L') : ER K L' δ σ := ⟨h.1, fun i d e => let ⟨v, a, b⟩ := h.2 i d e; ⟨v, a, Rep.mono (a := L) (b := L'.frm L.F) ⟨le.z, le.r, rfl⟩ b⟩⟩
theorem ER.set {K : PySem.W.Frag} {L : Lk} {δ : DEnv} {σ : St} (h : ER K L δ σ) {d : D} {v : V} (i : Nat) (x : Rep K L.Z L.r d v) : ER K L (δ.set i (some d)) (σ.set i (some v)) := by
  refine ⟨by simpa using h.1, fun j d' e => ?_⟩
  by_cases hj : i = j
  · subst hj
    by_cases hl : i < δ.length
    · rw [List.getElem?_set_self hl] at e
      cases e
      exact ⟨v, by rw [List.getElem?_set_self (by rw [← h.1]; exact hl)], x⟩
    · rw [List.getElem?_eq_none (by simpa using hl)] at e; cases e
  · rw [List.getElem?_set_ne hj] at e ⊢
    exact h.2 j d' e
theorem ER.drop {K : PySem.W.Frag} {L : Lk} {δ : DEnv} {σ : St} (h : ER K L δ σ) (i : Nat) : ER K L (δ.set i none) (σ.set i none) := by
  refine ⟨by simpa using h.1, fun j d' e => ?_⟩
  by_cases hj : i = j
  · subst hj
    by_cases hl : i < δ.length
    · rw [List.getElem?_set_self hl] at e; cases e
    · rw [List.getElem?_eq_none (by simpa using hl)] at e; cases e
  · rw [List.getElem?_set_ne hj] at e ⊢
    exact h.2 j d' e
def wipeD (δ : DEnv) : List Nat → DEnv
  | [] => δ
  | v :: vs => (wipeD δ vs).set v none
theorem ER.wipe {K : PySem.W.Frag} {L : Lk} {δ : DEnv} {σ : St} (h : ER K L δ σ) : ∀ vs : List Nat, ER K L (wipeD δ vs) (wipe σ vs)
  | [] => h
  | v :: vs => (ER.wipe h vs).drop v

/-- an exception lies so -/
def XRep (K : PySem.W.Frag) (L : Lk) (x : Ex) (c : Value) (dx : Option Addr) : Prop :=
  c = .ref x.cls ∧ ∃ d fs, dx = some d ∧ L.Z d = some (.xd fs) ∧ x.fs.map (·.1) = fs.map (·.1) ∧ Reps K L.Z L.r (x.fs.map (·.2)) (fs.map (·.2))
theorem XRep.mono {K : PySem.W.Frag} {L L' : Lk} {x : Ex} {c : Value} {dx : Option Addr} (h : XRep K L x c dx) (le : L.le L') : XRep K L' x c dx := by
  obtain ⟨e, d, fs, e1, e2, e3, e4⟩ := h
  exact ⟨e, d, fs, e1, le.z _ _ e2, e3, e4.mono le⟩

/-- a result meets its wish -/
def Sat {α β : Type} (K : PySem.W.Frag) (W : WX) (L : Lk) (σ : St) (rep : Lk → α → β → Prop) (r : R α) (Q : β → Hp → Prop) : Prop := match r with
  | .ok d G => ∀ L' H' v, L.le L' → HR K L' G H' → rep L' d v → Q v H'
  | .ex x G => ∀ L' H' c dx, L.le L' → HR K L' G H' → XRep K L' x c dx → W c dx σ H'
  | .no => False
theorem Sat.mono {α β : Type} {K : PySem.W.Frag} {W : WX} {L L' : Lk} {σ : St} {rep : Lk → α → β → Prop} {r : R α} {Q : β → Hp → Prop} (h : Sat K W L σ rep r Q) (le : L.le L') : Sat K W L' σ rep r Q := by
  cases r with
  | ok d G => exact fun L2 H2 v l2 => h L2 H2 v (le.trans l2)
  | ex x G => exact fun L2 H2 c dx l2 => h L2 H2 c dx (le.trans l2)
  | no => exact h
theorem XRep.shrink {K : PySem.W.Frag} {L : Lk} {F : Hp} {x : Ex} {c : Value} {dx : Option Addr} (h : XRep K L x c dx) : XRep K (L.frm F) x c dx := h
/-- .. from a smaller frame -/
theorem Sat.fmono {α β : Type} {K : PySem.W.Frag} {W : WX} {L L' : Lk} {σ : St} {rep : Lk → α → β → Prop} {r : R α} {Q : β → Hp → Prop} (h : Sat K W L σ rep r Q) (le : L.fle L') (hrep : ∀ L F a b, rep L a b → rep (L.frm F) a b) : Sat K W L' σ rep r Q := by
  have sm : ∀ {L2 G H}, L'.le L2 → HR K L2 G H → L.le (L2.frm L.F) ∧ HR K (L2.frm L.F) G H := fun {L2 G H} l2 hr => ⟨⟨fun p o e => l2.z p o (le.z p o e), fun n x e => l2.r n x (le.r n x e), rfl⟩, hr.shrink fun p o e => by rw [l2.f]; exact le.f p o e⟩
  cases r with
  | ok d G => exact fun L2 H2 v l2 hr rv => h _ H2 v (sm l2 hr).1 (sm l2 hr).2 (hrep _ _ _ _ rv)
  | ex x G => exact fun L2 H2 c dx l2 hr xr => h _ H2 c dx (sm l2 hr).1 (sm l2 hr).2 xr.shrink
  | no => exact h
def repD (K : PySem.W.Frag) : Lk → D → V → Prop := fun L d v => Rep K L.Z L.r d v
def repA (K : PySem.W.Frag) : Lk → List D → List V → Prop := fun L d v => Reps K L.Z L.r d v
def repB : Lk → Bool → Bool → Prop := fun _ a b => a = b
def tG {α β : Type} (K : PySem.W.Frag) (W : WX) (rep : Lk → α → β → Prop) (f : DEnv → GH → R α) : St → Hp → (β → Hp → Prop) → Prop := fun σ H Q =>
  ∃ L δ G, HR K L G H ∧ ER K L δ σ ∧ Sat K W L σ rep (f δ G) Q

abbrev FE := DEnv → GH → R D
abbrev FA := DEnv → GH → R (List D)
abbrev FT := DEnv → GH → R Bool
def xE (X : Cx) (W : WX) (e : Expr) (f : FE) : Prop := PE X e (tG X.K W (repD X.K) f)
def xA (X : Cx) (W : WX) (es : List Expr) (f : FA) : Prop := PA X es (tG X.K W (repA X.K) f)
def xT (X : Cx) (W : WX) (e : Expr) (f : FT) : Prop := PT X e (tG X.K W repB f)
def xW (X : Cx) (W : WX) (e : Expr) (f : FT) : Prop := PW X e (tG X.K W repB f)

/-- a statement's result -/
inductive RS where
  | nx (δ : DEnv) (G : GH) | rt (d : D) (G : GH) | bk (δ : DEnv) (G : GH) | ct (δ : DEnv) (G : GH) | ex (x : Ex) (δ : DEnv) (G : GH) | no
def SatS (K : PySem.W.Frag) (W : WX) (L : Lk) (r : RS) (E : Ends) : Prop := match r with
  | .nx δ G => ∀ L' σ' H', L.le L' → HR K L' G H' → ER K L' δ σ' → E.nx σ' H'
  | .bk δ G => ∀ L' σ' H', L.le L' → HR K L' G H' → ER K L' δ σ' → E.bk σ' H'
  | .ct δ G => ∀ L' σ' H', L.le L' → HR K L' G H' → ER K L' δ σ' → E.ct σ' H'
  | .rt d G => ∀ L' H' v, L.le L' → HR K L' G H' → Rep K L'.Z L'.r d v → E.rt v H'
  | .ex x δ G => ∀ L' σ' H' c dx, L.le L' → HR K L' G H' → ER K L' δ σ' → XRep K L' x c dx → W c dx σ' H'
  | .no => False
theorem SatS.mono {K : PySem.W.Frag} {W : WX} {L L' : Lk} {r : RS} {E : Ends} (h : SatS K W L r E) (le : L.le L') : SatS K W L' r E := by
  cases r with
  | nx δ G => exact fun L2 σ H l2 => h L2 σ H (le.trans l2)
  | bk δ G => exact fun L2 σ H l2 => h L2 σ H (le.trans l2)
  | ct δ G => exact fun L2 σ H l2 => h L2 σ H (le.trans l2)
  | rt d G => exact fun L2 H v l2 => h L2 H v (le.trans l2)
  | ex x δ G => exact fun L2 σ H c dx l2 => h L2 σ H c dx (le.trans l2)
  | no => exact h
theorem ER.frm {K : PySem.W.Frag} {L : Lk} {F : Hp} {δ : DEnv} {σ : St} (h : ER K L δ σ) : ER K (L.frm F) δ σ := h
theorem SatS.fmono {K : PySem.W.Frag} {W : WX} {L L' : Lk} {r : RS} {E : Ends} (h : SatS K W L r E) (le : L.fle L') : SatS K W L' r E := by
  have sm : ∀ {L2 G H}, L'.le L2 → HR K L2 G H → L.le (L2.frm L.F) ∧ HR K (L2.frm L.F) G H := fun {L2 G H} l2 hr => ⟨⟨fun p o e => l2.z p o (le.z p o e), fun n x e => l2.r n x (le.r n x e), rfl⟩, hr.shrink fun p o e => by rw [l2.f]; exact le.f p o e⟩
  cases r with
  | nx δ G => exact fun L2 σ H l2 hr er => h _ σ H (sm l2 hr).1 (sm l2 hr).2 er
  | bk δ G => exact fun L2 σ H l2 hr er => h _ σ H (sm l2 hr).1 (sm l2 hr).2 er
  | ct δ G => exact fun L2 σ H l2 hr er => h _ σ H (sm l2 hr).1 (sm l2 hr).2 er
  | rt d G => exact fun L2 H v l2 hr rv => h _ H v (sm l2 hr).1 (sm l2 hr).2 rv
  | ex x δ G => exact fun L2 σ H c dx l2 hr er xr => h _ σ H c dx (sm l2 hr).1 (sm l2 hr).2 er xr
  | no => exact h
abbrev FS := DEnv → GH → RS
def tS (K : PySem.W.Frag) (W : WX) (f : FS) : TS := fun E σ H => ∃ L δ G, HR K L G H ∧ ER K L δ σ ∧ SatS K W L (f δ G) E
def xS (X : Cx) (W : WX) (st : Stmt) (f : FS) : Prop := PS X st (tS X.K W f)
def xSs (X : Cx) (W : WX) (st : List Stmt) (f : FS) : Prop := PSs X st (tS X.K W f)
/-- an expression's result, then a statement -/
def R.thn {α : Type} (r : R α) (δ : DEnv) (k : α → GH → RS) : RS := match r with
  | .ok a G => k a G
  | .ex x G => .ex x δ G
  | .no => .no
@[simp] theorem R.thn_ok {α : Type} (a : α) (G : GH) (δ : DEnv) (k : α → GH → RS) : (R.ok a G).thn δ k = k a G := rfl
@[simp] theorem R.thn_ex {α : Type} (x : Ex) (G : GH) (δ : DEnv) (k : α → GH → RS) : (R.ex x G : R α).thn δ k = .ex x δ G := rfl
@[simp] theorem R.thn_no {α : Type} (δ : DEnv) (k : α → GH → RS) : (R.no : R α).thn δ k = .no := rfl
def RS.seq (r : RS) (k : DEnv → GH → RS) : RS := match r with
  | .nx δ G => k δ G
  | r => r
@[simp] theorem RS.seq_nx (δ : DEnv) (G : GH) (k : DEnv → GH → RS) : (RS.nx δ G).seq k = k δ G := rfl
@[simp] theorem RS.seq_rt (d : D) (G : GH) (k : DEnv → GH → RS) : (RS.rt d G).seq k = .rt d G := rfl
@[simp] theorem RS.seq_bk (δ : DEnv) (G : GH) (k : DEnv → GH → RS) : (RS.bk δ G).seq k = .bk δ G := rfl
@[simp] theorem RS.seq_ct (δ : DEnv) (G : GH) (k : DEnv → GH → RS) : (RS.ct δ G).seq k = .ct δ G := rfl
@[simp] theorem RS.seq_ex (x : Ex) (δ : DEnv) (G : GH) (k : DEnv → GH → RS) : (RS.ex x δ G).seq k = .ex x δ G := rfl
@[simp] theorem RS.seq_no (k : DEnv → GH → RS) : RS.no.seq k = .no := rfl

/-! ### weakening -/
theorem PEimp {X : Cx} {e : Expr} {t t' : TE} (h : PE X e t) (i : ∀ σ H Q, t' σ H Q → t σ H Q) : PE X e t' := ⟨fun pins s σ H Q I q => h.run pins s σ H Q I (i _ _ _ q)⟩
theorem PTimp {X : Cx} {e : Expr} {t t' : TT} (h : PT X e t) (i : ∀ σ H Q, t' σ H Q → t σ H Q) : PT X e t' := ⟨fun pins s σ H Q I q => h.run pins s σ H Q I (i _ _ _ q)⟩
theorem PWimp {X : Cx} {e : Expr} {t t' : TT} (h : PW X e t) (i : ∀ σ H Q, t' σ H Q → t σ H Q) : PW X e t' := ⟨fun wh pins s σ H Q I q => h.run wh pins s σ H Q I (i _ _ _ q)⟩
theorem PAimp {X : Cx} {e : List Expr} {t t' : TA} (h : PA X e t) (i : ∀ σ H Q, t' σ H Q → t σ H Q) : PA X e t' := ⟨fun pos pins s σ H Q I q => h.run pos pins s σ H Q I (i _ _ _ q)⟩
theorem PSimp {X : Cx} {e : Stmt} {t t' : TS} (h : PS X e t) (i : ∀ E σ H, t' E σ H → t E σ H) : PS X e t' := ⟨fun pins s σ H Q I q => h.run pins s σ H Q I (i _ _ _ q)⟩
theorem PSsimp {X : Cx} {e : List Stmt} {t t' : TS} (h : PSs X e t) (i : ∀ E σ H, t' E σ H → t E σ H) : PSs X e t' := ⟨fun pins s σ H Q I q => h.run pins s σ H Q I (i _ _ _ q)⟩

/-- the first of two steps -/
theorem Sat.bind {α β γ δ' : Type} {K : PySem.W.Frag} {W : WX} {L : Lk} {σ : St} {δ : DEnv} {G : GH} {H : Hp} {rep : Lk → α → β → Prop} {rep' : Lk → γ → δ' → Prop} {f : DEnv → GH → R α} {k : α → GH → R γ} {Q : δ' → Hp → Prop} {Q1 : β → Hp → Prop}
    (hr : HR K L G H) (er : ER K L δ σ) (h : Sat K W L σ rep' ((f δ G).bind k) Q)
    (nx : ∀ L1 G1 H1 a v, L.le L1 → HR K L1 G1 H1 → ER K L1 δ σ → rep L1 a v → Sat K W L1 σ rep' (k a G1) Q → Q1 v H1) : tG K W rep f σ H Q1 := by
  refine ⟨L, δ, G, hr, er, ?_⟩
  cases e : f δ G with
  | ok a G1 =>
    rw [e] at h
    exact fun L1 H1 v le hr1 ra => nx L1 G1 H1 a v le hr1 (er.mono le) ra (Sat.mono (L := L) (r := k a G1) h le)
  | ex x G1 =>
    rw [e] at h
    exact h
  | no =>
    rw [e] at h
    exact h
theorem Sat.thn {α β : Type} {K : PySem.W.Frag} {W : WX} {L : Lk} {σ : St} {δ : DEnv} {G : GH} {H : Hp} {rep : Lk → α → β → Prop} {f : DEnv → GH → R α} {k : α → GH → RS} {E : Ends} {Q1 : β → Hp → Prop}
    (hr : HR K L G H) (er : ER K L δ σ) (h : SatS K W L ((f δ G).thn δ k) E)
    (nx : ∀ L1 G1 H1 a v, L.le L1 → HR K L1 G1 H1 → ER K L1 δ σ → rep L1 a v → SatS K W L1 (k a G1) E → Q1 v H1) : tG K W rep f σ H Q1 := by
  refine ⟨L, δ, G, hr, er, ?_⟩
  cases e : f δ G with
  | ok a G1 =>
    rw [e] at h
    exact fun L1 H1 v le hr1 ra => nx L1 G1 H1 a v le hr1 (er.mono le) ra (SatS.mono (L := L) (r := k a G1) h le)
  | ex x G1 =>
    rw [e] at h
    exact fun L1 H1 c dx le hr1 xr => h L1 σ H1 c dx le hr1 (er.mono le) xr
  | no =>
    rw [e] at h
    exact h
end CF
end
section
set_option maxRecDepth 100000
set_option maxHeartbeats 1000000
/-! Rules of the data level: names, constants, operators, tests, displays, statements. -/
namespace CF
open PySem PySem.Spec PyProof.Rows L2

/-! ### views -/
def lstOf (G : GH) : D → Option (List D)
  | .lst xs => some xs
  | .scr xs => some xs
  | .ref n => match G[n]? with
    | some (.lst xs) => some xs
    | _ => none
  | _ => none
@[simp] theorem lstOf_lst (G : GH) (xs : List D) : lstOf G (.lst xs) = some xs := rfl
@[simp] theorem lstOf_scr (G : GH) (xs : List D) : lstOf G (.scr xs) = some xs := rfl
@[simp] theorem lstOf_tup (G : GH) (xs : List D) : lstOf G (.tup xs) = none := rfl
@[simp] theorem lstOf_int (G : GH) (i : Int) : lstOf G (.int i) = none := rfl
@[simp] theorem lstOf_str (G : GH) (x : Str) : lstOf G (.str x) = none := rfl
@[simp] theorem lstOf_dK (G : GH) (x : List (Key × D)) : lstOf G (.dK x) = none := rfl
@[simp] theorem lstOf_dT (G : GH) (x : List (List Key × D)) : lstOf G (.dT x) = none := rfl
@[simp] theorem lstOf_ref (G : GH) (n : Nat) : lstOf G (.ref n) = match G[n]? with | some (.lst xs) => some xs | _ => none := rfl
theorem scr_sq {K : PySem.W.Frag} {L : Lk} {G : GH} {H : Hp} (hr : HR K L G H) {p : Addr} {vs : List V} (z : ScrAt K L.Z p vs) : SqL K H p vs := z.elim (fun ⟨o, z⟩ => .inl (.inr ⟨o, (hr.z _ _ z).frz⟩)) .inr
section
variable {K : PySem.W.Frag} {L : Lk} {G : GH} {H : Hp} {d : D} {v : V} {ds : List D}
theorem lst_rep (hr : HR K L G H) (h : Rep K L.Z L.r d v) (e : lstOf G d = some ds) : ∃ p vs, v = .ref p ∧ SqL K H p vs ∧ Reps K L.Z L.r ds vs := by
  cases h with
  | lst z t => cases e; exact ⟨_, _, rfl, .of (hr.z _ _ z).lst, t⟩
  | scr z t => cases e; exact ⟨_, _, rfl, scr_sq hr z, t⟩
  | @ref n a q =>
    have hn : n < G.length := by rw [← hr.len]; exact (List.getElem?_eq_some_iff.mp q).1
    have c := hr.cell n a G[n] q (by simp [hn])
    rw [lstOf_ref, List.getElem?_eq_getElem hn] at e
    cases k : G[n] with
    | lst xs =>
      rw [k] at e c; cases e
      cases c with
      | lst h t => exact ⟨_, _, rfl, .of h, t⟩
    | _ => rw [k] at e; cases e
  | _ => cases e
/-- a list that may be read by its exact object (not the script) -/
def lstX (G : GH) : D → Option (List D)
  | .lst xs => some xs
  | .ref n => match G[n]? with
    | some (.lst xs) => some xs
    | _ => none
  | _ => none
@[simp] theorem lstX_lst (G : GH) (xs : List D) : lstX G (.lst xs) = some xs := rfl
@[simp] theorem lstX_ref (G : GH) (n : Nat) : lstX G (.ref n) = match G[n]? with | some (.lst xs) => some xs | _ => none := rfl
theorem lstX_rep (hr : HR K L G H) (h : Rep K L.Z L.r d v) (e : lstX G d = some ds) : ∃ p vs, v = .ref p ∧ H p = some (.lst vs) ∧ Reps K L.Z L.r ds vs := by
  cases h with
  | lst z t => cases e; exact ⟨_, _, rfl, (hr.z _ _ z).lst, t⟩
  | @ref n a q =>
    have hn : n < G.length := by rw [← hr.len]; exact (List.getElem?_eq_some_iff.mp q).1
    have c := hr.cell n a G[n] q (by simp [hn])
    rw [lstX_ref, List.getElem?_eq_getElem hn] at e
    cases k : G[n] with
    | lst xs =>
      rw [k] at e c; cases e
      cases c with
      | lst h t => exact ⟨_, _, rfl, h, t⟩
    | _ => rw [k] at e; cases e
  | _ => cases e
theorem tup_rep (hr : HR K L G H) (h : Rep K L.Z L.r (.tup ds) v) : ∃ p vs, v = .ref p ∧ SqT K H p vs ∧ Reps K L.Z L.r ds vs := by
  cases h with
  | tup z t =>
    rcases z with z | z
    · exact ⟨_, _, rfl, .of (hr.z _ _ z).tup, t⟩
    · exact ⟨_, _, rfl, .inr z, t⟩
/-- a tuple's items; pt: one that is known to the object -/
def tupOf : D → Option (List D)
  | .tup xs => some xs
  | .pt xs => some xs
  | _ => none
theorem tupOf_rep (hr : HR K L G H) (h : Rep K L.Z L.r d v) (e : tupOf d = some ds) : ∃ p vs, v = .ref p ∧ SqT K H p vs ∧ Reps K L.Z L.r ds vs := by
  cases h with
  | tup z t => cases e; exact tup_rep hr (.tup z t)
  | pt z k t => cases e; exact ⟨_, _, rfl, .inl (.inr ⟨_, (hr.z _ _ z).frz⟩), t⟩
  | _ => cases e
theorem cell_rep (hr : HR K L G H) {n : Nat} (h : Rep K L.Z L.r (.ref n) v) {c : Cell} (e : G[n]? = some c) : ∃ a, v = .ref a ∧ L.r[n]? = some a ∧ CellAt K L H c a := by
  cases h with
  | ref q => exact ⟨_, rfl, q, hr.cell _ _ _ q e⟩
end

section
variable {X : Cx} {W : WX} {pos : Pos}
/-! ### names and constants -/
def eVar (i : Nat) : FE := fun δ G => match δ[i]? with
  | some (some d) => .ok d G
  | _ => .no
def eC (d : D) : FE := fun _ G => .ok d G
theorem xe_var {i : Nat} {x : Str} (hN : X.N[i]? = some x) (hv : Vis X.env.scope x) (hd : (x == ("__debug__" : Str)) = false := by decide) (hcd : (x == ("__classdict__" : Str)) = false := by decide) : xE X W (.Name x pos) (eVar i) :=
  PEimp (pe_var hN hv hd hcd) fun σ H Q ⟨L, δ, G, hr, er, h⟩ => by
    unfold eVar at h
    split at h
    · rename_i d e
      obtain ⟨v, e1, r⟩ := er.2 i d e
      exact ⟨v, e1, h L H v (.refl L) hr r⟩
    · exact h.elim
theorem xv (i : Nat) {x : Str} (hN : X.N[i]? = some x := by rfl) (hv : Vis X.env.scope x := by first | exact Or.inl rfl | exact Or.inr (Or.inl rfl) | exact Or.inr (Or.inr rfl)) (hd : (x == ("__debug__" : Str)) = false := by decide)
    (hcd : (x == ("__classdict__" : Str)) = false := by decide) : xE X W (.Name x pos) (eVar i) := xe_var hN hv hd hcd
theorem xe_c {e : Expr} {d : D} {v : V} (h : PE X e (tC v)) (r : ∀ K Z r, Rep K Z r d v) : xE X W e (eC d) :=
  PEimp h fun σ H Q ⟨L, δ, G, hr, er, h⟩ => h L H v (.refl L) hr (r _ _ _)
theorem xe_int {i j} : xE X W (.Constant (.int i) j pos) (eC (.int i)) := xe_c pe_int fun _ _ _ => .int i
theorem xe_bl {b j} : xE X W (.Constant (.bool b) j pos) (eC (.bl b)) := xe_c pe_bl fun _ _ _ => .bl b
theorem xe_non {j} : xE X W (.Constant .none j pos) (eC .non) := xe_c pe_non fun _ _ _ => .non
theorem xe_str {x j} : xE X W (.Constant (.str x) j pos) (eC (.str x)) := xe_c pe_str fun _ _ _ => .str x
/-- a module's constant -/
theorem xe_gint {x : Str} {i : Int} (h : ∃ t, X.mg x = some (.int i t)) (hg : Gl X x := by rfl) (hd : (x == ("__debug__" : Str)) = false := by decide) : xE X W (.Name x pos) (eC (.int i)) :=
  let ⟨t, e⟩ := h; xe_c (pe_glob hg e (v := .int i) ⟨t, rfl⟩ hd) fun _ _ _ => .int i
theorem xe_gstr {x : Str} {z : Str} (h : ∃ t, X.mg x = some (.str z t)) (hg : Gl X x := by rfl) (hd : (x == ("__debug__" : Str)) = false := by decide) : xE X W (.Name x pos) (eC (.str z)) :=
  let ⟨t, e⟩ := h; xe_c (pe_glob hg e (v := .str z) ⟨t, rfl⟩ hd) fun _ _ _ => .str z

/-! ### argument lists -/
def aNil : FA := fun _ G => .ok [] G
def aCons (f : FE) (g : FA) : FA := fun δ G => (f δ G).bind fun d G1 => (g δ G1).bind fun ds G2 => .ok (d :: ds) G2
theorem xa_nil : xA X W [] aNil := PAimp pa_nil fun σ H Q ⟨L, δ, G, hr, er, h⟩ => h L H [] (.refl L) hr .nil
theorem xa_cons {e : Expr} {es : List Expr} {f : FE} {g : FA} (h : xE X W e f) (t : xA X W es g) (hs : starEach (e :: es) X.env = (false, eval e X.env) :: starEach es X.env := by rfl) : xA X W (e :: es) (aCons f g) :=
  PAimp (pa_cons h t hs) fun σ H Q ⟨L, δ, G, hr, er, q⟩ => Sat.bind (rep' := repA X.K) hr er q fun L1 G1 H1 d v le hr1 er1 rd q1 => Sat.bind (rep' := repA X.K) hr1 er1 q1 fun L2 G2 H2 ds vs le2 hr2 er2 rds q2 =>
    q2 L2 H2 (v :: vs) (.refl _) hr2 (.cons (rd.mono le2) rds)

/-! ### displays -/
def eTup (g : FA) : FE := fun δ G => (g δ G).bind fun ds G1 => if ds.length ≤ sizeLine then .ok (.tup ds) G1 else .no
/-- a list that stays as it is -/
def eTupP (g : FA) : FE := fun δ G => (g δ G).bind fun ds G1 => if ds.length ≤ sizeLine then .ok (.pt ds) G1 else .no
def eLst (g : FA) : FE := fun δ G => (g δ G).bind fun ds G1 => if ds.length ≤ sizeLine then .ok (.lst ds) G1 else .no
/-- a list that may change: a new cell -/
def eLstM (g : FA) : FE := fun δ G => (g δ G).bind fun ds G1 => if ds.length ≤ sizeLine then .ok (.ref G1.length) (G1 ++ [.lst ds]) else .no
theorem put_tup {K : PySem.W.Frag} {L : Lk} {G : GH} {H : Hp} {ds : List D} {vs : List V} {p : Addr} (r : Reps K L.Z L.r ds vs) (hr : HR K L G H) (hp : H p = none) :
    HR K (L.put p (.tup vs)) G (upd H p (.tup vs)) ∧ L.le (L.put p (.tup vs)) ∧ Rep K (L.put p (.tup vs)).Z (L.put p (.tup vs)).r (.tup ds) (.ref p) :=
  have le := Lk.le_put (o := .tup vs) (hr.zfree hp)
  ⟨hr.put hp, le, .tup (.inl (by show upd L.Z p _ p = _; exact upd_same)) (r.mono le)⟩
theorem put_lst {K : PySem.W.Frag} {L : Lk} {G : GH} {H : Hp} {ds : List D} {vs : List V} {p : Addr} (r : Reps K L.Z L.r ds vs) (hr : HR K L G H) (hp : H p = none) :
    HR K (L.put p (.lst vs)) G (upd H p (.lst vs)) ∧ L.le (L.put p (.lst vs)) ∧ Rep K (L.put p (.lst vs)).Z (L.put p (.lst vs)).r (.lst ds) (.ref p) :=
  have le := Lk.le_put (o := .lst vs) (hr.zfree hp)
  ⟨hr.put hp, le, .lst (by show upd L.Z p _ p = _; exact upd_same) (r.mono le)⟩
theorem put_pt {K : PySem.W.Frag} {L : Lk} {G : GH} {H : Hp} {ds : List D} {vs : List V} {p : Addr} {o : Obj} (r : Reps K L.Z L.r ds vs) (hr : HR K L G H) (hp : H p = none) (ho : o.dict = none) :
    HR K (L.put p (.frz o (.tup vs))) G (upd H p (.frz o (.tup vs))) ∧ L.le (L.put p (.frz o (.tup vs))) ∧ Rep K (L.put p (.frz o (.tup vs))).Z (L.put p (.frz o (.tup vs))).r (.pt ds) (.ref p) :=
  have le := Lk.le_put (o := .frz o (.tup vs)) (hr.zfree hp)
  ⟨hr.put hp, le, .pt (by show upd L.Z p _ p = _; exact upd_same) ho (r.mono le)⟩
theorem add_lst {K : PySem.W.Frag} {L : Lk} {G : GH} {H : Hp} {ds : List D} {vs : List V} {p : Addr} (r : Reps K L.Z L.r ds vs) (hr : HR K L G H) (hp : H p = none) :
    HR K (L.add p) (G ++ [.lst ds]) (upd H p (.lst vs)) ∧ L.le (L.add p) ∧ Rep K (L.add p).Z (L.add p).r (.ref G.length) (.ref p) :=
  have le : L.le (L.add p) := Lk.le_add
  ⟨hr.add hp (.lst upd_same (r.mono le)), le, .ref (by
    show (L.r ++ [p])[G.length]? = some p
    rw [← hr.len, List.getElem?_append_right (Nat.le_refl _), Nat.sub_self]; rfl)⟩
variable {es : List Expr} {g : FA}
theorem xe_tup {k} (h : xA X W es g) : xE X W (.Tuple es k pos) (eTup g) :=
  PEimp (pe_tup h) fun σ H Q ⟨L, δ, G, hr, er, q⟩ => Sat.bind (rep' := repD X.K) hr er q fun L1 G1 H1 ds vs le hr1 er1 rd q1 => by
    by_cases hl : ds.length ≤ sizeLine
    · rw [if_pos hl] at q1
      refine ⟨by rw [← Reps.length rd]; exact hl, fun p hp => ?_⟩
      obtain ⟨a, b, c⟩ := put_tup rd hr1 hp
      exact q1 _ _ _ b a c
    · rw [if_neg hl] at q1; exact q1.elim
/-- a tuple, told as the object -/
def tTupP (t : TA) : TE := fun σ H Q => t σ H fun xs H1 => xs.length ≤ sizeLine ∧ ∀ p o, H1 p = none → o.dict = none → Q (.ref p) (upd H1 p (.frz o (.tup xs)))
theorem pe_tupP {k} {t : TA} (h : PA X es t) : PE X (.Tuple es k pos) (tTupP t) := ⟨fun pins s σ H Q I hq =>
  wpAny_Tuple_spliced (thn (h.run pos pins s σ H _ I hq) fun us s1 ⟨xs, H1, I1, r, z, q⟩ => ⟨by rw [← r.length]; exact z,
    ⟨.ref s1.heap.objs.size, _, I1.laid (o := .frz { cls := .type "tuple", data := .seq us.toArray } (.tup xs)) (t' := s1.toks) (fun b u e => Heap.get?_push_of_some _ e) (Nat.le_refl _)
      ⟨Heap.get?_push_size _ rfl, z, us, r, ⟨_, Heap.get?_push_size _ rfl, rfl, _, rfl⟩⟩, rfl, q _ _ (I1.hok.fresh (Nat.le_refl _)) rfl⟩⟩)⟩
theorem xe_tupP {k} (h : xA X W es g) : xE X W (.Tuple es k pos) (eTupP g) :=
  PEimp (pe_tupP h) fun σ H Q ⟨L, δ, G, hr, er, q⟩ => Sat.bind (rep' := repD X.K) hr er q fun L1 G1 H1 ds vs le hr1 er1 rd q1 => by
    by_cases hl : ds.length ≤ sizeLine
    · rw [if_pos hl] at q1
      refine ⟨by rw [← Reps.length rd]; exact hl, fun p o hp ho => ?_⟩
      obtain ⟨a, b, c⟩ := put_pt rd hr1 hp ho
      exact q1 _ _ _ b a c
    · rw [if_neg hl] at q1; exact q1.elim
theorem xe_lst (h : xA X W es g) : xE X W (.List es pos) (eLst g) :=
  PEimp (pe_lst h) fun σ H Q ⟨L, δ, G, hr, er, q⟩ => Sat.bind (rep' := repD X.K) hr er q fun L1 G1 H1 ds vs le hr1 er1 rd q1 => by
    by_cases hl : ds.length ≤ sizeLine
    · rw [if_pos hl] at q1
      refine ⟨by rw [← Reps.length rd]; exact hl, fun p hp => ?_⟩
      obtain ⟨a, b, c⟩ := put_lst rd hr1 hp
      exact q1 _ _ _ b a c
    · rw [if_neg hl] at q1; exact q1.elim
theorem xe_lstM (h : xA X W es g) : xE X W (.List es pos) (eLstM g) :=
  PEimp (pe_lst h) fun σ H Q ⟨L, δ, G, hr, er, q⟩ => Sat.bind (rep' := repD X.K) hr er q fun L1 G1 H1 ds vs le hr1 er1 rd q1 => by
    by_cases hl : ds.length ≤ sizeLine
    · rw [if_pos hl] at q1
      refine ⟨by rw [← Reps.length rd]; exact hl, fun p hp => ?_⟩
      obtain ⟨a, b, c⟩ := add_lst rd hr1 hp
      exact q1 _ _ _ b a c
    · rw [if_neg hl] at q1; exact q1.elim

/-! ### operators by values -/
abbrev F2 := D → D → GH → R D
/-- a data operation tells what a reading asks -/
def Op2 (K : PySem.W.Frag) (f : F2) (r : R2) : Prop := ∀ (L : Lk) (G : GH) (H : Hp) (x y : D) (v u : V) (W : WX) (σ : St) (Q : VK), HR K L G H → Rep K L.Z L.r x v → Rep K L.Z L.r y u → Sat K W L σ (repD K) (f x y G) Q → r v u H Q
def eOp (f : F2) (a b : FE) : FE := fun δ G => (a δ G).bind fun x G1 => (b δ G1).bind fun y G2 => f x y G2
theorem eOp_imp {K : PySem.W.Frag} {f : F2} {r : R2} {fa fb : FE} (o : Op2 K f r) (σ : St) (H : Hp) (Q : VK) (h : tG K W (repD K) (eOp f fa fb) σ H Q) : tOp r (tG K W (repD K) fa) (tG K W (repD K) fb) σ H Q := by
  obtain ⟨L, δ, G, hr, er, q⟩ := h
  exact Sat.bind (rep' := repD K) hr er q fun L1 G1 H1 x v le hr1 er1 rx q1 => Sat.bind (rep' := repD K) hr1 er1 q1 fun L2 G2 H2 y u le2 hr2 er2 ry q2 =>
    o L2 G2 H2 x y v u _ _ Q hr2 (rx.mono le2) ry q2
variable {a b c : Expr} {fa fb fc : FE} {f f' : F2} {r r' : R2}
theorem xe_op {op : Operator} (ho : OpR X (binaryOp op) r) (o : Op2 X.K f r) (ha : xE X W a fa) (hb : xE X W b fb) : xE X W (.BinOp a op b pos) (eOp f fa fb) := PEimp (pe_op ho ha hb) (eOp_imp o)
theorem xe_cmp {op : CmpOp} (ho : OpR X (compareOp op) r) (o : Op2 X.K f r) (ha : xE X W a fa) (hb : xE X W b fb) (hm : behindInMarks op b = false) : xE X W (.Compare a [op] [b] pos) (eOp f fa fb) := PEimp (pe_cmpR ho ha hb hm) (eOp_imp o)
theorem Op2.or {K : PySem.W.Frag} {f g : F2} {r r' : R2} (p : D → D → GH → Bool) (h : Op2 K f r) (h' : Op2 K g r') : Op2 K (fun x y G => if p x y G then f x y G else g x y G) (fun x y H Q => r x y H Q ∨ r' x y H Q) := fun L G H x y v u W σ Q hr rx ry q => by
  have q : Sat K W L σ (repD K) (if p x y G = true then f x y G else g x y G) Q := q
  by_cases e : p x y G = true
  · rw [if_pos e] at q; exact .inl (h L G H x y v u W σ Q hr rx ry q)
  · rw [if_neg e] at q; exact .inr (h' L G H x y v u W σ Q hr rx ry q)

/-! ### tests -/
/-- a bool's result -/
def asB (f : FE) : FT := fun δ G => (f δ G).bind fun d G1 => match d with
  | .bl b => .ok b G1
  | _ => .no
theorem asB_imp {K : PySem.W.Frag} {f : FE} (σ : St) (H : Hp) (Q : Bool → Hp → Prop) (h : tG K W repB (asB f) σ H Q) : tTest (tG K W (repD K) f) σ H Q := by
  obtain ⟨L, δ, G, hr, er, q⟩ := h
  refine Sat.bind (rep' := repB) hr er q fun L1 G1 H1 x v le hr1 er1 rx q1 => ?_
  cases rx with
  | bl b => exact ⟨b, rfl, q1 L1 H1 b (.refl _) hr1 rfl⟩
  | _ => exact q1.elim
theorem xt_cmp {op : CmpOp} (ho : OpR X (compareOp op) r) (o : Op2 X.K f r) (ha : xE X W a fa) (hb : xE X W b fb) (hm : behindInMarks op b = false) : xT X W (.Compare a [op] [b] pos) (asB (eOp f fa fb)) :=
  PTimp (pt_cmpR ho ha hb hm) fun σ H Q h => by
    have q := asB_imp σ H Q h
    obtain ⟨L, δ, G, hr, er, s⟩ := q
    exact eOp_imp o σ H _ ⟨L, δ, G, hr, er, s⟩
/-- x op y op' z -/
def eChain (f f' : F2) (a b c : FE) : FE := fun δ G => (a δ G).bind fun x G1 => (b δ G1).bind fun y G2 => (f x y G2).bind fun k G3 => match k with
  | .bl true => (c δ G3).bind fun z G4 => f' y z G4
  | .bl false => .ok (.bl false) G3
  | _ => .no
theorem eChain_imp {K : PySem.W.Frag} (o : Op2 K f r) (o' : Op2 K f' r') (σ : St) (H : Hp) (Q : VK) (h : tG K W (repD K) (eChain f f' fa fb fc) σ H Q) :
    tChain r r' (tG K W (repD K) fa) (tG K W (repD K) fb) (tG K W (repD K) fc) σ H Q := by
  obtain ⟨L, δ, G, hr, er, q⟩ := h
  refine Sat.bind (rep' := repD K) hr er q fun L1 G1 H1 x v le hr1 er1 rx q1 => Sat.bind (rep' := repD K) hr1 er1 q1 fun L2 G2 H2 y u le2 hr2 er2 ry q2 => ?_
  refine o L2 G2 H2 x y v u W σ _ hr2 (rx.mono le2) ry ?_
  cases e : f x y G2 with
  | ok k G3 =>
    rw [e] at q2
    intro L3 H3 w le3 hr3 rk
    have q3 : Sat K W L3 σ (repD K) _ Q := Sat.mono q2 le3
    have rk' : Rep K L3.Z L3.r k w := rk
    cases rk' with
    | bl b =>
      refine ⟨b, rfl, ?_⟩
      cases b with
      | true =>
        rw [if_pos rfl]
        exact Sat.bind (rep' := repD K) hr3 (er2.mono le3) q3 fun L4 G4 H4 z t le4 hr4 er4 rz q4 => o' L4 G4 H4 y z u t W σ Q hr4 ((ry.mono le3).mono le4) rz q4
      | false =>
        rw [if_neg Bool.false_ne_true]
        exact q3 L3 H3 _ (.refl _) hr3 (.bl false)
    | _ => exact q3.elim
  | ex x' G3 => rw [e] at q2; exact q2
  | no => rw [e] at q2; exact q2
theorem xe_chain {op op' : CmpOp} (ho : OpR X (compareOp op) r) (o : Op2 X.K f r) (ho' : OpR X (compareOp op') r') (o' : Op2 X.K f' r') (ha : xE X W a fa) (hb : xE X W b fb) (hc : xE X W c fc)
    (hm : lastMarks [op, op'] [b, c] = false := by with_unfolding_all rfl) : xE X W (.Compare a [op, op'] [b, c] pos) (eChain f f' fa fb fc) := PEimp (pe_chain ho ho' ha hb hc hm) (eChain_imp o o')
theorem xt_chain {op op' : CmpOp} (ho : OpR X (compareOp op) r) (o : Op2 X.K f r) (ho' : OpR X (compareOp op') r') (o' : Op2 X.K f' r') (ha : xE X W a fa) (hb : xE X W b fb) (hc : xE X W c fc)
    (hm : lastMarks [op, op'] [b, c] = false := by with_unfolding_all rfl) : xT X W (.Compare a [op, op'] [b, c] pos) (asB (eChain f f' fa fb fc)) := PTimp (pt_chain ho ho' ha hb hc hm) fun σ H Q h => by
  obtain ⟨L, δ, G, hr, er, s⟩ := asB_imp σ H Q h
  exact eChain_imp o o' σ H _ ⟨L, δ, G, hr, er, s⟩
def tAndD (f g : FT) : FT := fun δ G => (f δ G).bind fun k G1 => if k then g δ G1 else .ok false G1
def tOrD (f g : FT) : FT := fun δ G => (f δ G).bind fun k G1 => if k then .ok true G1 else g δ G1
def tNotD (f : FT) : FT := fun δ G => (f δ G).bind fun k G1 => .ok (!k) G1
variable {A B : FT} {rest : List Expr}
theorem xw_and1 (h : xT X W a A) : xW X W (.BoolOp .And [a] pos) A := pw_and1 h
theorem xw_or1 (h : xT X W a A) : xW X W (.BoolOp .Or [a] pos) A := pw_or1 h
theorem xw_and (h : xT X W a A) (k : xW X W (.BoolOp .And (b :: rest) pos) B) : xW X W (.BoolOp .And (a :: b :: rest) pos) (tAndD A B) :=
  PWimp (pw_and h k) fun σ H Q ⟨L, δ, G, hr, er, q⟩ => Sat.bind (rep' := repB) hr er q fun L1 G1 H1 x v le hr1 er1 rx q1 => by
    have rx' : x = v := rx
    subst rx'
    cases x with
    | true => rw [if_pos rfl]; exact ⟨L1, δ, G1, hr1, er1, q1⟩
    | false => rw [if_neg Bool.false_ne_true]; exact q1 L1 H1 false (.refl _) hr1 rfl
theorem xw_or (h : xT X W a A) (k : xW X W (.BoolOp .Or (b :: rest) pos) B) : xW X W (.BoolOp .Or (a :: b :: rest) pos) (tOrD A B) :=
  PWimp (pw_or h k) fun σ H Q ⟨L, δ, G, hr, er, q⟩ => Sat.bind (rep' := repB) hr er q fun L1 G1 H1 x v le hr1 er1 rx q1 => by
    have rx' : x = v := rx
    subst rx'
    cases x with
    | true => rw [if_pos rfl]; exact q1 L1 H1 true (.refl _) hr1 rfl
    | false => rw [if_neg Bool.false_ne_true]; exact ⟨L1, δ, G1, hr1, er1, q1⟩
theorem xt_w {e : Expr} (h : xW X W e A) : xT X W e A := PW.pt h
theorem xt_not (h : xT X W a A) : xT X W (.UnaryOp .Not a pos) (tNotD A) :=
  PTimp (pt_not h) fun σ H Q ⟨L, δ, G, hr, er, q⟩ => Sat.bind (rep' := repB) hr er q fun L1 G1 H1 x v le hr1 er1 rx q1 => by
    have rx' : x = v := rx
    subst rx'
    exact q1 L1 H1 (!x) (.refl _) hr1 rfl
/-- a value's truth -/
def truD (G : GH) : D → Option Bool
  | .non => some false
  | .bl b => some b
  | .int i => some (i != 0)
  | .str x => if x.length ≤ sizeLine then some (x.length != 0) else none
  | .tup xs => some (!xs.isEmpty)
  | .pt xs => some (!xs.isEmpty)
  | .lst xs => some (!xs.isEmpty)
  | .scr xs => some (!xs.isEmpty)
  | .ref n => match G[n]? with
    | some (.lst xs) => some (!xs.isEmpty)
    | some (.dK xs) => some (!xs.isEmpty)
    | _ => none
  | _ => none
theorem isEmpty_reps {K : PySem.W.Frag} {Z : Hp} {r : List Addr} {ds : List D} {vs : List V} (h : Reps K Z r ds vs) : (!ds.isEmpty) = !vs.isEmpty := by cases h <;> rfl
theorem truD_rep {K : PySem.W.Frag} {L : Lk} {G : GH} {H : Hp} {d : D} {v : V} {k : Bool} (hr : HR K L G H) (h : Rep K L.Z L.r d v) (e : truD G d = some k) : TruV K v H k := by
  have seq : ∀ {ds}, lstOf G d = some ds → k = !ds.isEmpty → TruV K v H k := fun {ds} e1 e2 => by
    obtain ⟨p, vs, rfl, s, t⟩ := lst_rep hr h e1
    exact .inl ⟨vs, s, by rw [e2, isEmpty_reps t]⟩
  cases h with
  | non => cases e; rfl
  | bl b => cases e; rfl
  | int i => cases e; rfl
  | str x =>
    have e' : (if x.length ≤ sizeLine then some (x.length != 0) else none) = some k := e
    by_cases hl : x.length ≤ sizeLine
    · rw [if_pos hl] at e'
      cases e'
      refine ⟨hl, ?_⟩
      by_cases z : x.length = 0
      · rw [z]; rfl
      · have : ((x.length : Int) != 0) = true := by simp; omega
        rw [this]; simpa using z
    · rw [if_neg hl] at e'; cases e'
  | tup z t =>
    cases e
    obtain ⟨p, vs, e1, s, t'⟩ := tup_rep hr (.tup z t)
    cases e1
    exact .inr (.inl ⟨vs, s, isEmpty_reps t'⟩)
  | pt z k t =>
    cases e
    obtain ⟨p, vs, e1, s, t'⟩ := tupOf_rep hr (.pt z k t) rfl
    cases e1
    exact .inr (.inl ⟨vs, s, isEmpty_reps t'⟩)
  | lst z t => exact seq rfl (by cases e; rfl)
  | scr z t => exact seq rfl (by cases e; rfl)
  | @ref n a q =>
    have hn : n < G.length := by rw [← hr.len]; exact (List.getElem?_eq_some_iff.mp q).1
    have c := hr.cell n a G[n] q (by simp [hn])
    have e' : (match G[n]? with | some (.lst xs) => some (!xs.isEmpty) | some (.dK xs) => some (!xs.isEmpty) | _ => none) = some k := e
    rw [List.getElem?_eq_getElem hn] at e'
    cases k' : G[n] with
    | lst xs =>
      rw [k'] at e'; cases e'
      exact seq (by rw [lstOf_ref, List.getElem?_eq_getElem hn, k']) rfl
    | dK xs =>
      rw [k'] at e' c; cases e'
      cases c with
      | dK h1 h2 h3 =>
        refine .inr (.inr ⟨_, h1, ?_⟩)
        have hl := congrArg List.length h2
        simp only [List.length_map] at hl
        rename_i kvs
        cases xs <;> cases kvs <;> simp at hl ⊢
    | _ => rw [k'] at e'; cases e'
  | _ => cases e
def eTru (f : FE) : FT := fun δ G => (f δ G).bind fun d G1 => match truD G1 d with
  | some b => .ok b G1
  | none => .no
theorem xt_tru {e : Expr} {f : FE} (h : xE X W e f) (he : ∀ whole, isTrue e X.env whole = (do let v ← whole; standAt e.pos; holding [v] (truthy v)) := by intro _; rfl) : xT X W e (eTru f) :=
  PTimp (pt_truth h he) fun σ H Q ⟨L, δ, G, hr, er, q⟩ => Sat.bind (rep' := repB) hr er q fun L1 G1 H1 x v le hr1 er1 rx q1 => by
    cases e' : truD G1 x with
    | none => rw [e'] at q1; exact q1.elim
    | some b =>
      rw [e'] at q1
      exact ⟨b, truD_rep hr1 rx e', q1 L1 H1 b (.refl _) hr1 rfl⟩
def eIf (t : FT) (f g : FE) : FE := fun δ G => (t δ G).bind fun k G1 => if k then f δ G1 else g δ G1
theorem xe_if {t : FT} (h : xT X W c t) (ha : xE X W a fa) (hb : xE X W b fb) : xE X W (.IfExp c a b pos) (eIf t fa fb) :=
  PEimp (pe_ifExp h ha hb) fun σ H Q ⟨L, δ, G, hr, er, q⟩ => Sat.bind (rep' := repD X.K) hr er q fun L1 G1 H1 x v le hr1 er1 rx q1 => by
    have rx' : x = v := rx
    subst rx'
    cases x with
    | true => rw [if_pos rfl]; exact ⟨L1, δ, G1, hr1, er1, q1⟩
    | false => rw [if_neg Bool.false_ne_true]; exact ⟨L1, δ, G1, hr1, er1, q1⟩

/-! ### statements -/
def sNext : FS := fun δ G => .nx δ G
def sSeq (f g : FS) : FS := fun δ G => (f δ G).seq g
def sRet (f : FE) : FS := fun δ G => (f δ G).thn δ fun d G1 => .rt d G1
def sRetN : FS := fun _ G => .rt .non G
def sIf (t : FT) (f g : FS) : FS := fun δ G => (t δ G).thn δ fun k G1 => if k then f δ G1 else g δ G1
def sSet (i : Nat) (f : FE) : FS := fun δ G => (f δ G).thn δ fun d G1 => .nx (δ.set i (some d)) G1
def sDrop (f : FE) : FS := fun δ G => (f δ G).thn δ fun _ G1 => .nx δ G1
def sBreak : FS := fun δ G => .bk δ G
def sCont : FS := fun δ G => .ct δ G
variable {st : Stmt} {sts : List Stmt} {s1 s2 : FS}
theorem xs_nil : xSs X W [] sNext := PSsimp pss_nil fun E σ H ⟨L, δ, G, hr, er, q⟩ => q L σ H (.refl _) hr er
theorem xs_cons (h : xS X W st s1) (t : xSs X W sts s2) : xSs X W (st :: sts) (sSeq s1 s2) :=
  PSsimp (pss_cons h t) fun E σ H ⟨L, δ, G, hr, er, q⟩ => by
    refine ⟨L, δ, G, hr, er, ?_⟩
    have q' : SatS X.K W L ((s1 δ G).seq s2) E := q
    cases e : s1 δ G with
    | nx δ1 G1 =>
      rw [e] at q'
      exact fun L1 σ1 H1 le hr1 er1 => ⟨L1, δ1, G1, hr1, er1, SatS.mono (L := L) (r := s2 δ1 G1) q' le⟩
    | _ => rw [e] at q'; exact q'
theorem xs_one (h : xS X W st s1) : xSs X W [st] s1 := pss_one h
theorem xs_pass : xS X W (.Pass pos) sNext := PSimp ps_pass fun E σ H ⟨L, δ, G, hr, er, q⟩ => q L σ H (.refl _) hr er
theorem xs_break : xS X W (.Break pos) sBreak := PSimp ps_break fun E σ H ⟨L, δ, G, hr, er, q⟩ => q L σ H (.refl _) hr er
theorem xs_cont : xS X W (.Continue pos) sCont := PSimp ps_continue fun E σ H ⟨L, δ, G, hr, er, q⟩ => q L σ H (.refl _) hr er
theorem xs_expr {e : Expr} {f : FE} (h : xE X W e f) (hs : swapsWith e none pos.line X.env = pure false := by rfl) : xS X W (.Expr e pos) (sDrop f) :=
  PSimp (ps_expr h hs) fun E σ H ⟨L, δ, G, hr, er, q⟩ => Sat.thn hr er q fun L1 G1 H1 d v le hr1 er1 rd q1 => q1 L1 σ H1 (.refl _) hr1 er1
theorem xs_ret {e : Expr} {f : FE} (h : xE X W e f) : xS X W (.Return (some e) pos) (sRet f) :=
  PSimp (ps_ret h) fun E σ H ⟨L, δ, G, hr, er, q⟩ => Sat.thn hr er q fun L1 G1 H1 d v le hr1 er1 rd q1 => q1 L1 H1 v (.refl _) hr1 rd
theorem xs_retN : xS X W (.Return none pos) sRetN := PSimp ps_retN fun E σ H ⟨L, δ, G, hr, er, q⟩ => q L H .non (.refl _) hr .non
theorem xs_if {t : FT} {ts es : List Stmt} (h : xT X W c t) (h1 : xSs X W ts s1) (h2 : xSs X W es s2) : xS X W (.If c ts es pos) (sIf t s1 s2) :=
  PSimp (ps_if h h1 h2) fun E σ H ⟨L, δ, G, hr, er, q⟩ => Sat.thn hr er q fun L1 G1 H1 x v le hr1 er1 rx q1 => by
    have rx' : x = v := rx
    subst rx'
    cases x with
    | true => rw [if_pos rfl]; exact ⟨L1, δ, G1, hr1, er1, q1⟩
    | false => rw [if_neg Bool.false_ne_true]; exact ⟨L1, δ, G1, hr1, er1, q1⟩

/-! ### targets -/
/-- a target takes a value; vs: the slots that it may set -/
abbrev FG := D → DEnv → GH → RS
def tGt (K : PySem.W.Frag) (vs : List Nat) (g : FG) : TG := fun v σ H Q => ∃ L d δ G, HR K L G H ∧ ER K L δ σ ∧ Rep K L.Z L.r d v ∧ (match g d δ G with
  | .nx δ' G' => ∀ L' σ' H', L.le L' → HR K L' G' H' → ER K L' δ' σ' → wipe σ' vs = wipe σ vs → Q σ' H'
  | _ => False)
def xG (X : Cx) (vs : List Nat) (t : Expr) (g : FG) : Prop := PG X t (tGt X.K vs g)
theorem PGimp {X : Cx} {e : Expr} {t t' : TG} (h : PG X e t) (i : ∀ v σ H Q, t' v σ H Q → t v σ H Q) : PG X e t' := ⟨fun pins s σ H v u Q I r q => h.run pins s σ H v u Q I r (i _ _ _ _ q)⟩
theorem wipe_set {σ : St} {i : Nat} {x : Option V} : ∀ {vs : List Nat}, i ∈ vs → wipe (σ.set i x) vs = wipe σ vs
  | [], h => by cases h
  | v :: vs, h => by
    unfold wipe
    by_cases e : i ∈ vs
    · rw [wipe_set e]
    · have hv : i = v := (List.mem_cons.mp h).resolve_right e
      subst hv
      have key : ∀ {us : List Nat} {τ : St}, i ∉ us → wipe (τ.set i x) us = (wipe τ us).set i x := by
        intro us
        induction us with
        | nil => intro τ _; rfl
        | cons u us ih =>
          intro τ hu
          unfold wipe
          rw [ih fun z => hu (List.mem_cons_of_mem _ z)]
          exact List.set_comm _ _ fun z => hu (by rw [z]; exact List.mem_cons_self ..)
      rw [key e, List.set_set]
def gNm (i : Nat) : FG := fun d δ G => .nx (δ.set i (some d)) G
theorem xg_name {i : Nat} {x : Str} {vs : List Nat} (hN : X.N.Nodup) (hi : X.N[i]? = some x) (hx : Loc X.env.scope x) (hv : i ∈ vs := by decide) (hf : X.fn x = true ∨ X.env.scope.names.lookup x = some .local := by first | exact .inl rfl | exact .inr rfl | assumption) : xG X vs (.Name x pos) (gNm i) :=
  PGimp (pg_name hN hi hx hf) fun v σ H Q ⟨L, d, δ, G, hr, er, rd, q⟩ => q L _ H (.refl _) hr (er.set i rd) (wipe_set hv)
abbrev FGs := List D → DEnv → GH → RS
def tGts (K : PySem.W.Frag) (us : List Nat) (g : FGs) : TGs := fun vs σ H Q => ∃ L ds δ G, HR K L G H ∧ ER K L δ σ ∧ Reps K L.Z L.r ds vs ∧ (match g ds δ G with
  | .nx δ' G' => ∀ L' σ' H', L.le L' → HR K L' G' H' → ER K L' δ' σ' → wipe σ' us = wipe σ us → Q σ' H'
  | _ => False)
def xGs (X : Cx) (us : List Nat) (t : List Expr) (g : FGs) : Prop := PGs X t (tGts X.K us g)
theorem PGsimp {X : Cx} {e : List Expr} {t t' : TGs} (h : PGs X e t) (i : ∀ v σ H Q, t' v σ H Q → t v σ H Q) : PGs X e t' := ⟨fun pins s σ H v u Q I r q => h.run pins s σ H v u Q I r (i _ _ _ _ q)⟩
def gsNil : FGs := fun ds δ G => match ds with
  | [] => .nx δ G
  | _ => .no
def gsCons (g : FG) (k : FGs) : FGs := fun ds δ G => match ds with
  | d :: r => (g d δ G).seq (k r)
  | [] => .no
variable {us : List Nat}
theorem xgs_nil : xGs X us [] gsNil := PGsimp pgs_nil fun vs σ H Q ⟨L, ds, δ, G, hr, er, rd, q⟩ => by
  cases rd with
  | nil => exact ⟨rfl, q L σ H (.refl _) hr er rfl⟩
  | cons _ _ => exact q.elim
theorem xgs_cons {e : Expr} {es : List Expr} {g : FG} {k : FGs} (h : xG X us e g) (t : xGs X us es k) (hs : (assignEach (e :: es) X.env).map (·.2) = assign e X.env :: (assignEach es X.env).map (·.2) := by rfl) : xGs X us (e :: es) (gsCons g k) :=
  PGsimp (pgs_cons h t hs) fun vs σ H Q ⟨L, ds, δ, G, hr, er, rd, q⟩ => by
    cases rd with
    | nil => exact q.elim
    | @cons d v ds vs r rs =>
      refine ⟨v, vs, rfl, L, d, δ, G, hr, er, r, ?_⟩
      have q' : (match (g d δ G).seq (k ds) with | .nx δ' G' => ∀ L' σ' H', L.le L' → HR X.K L' G' H' → ER X.K L' δ' σ' → wipe σ' us = wipe σ us → Q σ' H' | _ => False) := q
      cases e : g d δ G with
      | nx δ1 G1 =>
        rw [e] at q'
        have q2 : (match k ds δ1 G1 with | .nx δ' G' => ∀ L' σ' H', L.le L' → HR X.K L' G' H' → ER X.K L' δ' σ' → wipe σ' us = wipe σ us → Q σ' H' | _ => False) := q'
        intro L1 σ1 H1 le hr1 er1 w1
        refine ⟨L1, ds, δ1, G1, hr1, er1, rs.mono le, ?_⟩
        cases e2 : k ds δ1 G1 with
        | nx δ2 G2 => rw [e2] at q2; exact fun L2 σ2 H2 le2 hr2 er2 w2 => q2 L2 σ2 H2 (le.trans le2) hr2 er2 (w2.trans w1)
        | _ => rw [e2] at q2; exact q2.elim
      | _ => rw [e] at q'; exact q'.elim
def gTp (n : Nat) (k : FGs) : FG := fun d δ G => match d with
  | .tup ds => if ds.length = n then k ds δ G else .no
  | _ => .no
theorem xg_tup {es : List Expr} {kk : Nat} {k : FGs} {n : Nat} (hc : X.calm = true) (h : xGs X us es k) (hn : (assignEach es X.env).length = n := by rfl) (hst : (assignEach es X.env).findIdx? (·.1) = none := by rfl) : xG X us (.Tuple es kk pos) (gTp n k) :=
  PGimp (pg_tup hc h hn hst) fun v σ H Q ⟨L, d, δ, G, hr, er, rd, q⟩ => by
    cases rd with
    | @tup p vs ds z t =>
      obtain ⟨p', vs', e1, s, t'⟩ := tup_rep hr (.tup z t)
      cases e1
      have q' : (match (if ds.length = n then k ds δ G else .no) with | .nx δ' G' => ∀ L' σ' H', L.le L' → HR X.K L' G' H' → ER X.K L' δ' σ' → wipe σ' us = wipe σ us → Q σ' H' | _ => False) := q
      by_cases hl : ds.length = n
      · rw [if_pos hl] at q'
        exact ⟨p, vs', rfl, s, by rw [← Reps.length t']; exact hl, L, ds, δ, G, hr, er, t', q'⟩
      · rw [if_neg hl] at q'; exact q'.elim
    | _ => exact q.elim
def sAsg (f : FE) (g : FG) : FS := fun δ G => (f δ G).thn δ fun d G1 => match g d δ G1 with
  | .nx δ' G' => .nx δ' G'
  | _ => .no
theorem xs_asg {tg e : Expr} {f : FE} {g : FG} (he : xE X W e f) (hg : xG X us tg g) (hs : swapsWithSole [tg] e pos.line X.env = pure false := by rfl) (hw : swappedStores [tg] e X.env = pure none := by rfl)
    (h1 : (assignEach [tg] X.env).map (·.2) = [assign tg X.env] := by rfl) : xS X W (.Assign [tg] e pos) (sAsg f g) :=
  PSimp (ps_asg he hg hs hw h1) fun E σ H ⟨L, δ, G, hr, er, q⟩ => Sat.thn hr er q fun L1 G1 H1 d v le hr1 er1 rd q1 => by
    refine ⟨L1, d, δ, G1, hr1, er1, rd, ?_⟩
    cases e : g d δ G1 with
    | nx δ' G' => rw [e] at q1; exact fun L' σ' H' le hr er _ => q1 L' σ' H' le hr er
    | _ => rw [e] at q1; exact q1.elim
theorem sAsg_nm (i : Nat) (f : FE) : sAsg f (gNm i) = sSet i f := rfl
theorem xs_set {i : Nat} {x : Str} {e : Expr} {p : Pos} {f : FE} (hN : X.N.Nodup) (hi : X.N[i]? = some x) (hx : Loc X.env.scope x) (he : xE X W e f)
    (hf : X.fn x = true ∨ X.env.scope.names.lookup x = some .local := by first | exact .inl rfl | exact .inr rfl | assumption) (hs : swapsWithSole [.Name x p] e pos.line X.env = pure false := by rfl)
    (hw : swappedStores [.Name x p] e X.env = pure none := by rfl) : xS X W (.Assign [.Name x p] e pos) (sSet i f) := xs_asg he (xg_name (vs := [i]) hN hi hx (List.mem_singleton.mpr rfl) hf) hs hw rfl
end
end CF
end
section
set_option maxRecDepth 100000
set_option maxHeartbeats 1000000
/-! Operators and built-ins of the data level. -/
namespace CF
open PySem PySem.Spec PyProof.Rows L2

/-! ### data as the library's data -/
mutual
def D.py : D → Option PyData
  | .non => some .none
  | .bl b => some (.bool b)
  | .int i => some (.int i)
  | .str x => if PyData.strOk x then some (.str x) else none
  | .tup xs => match D.pyAll xs with
    | some ys => some (.tuple ys)
    | none => none
  | .pt xs => match D.pyAll xs with
    | some ys => some (.tuple ys)
    | none => none
  | .lst xs => match D.pyAll xs with
    | some ys => some (.list ys)
    | none => none
  | .scr xs => match D.pyAll xs with
    | some ys => some (.list ys)
    | none => none
  | .dK _ => none
  | .dT _ => none
  | .ins _ _ => none
  | .ref _ => none
def D.pyAll : List D → Option (List PyData)
  | [] => some []
  | x :: r => match D.py x, D.pyAll r with
    | some y, some ys => some (y :: ys)
    | _, _ => none
end
/-- a cell's list as a list -/
def res (G : GH) : D → D
  | .ref n => match G[n]? with
    | some (.lst xs) => .lst xs
    | _ => .ref n
  | d => d
@[simp] theorem res_pt (G : GH) (xs : List D) : res G (.pt xs) = .pt xs := rfl
@[simp] theorem res_tup (G : GH) (xs : List D) : res G (.tup xs) = .tup xs := rfl
@[simp] theorem res_lst (G : GH) (xs : List D) : res G (.lst xs) = .lst xs := rfl
@[simp] theorem res_int (G : GH) (x : Int) : res G (.int x) = .int x := rfl
@[simp] theorem res_str (G : GH) (x : Str) : res G (.str x) = .str x := rfl
@[simp] theorem res_bl (G : GH) (x : Bool) : res G (.bl x) = .bl x := rfl
@[simp] theorem res_non (G : GH) : res G .non = .non := rfl
theorem lay_shaped {d : PyData} (h : d.canLay0 = true) (k : d.depth ≤ 64) : SeqAt.shaped d = true := by
  unfold SeqAt.shaped
  rw [h, decide_eq_true k]; rfl
section
variable {K : PySem.W.Frag} {L : Lk} {G : GH} {H : Hp}
mutual
theorem py_rep (hr : HR K L G H) : ∀ (x : D) (v : V) (d : PyData), Rep K L.Z L.r x v → x.py = some d → Dp K H v d ∧ d.canLay0 = true
  | .non, _, _, h, e => by cases h; cases e; exact ⟨.non, rfl⟩
  | .bl b, _, _, h, e => by cases h; cases e; exact ⟨.bl b, rfl⟩
  | .int i, _, _, h, e => by cases h; cases e; exact ⟨.int i, rfl⟩
  | .str x, _, _, h, e => by
    cases h
    rw [D.py] at e
    by_cases k : PyData.strOk x = true
    · rw [if_pos k] at e; cases e; exact ⟨.str x, by rw [PyData.canLay0]; exact k⟩
    · rw [if_neg k] at e; cases e
  | .tup xs, _, _, h, e => by
    rw [D.py] at e
    cases q : D.pyAll xs with
    | none => rw [q] at e; cases e
    | some ys =>
      rw [q] at e; cases e
      obtain ⟨p, vs, rfl, s, t⟩ := tup_rep hr h
      obtain ⟨a, b⟩ := pyAll_rep hr xs vs ys t q
      exact ⟨.tup s a, by rw [PyData.canLay0]; exact b⟩
  | .pt xs, _, _, h, e => by
    rw [D.py] at e
    cases q : D.pyAll xs with
    | none => rw [q] at e; cases e
    | some ys =>
      rw [q] at e; cases e
      obtain ⟨p, vs, rfl, s, t⟩ := tupOf_rep (ds := xs) hr h rfl
      obtain ⟨a, b⟩ := pyAll_rep hr xs vs ys t q
      exact ⟨.tup s a, by rw [PyData.canLay0]; exact b⟩
  | .lst xs, _, _, h, e => by
    rw [D.py] at e
    cases q : D.pyAll xs with
    | none => rw [q] at e; cases e
    | some ys =>
      rw [q] at e; cases e
      obtain ⟨p, vs, rfl, s, t⟩ := lst_rep (ds := xs) hr h rfl
      obtain ⟨a, b⟩ := pyAll_rep hr xs vs ys t q
      exact ⟨.lst s a, by rw [PyData.canLay0]; exact b⟩
  | .scr xs, _, _, h, e => by
    rw [D.py] at e
    cases q : D.pyAll xs with
    | none => rw [q] at e; cases e
    | some ys =>
      rw [q] at e; cases e
      obtain ⟨p, vs, rfl, s, t⟩ := lst_rep (ds := xs) hr h rfl
      obtain ⟨a, b⟩ := pyAll_rep hr xs vs ys t q
      exact ⟨.lst s a, by rw [PyData.canLay0]; exact b⟩
  | .dK _, _, _, _, e => by rw [D.py] at e; cases e
  | .dT _, _, _, _, e => by rw [D.py] at e; cases e
  | .ins _ _, _, _, _, e => by rw [D.py] at e; cases e
  | .ref _, _, _, _, e => by rw [D.py] at e; cases e
theorem pyAll_rep (hr : HR K L G H) : ∀ (xs : List D) (vs : List V) (ds : List PyData), Reps K L.Z L.r xs vs → D.pyAll xs = some ds → DpAll K H vs ds ∧ PyData.canLayAll0 ds = true
  | [], _, _, h, e => by cases h; rw [D.pyAll] at e; cases e; exact ⟨.nil, rfl⟩
  | x :: r, _, _, h, e => by
    cases h with
    | cons h1 h2 =>
      rw [D.pyAll] at e
      cases q1 : D.py x with
      | none => rw [q1] at e; cases e
      | some y =>
        cases q2 : D.pyAll r with
        | none => rw [q1, q2] at e; cases e
        | some ys =>
          rw [q1, q2] at e; cases e
          obtain ⟨a, b⟩ := py_rep hr x _ y h1 q1
          obtain ⟨c, d⟩ := pyAll_rep hr r _ ys h2 q2
          exact ⟨.cons a c, by rw [PyData.canLayAll0, b, d]; rfl⟩
end
theorem res_rep (hr : HR K L G H) {x : D} {v : V} {d : PyData} (h : Rep K L.Z L.r x v) (e : (res G x).py = some d) : Dp K H v d ∧ d.canLay0 = true := by
  cases h with
  | @ref n a q =>
    have hn : n < G.length := by rw [← hr.len]; exact (List.getElem?_eq_some_iff.mp q).1
    have e' : (match G[n]? with | some (.lst xs) => D.lst xs | _ => .ref n).py = some d := e
    rw [List.getElem?_eq_getElem hn] at e'
    cases k : G[n] with
    | lst xs =>
      rw [k] at e'
      have e2 : (D.lst xs).py = some d := e'
      rw [D.py] at e2
      cases z : D.pyAll xs with
      | none => rw [z] at e2; cases e2
      | some ys =>
        rw [z] at e2; cases e2
        obtain ⟨p, vs, ev, s, t⟩ := lst_rep (ds := xs) hr (.ref q) (by rw [lstOf_ref, List.getElem?_eq_getElem hn, k])
        obtain ⟨a', b⟩ := pyAll_rep hr xs vs ys t z
        rw [ev]
        exact ⟨.lst s a', by rw [PyData.canLay0]; exact b⟩
    | _ =>
      rw [k] at e'
      have e2 : (D.ref n).py = some d := e'
      rw [D.py] at e2
      cases e2
  | non => exact py_rep hr _ _ _ .non e
  | bl b => exact py_rep hr _ _ _ (.bl b) e
  | int b => exact py_rep hr _ _ _ (.int b) e
  | str b => exact py_rep hr _ _ _ (.str b) e
  | tup z t => exact py_rep hr _ _ _ (.tup z t) e
  | pt z k t => exact py_rep hr _ _ _ (.pt z k t) e
  | lst z t => exact py_rep hr _ _ _ (.lst z t) e
  | scr z t => exact py_rep hr _ _ _ (.scr z t) e
  | dK z k t => exact py_rep hr _ _ _ (.dK z k t) e
  | dT z k t => exact py_rep hr _ _ _ (.dT z k t) e
  | ins z k t => exact py_rep hr _ _ _ (.ins z k t) e
end

/-- x == y, where both are data -/
def pyEq (G : GH) (x y : D) : Option Bool := match (res G x).py, (res G y).py with
  | some d, some e => if d.depth ≤ 64 ∧ e.depth ≤ 64 then some (PyData.eqv d e) else none
  | _, _ => none
def dEq : F2 := fun x y G => match pyEq G x y with
  | some b => .ok (.bl b) G
  | none => .no
def dNe : F2 := fun x y G => match pyEq G x y with
  | some b => .ok (.bl (!b)) G
  | none => .no
section
variable {X : Cx}
theorem pyEq_rep {K : PySem.W.Frag} {L : Lk} {G : GH} {H : Hp} (hr : HR K L G H) {x y : D} {v u : V} {b : Bool} (rx : Rep K L.Z L.r x v) (ry : Rep K L.Z L.r y u) (e : pyEq G x y = some b) :
    ∃ d d', Dp K H v d ∧ Dp K H u d' ∧ SeqAt.shaped d = true ∧ SeqAt.shaped d' = true ∧ PyData.eqv d d' = b := by
  unfold pyEq at e
  cases q1 : (res G x).py with
  | none => rw [q1] at e; cases e
  | some d =>
    cases q2 : (res G y).py with
    | none => rw [q1, q2] at e; cases e
    | some d' =>
      rw [q1, q2] at e
      have e' : (if d.depth ≤ 64 ∧ d'.depth ≤ 64 then some (PyData.eqv d d') else none) = some b := e
      by_cases k : d.depth ≤ 64 ∧ d'.depth ≤ 64
      · rw [if_pos k] at e'
        obtain ⟨a1, b1⟩ := res_rep hr rx q1
        obtain ⟨a2, b2⟩ := res_rep hr ry q2
        exact ⟨d, d', a1, a2, lay_shaped b1 k.1, lay_shaped b2 k.2, Option.some.inj e'⟩
      · rw [if_neg k] at e'; cases e'
theorem o2_eq {K : PySem.W.Frag} : Op2 K dEq (rEqD K) := fun L G H x y v u W σ Q hr rx ry q => by
  unfold dEq at q
  cases e : pyEq G x y with
  | none => rw [e] at q; exact q.elim
  | some b =>
    rw [e] at q
    obtain ⟨d, d', h1, h2, h3, h4, h5⟩ := pyEq_rep hr rx ry e
    refine ⟨d, d', h1, h2, h3, h4, ?_⟩
    rw [h5]
    exact q L H _ (.refl L) hr (.bl b)
theorem o2_ne {K : PySem.W.Frag} : Op2 K dNe (rNeD K) := fun L G H x y v u W σ Q hr rx ry q => by
  unfold dNe at q
  cases e : pyEq G x y with
  | none => rw [e] at q; exact q.elim
  | some b =>
    rw [e] at q
    obtain ⟨d, d', h1, h2, h3, h4, h5⟩ := pyEq_rep hr rx ry e
    refine ⟨d, d', h1, h2, h3, h4, ?_⟩
    rw [h5]
    exact q L H _ (.refl L) hr (.bl (!b))

/-! ### numbers -/
/-- an int operation -/
def dI (c : Int → Int → Bool) (f : Int → Int → Int) : F2 := fun x y G => match x, y with
  | .int i, .int j => if c i j then .ok (.int (f i j)) G else .no
  | _, _ => .no
theorem o2_int {K : PySem.W.Frag} {C : Int → Int → Prop} {c : Int → Int → Bool} {f : Int → Int → Int} (h : ∀ i j, c i j = true → C i j) : Op2 K (dI c f) (rI C fun i j => .int (f i j)) := fun L G H x y v u W σ Q hr rx ry q => by
  cases rx with
  | int i =>
    cases ry with
    | int j =>
      have q' : Sat K W L σ (repD K) (if c i j then .ok (.int (f i j)) G else .no) Q := q
      by_cases k : c i j = true
      · rw [if_pos k] at q'
        exact ⟨i, j, rfl, rfl, h i j k, q' L H _ (.refl L) hr (.int _)⟩
      · rw [if_neg k] at q'; exact q'.elim
    | _ => exact q.elim
  | _ => cases ry <;> exact q.elim
/-- an int comparison -/
def dIB (f : Int → Int → Bool) : F2 := fun x y G => match x, y with
  | .int i, .int j => .ok (.bl (f i j)) G
  | _, _ => .no
theorem o2_intB {K : PySem.W.Frag} {f : Int → Int → Bool} : Op2 K (dIB f) (rI0 fun i j => .bl (f i j)) := fun L G H x y v u W σ Q hr rx ry q => by
  cases rx with
  | int i =>
    cases ry with
    | int j => exact ⟨i, j, rfl, rfl, q L H _ (.refl L) hr (.bl _)⟩
    | _ => exact q.elim
  | _ => cases ry <;> exact q.elim
abbrev dSub : F2 := dI (fun _ _ => true) (· - ·)
abbrev dMulI : F2 := dI (fun i j => decide (-(2 ^ 64) < i ∧ i < 2 ^ 64 ∨ -(2 ^ 64) < j ∧ j < 2 ^ 64)) (· * ·)
abbrev dMod : F2 := dI (fun _ j => decide (0 < j)) (· % ·)
abbrev dDiv : F2 := dI (fun _ j => decide (0 < j ∧ j < 2 ^ 64)) (· / ·)
abbrev dPow : F2 := dI (fun i j => decide (0 ≤ j ∧ j ≤ 1000000 ∧ i.natAbs < 2 ^ 64)) (fun i j => i ^ j.toNat)
abbrev dLt : F2 := dIB fun i j => decide (i < j)
abbrev dLe : F2 := dIB fun i j => decide (i ≤ j)
abbrev dGt : F2 := dIB fun i j => decide (j < i)
abbrev dGe : F2 := dIB fun i j => decide (j ≤ i)
theorem opr_sub : OpR X (binaryOp .Sub) (rI (fun _ _ => True) fun i j => .int (i - j)) := opI fun _ _ _ _ _ _ _ _ q => sub_int q
theorem o2_sub {K : PySem.W.Frag} : Op2 K dSub (rI (fun _ _ => True) fun i j => .int (i - j)) := o2_int fun _ _ _ => True.intro
theorem o2_mod {K : PySem.W.Frag} : Op2 K dMod (rI (fun _ j => 0 < j) fun i j => .int (i % j)) := o2_int fun _ _ h => of_decide_eq_true h
theorem o2_div {K : PySem.W.Frag} : Op2 K dDiv (rI CDivW fun i j => .int (i / j)) := o2_int fun i j h => by
  have h := of_decide_eq_true h
  exact wide_div (b := 64) h.1 (by omega) (by decide) (by decide)
theorem o2_pow {K : PySem.W.Frag} : Op2 K dPow (rI CPow fun i j => .int (i ^ j.toNat)) := o2_int fun i j h => (of_decide_eq_true h : 0 ≤ j ∧ j ≤ 1000000 ∧ i.natAbs < 2 ^ 64)

/-! ### + -/
def dAdd (mk : List D → GH → R D) : F2 := fun x y G => match x, y with
  | .int i, .int j => .ok (.int (i + j)) G
  | .str a, .str b => if a.length + b.length ≤ sizeLine then .ok (.str (a ++ b)) G else .no
  | .tup a, .tup b => if a.length + b.length ≤ sizeLine then .ok (.tup (a ++ b)) G else .no
  | .pt a, .pt b => if a.length + b.length ≤ sizeLine then .ok (.pt (a ++ b)) G else .no
  | x, y => match lstX G x, lstX G y with
    | some a, some b => if a.length + b.length ≤ sizeLine then mk (a ++ b) G else .no
    | _, _ => .no
/-- how a new list is told -/
def Mk (mk : List D → GH → R D) : Prop := ∀ (K : PySem.W.Frag) (L : Lk) (G : GH) (H : Hp) (ds : List D) (vs : List V) (p : Addr) (W : WX) (σ : St) (Q : VK), HR K L G H → Reps K L.Z L.r ds vs → H p = none → Sat K W L σ (repD K) (mk ds G) Q → Q (.ref p) (upd H p (.lst vs))
def mkF : List D → GH → R D := fun ds G => .ok (.lst ds) G
def mkM : List D → GH → R D := fun ds G => .ok (.ref G.length) (G ++ [.lst ds])
theorem mkF_ok : Mk mkF := fun K L G H ds vs p W σ Q hr r hp q => let ⟨a, b, c⟩ := put_lst r hr hp; q _ _ _ b a c
theorem mkM_ok : Mk mkM := fun K L G H ds vs p W σ Q hr r hp q => let ⟨a, b, c⟩ := add_lst r hr hp; q _ _ _ b a c
/-- t + u of tuples that are known to the object, told as the object -/
def rCatP : R2 := fun x y H Q => ∃ a b xs ys o o', x = .ref a ∧ y = .ref b ∧ H a = some (.frz o (.tup xs)) ∧ H b = some (.frz o' (.tup ys)) ∧ xs ≠ [] ∧ ys ≠ [] ∧ xs.length + ys.length ≤ sizeLine ∧
  ∀ p o2, H p = none → o2.dict = none → Q (.ref p) (upd H p (.frz o2 (.tup (xs ++ ys))))
theorem op_catP : OpR X (binaryOp .Add) rCatP := by
  intro pins s σ H x y v u Q I rx ry ⟨a, b, xs, ys, o, o', ex, ey, ha, hb, nx, ny, hz, q⟩
  subst ex ey
  cases rx
  cases ry
  obtain ⟨its, r1, p1, _⟩ := I.tuple (xs := xs) (.inl (.inr ⟨o, ha⟩))
  obtain ⟨its2, r2, p2, _⟩ := I.tuple (xs := ys) (.inl (.inr ⟨o', hb⟩))
  refine HT.cat_tup p1 p2 (fun z => nx (r1.nil_iff.mp z)) (fun z => absurd (r2.nil_iff.mp z) ny) (fun z => ?_) (by rw [← r1.length, ← r2.length]; exact hz)
  exact ⟨.ref s.heap.objs.size, _, I.laid (t' := s.toks) (o := .frz { cls := .type "tuple", data := .seq (its ++ its2).toArray } (.tup (xs ++ ys))) (fun b ob q => Heap.get?_push_of_some _ q) (Nat.le_refl _)
    ⟨Heap.get?_push_size _ rfl, by rw [List.length_append]; exact hz, _, r1.append r2, IsTup.new _ _⟩, rfl, q _ _ (I.hok.fresh (Nat.le_refl _)) rfl⟩
def rAddA (K : PySem.W.Frag) : R2 := fun x y H Q => (((rI0 (fun i j => .int (i + j)) x y H Q ∨ (∃ i j, x = .str i ∧ y = .str j ∧ i.length + j.length ≤ sizeLine ∧ Q (.str (i ++ j)) H)) ∨ rCatA K x y H Q) ∨ rCat x y H Q) ∨ rCatP x y H Q
theorem opr_add : OpR X (binaryOp .Add) (rAddA X.K) := (((op_add.or op_add_str).or op_catA).or op_cat).or op_catP
theorem o2_add {K : PySem.W.Frag} {mk : List D → GH → R D} (m : Mk mk) : Op2 K (dAdd mk) (rAddA K) := fun L G H x y v u W σ Q hr rx ry q => by
  have lists : ∀ a b, lstX G x = some a → lstX G y = some b → Sat K W L σ (repD K) (if a.length + b.length ≤ sizeLine then mk (a ++ b) G else .no) Q → rAddA K v u H Q := fun a b e1 e2 q => by
    obtain ⟨p1, vs, rfl, h1, t1⟩ := lstX_rep hr rx e1
    obtain ⟨p2, us, rfl, h2, t2⟩ := lstX_rep hr ry e2
    by_cases k : a.length + b.length ≤ sizeLine
    · rw [if_pos k] at q
      exact .inl <| .inr ⟨p1, p2, vs, us, rfl, rfl, h1, h2, by rw [← Reps.length t1, ← Reps.length t2]; exact k, fun p hp => m K L G H _ _ p W σ Q hr (t1.append t2) hp q⟩
    · rw [if_neg k] at q; exact q.elim
  have gen : (∀ i j, ¬ (x = .int i ∧ y = .int j)) → (∀ i j, ¬ (x = .str i ∧ y = .str j)) → (∀ i j, ¬ (x = .tup i ∧ y = .tup j)) →
      Sat K W L σ (repD K) (match lstX G x, lstX G y with | some a, some b => if a.length + b.length ≤ sizeLine then mk (a ++ b) G else .no | _, _ => .no) Q → rAddA K v u H Q := fun _ _ _ q => by
    cases e1 : lstX G x with
    | none => rw [e1] at q; exact q.elim
    | some a =>
      cases e2 : lstX G y with
      | none => rw [e1, e2] at q; exact q.elim
      | some b => rw [e1, e2] at q; exact lists a b e1 e2 q
  cases x with
  | int i =>
    cases y with
    | int j => cases rx; cases ry; exact .inl <| .inl (.inl (.inl ⟨i, j, rfl, rfl, q L H _ (.refl L) hr (.int _)⟩))
    | _ => exact q.elim
  | str a =>
    cases y with
    | str b =>
      cases rx; cases ry
      have q' : Sat K W L σ (repD K) (if a.length + b.length ≤ sizeLine then .ok (.str (a ++ b)) G else .no) Q := q
      by_cases k : a.length + b.length ≤ sizeLine
      · rw [if_pos k] at q'
        exact .inl <| .inl (.inl (.inr ⟨a, b, rfl, rfl, k, q' L H _ (.refl L) hr (.str _)⟩))
      · rw [if_neg k] at q'; exact q'.elim
    | _ => exact q.elim
  | tup a =>
    cases y with
    | tup b =>
      have q' : Sat K W L σ (repD K) (if a.length + b.length ≤ sizeLine then .ok (.tup (a ++ b)) G else .no) Q := q
      by_cases k : a.length + b.length ≤ sizeLine
      · rw [if_pos k] at q'
        obtain ⟨p1, vs, rfl, s1, t1⟩ := tup_rep hr rx
        obtain ⟨p2, us, rfl, s2, t2⟩ := tup_rep hr ry
        refine .inl <| .inl (.inr ⟨p1, p2, vs, us, rfl, rfl, s1, s2, by rw [← Reps.length t1, ← Reps.length t2]; exact k, fun e => ?_, fun _ e => ?_, fun _ _ p hp => ?_⟩)
        · subst e
          cases t1
          exact q' L H _ (.refl L) hr ry
        · subst e
          cases t2
          rw [List.append_nil] at q'
          exact q' L H _ (.refl L) hr rx
        · obtain ⟨a', b', c'⟩ := put_tup (t1.append t2) hr hp
          exact q' _ _ _ b' a' c'
      · rw [if_neg k] at q'; exact q'.elim
    | _ => exact q.elim
  | pt a =>
    cases y with
    | pt b =>
      have q' : Sat K W L σ (repD K) (if a.length + b.length ≤ sizeLine then .ok (.pt (a ++ b)) G else .no) Q := q
      by_cases k : a.length + b.length ≤ sizeLine
      · rw [if_pos k] at q'
        have rx' : Rep K L.Z L.r (.pt a) v := rx
        have ry' : Rep K L.Z L.r (.pt b) u := ry
        cases rx' with
        | @pt p1 o1 vs _ z1 k1 t1 =>
          cases ry' with
          | @pt p2 o2 us _ z2 k2 t2 =>
            have h1 := (hr.z _ _ z1).frz
            have h2 := (hr.z _ _ z2).frz
            have hl : vs.length + us.length ≤ sizeLine := by rw [← Reps.length t1, ← Reps.length t2]; exact k
            cases t1 with
            | nil => exact .inl <| .inl (.inr ⟨p1, p2, [], us, rfl, rfl, .inl (.inr ⟨_, h1⟩), .inl (.inr ⟨_, h2⟩), hl, fun _ => q' L H _ (.refl L) hr ry, fun n => absurd rfl n, fun n => absurd rfl n⟩)
            | @cons a0 v0 _ _ ra ta =>
              cases t2 with
              | nil =>
                rw [List.append_nil] at q'
                exact .inl <| .inl (.inr ⟨p1, p2, _, [], rfl, rfl, .inl (.inr ⟨_, h1⟩), .inl (.inr ⟨_, h2⟩), hl, (fun e => nomatch e), fun _ _ => q' L H _ (.refl L) hr rx, fun _ n => absurd rfl n⟩)
              | @cons b0 u0 _ _ rb tb =>
                refine .inr ⟨p1, p2, _, _, o1, o2, rfl, rfl, h1, h2, (fun e => nomatch e), (fun e => nomatch e), hl, fun p o3 hp ho => ?_⟩
                obtain ⟨a', b', c'⟩ := put_pt (Reps.append (.cons ra ta) (.cons rb tb)) hr hp ho
                exact q' _ _ _ b' a' c'
      · rw [if_neg k] at q'; exact q'.elim
    | _ => exact q.elim
  | lst a => exact gen (by intro _ _ h; cases h.1) (by intro _ _ h; cases h.1) (by intro _ _ h; cases h.1) q
  | ref a => exact gen (by intro _ _ h; cases h.1) (by intro _ _ h; cases h.1) (by intro _ _ h; cases h.1) q
  | _ => exact q.elim
end
end CF
end
section
set_option maxRecDepth 100000
set_option maxHeartbeats 1000000
/-! Subscripts, slices, membership, calls of built-ins by values. -/
namespace CF
open PySem PySem.Spec PyProof.Rows L2

/-! ### dicts by keys -/
def lookK {κ : Type} [DecidableEq κ] (kvs : List (κ × D)) (k : κ) : Option D := (kvs.find? fun kv => decide (kv.1 = k)).map (·.2)
def keyD : D → Option Key
  | .int i => some (.inl i)
  | .str x => some (.inr x)
  | _ => none
@[simp] theorem keyD_int (i : Int) : keyD (.int i) = some (.inl i) := rfl
@[simp] theorem keyD_str (x : Str) : keyD (.str x) = some (.inr x) := rfl
def dKOf (G : GH) : D → Option (List (Key × D))
  | .dK kvs => some kvs
  | .ref n => match G[n]? with
    | some (.dK kvs) => some kvs
    | _ => none
  | _ => none
@[simp] theorem dKOf_dK (G : GH) (kvs : List (Key × D)) : dKOf G (.dK kvs) = some kvs := rfl
@[simp] theorem dKOf_lst (G : GH) (kvs : List D) : dKOf G (.lst kvs) = none := rfl
@[simp] theorem dKOf_tup (G : GH) (kvs : List D) : dKOf G (.tup kvs) = none := rfl
@[simp] theorem dKOf_str (G : GH) (kvs : Str) : dKOf G (.str kvs) = none := rfl
@[simp] theorem dKOf_scr (G : GH) (kvs : List D) : dKOf G (.scr kvs) = none := rfl
@[simp] theorem dKOf_ref (G : GH) (n : Nat) : dKOf G (.ref n) = match G[n]? with | some (.dK kvs) => some kvs | _ => none := rfl
section
variable {K : PySem.W.Frag} {L : Lk} {G : GH} {H : Hp} {d : D} {v : V}
theorem look_rep {κ : Type} [DecidableEq κ] {Z : Hp} {r : List Addr} (k : κ) : ∀ {kds : List (κ × D)} {kvs : List (κ × V)}, kds.map (·.1) = kvs.map (·.1) → Reps K Z r (kds.map (·.2)) (kvs.map (·.2)) →
    (∀ d, lookK kds k = some d → ∃ v, valV kvs k = some v ∧ Rep K Z r d v) ∧ (lookK kds k = none → valV kvs k = none)
  | [], [], _, _ => ⟨fun d e => (by simp [lookK] at e), fun _ => rfl⟩
  | [], _ :: _, e, _ => by simp at e
  | _ :: _, [], e, _ => by simp at e
  | (k1, d1) :: r1, (k2, v2) :: r2, e, t => by
    simp only [List.map_cons, List.cons.injEq] at e
    obtain ⟨e1, e2⟩ := e
    subst e1
    cases t with
    | cons h t =>
      obtain ⟨i1, i2⟩ := look_rep k e2 t
      by_cases hk : k1 = k
      · refine ⟨fun d q => ⟨v2, valV_pos hk, ?_⟩, fun q => ?_⟩
        · simp [lookK, List.find?_cons, hk] at q
          subst q; exact h
        · simp [lookK, List.find?_cons, hk] at q
      · have en : lookK ((k1, d1) :: r1) k = lookK r1 k := by simp [lookK, List.find?_cons, hk]
        rw [en, valV_neg hk]
        exact ⟨i1, i2⟩
theorem dK_rep (hr : HR K L G H) (h : Rep K L.Z L.r d v) {kds : List (Key × D)} (e : dKOf G d = some kds) :
    ∃ p kvs, v = .ref p ∧ Rd H p (.dK kvs) ∧ kds.map (·.1) = kvs.map (·.1) ∧ Reps K L.Z L.r (kds.map (·.2)) (kvs.map (·.2)) := by
  cases h with
  | dK z k t => cases e; exact ⟨_, _, rfl, (hr.z _ _ z).rd, k, t⟩
  | @ref n a q =>
    have hn : n < G.length := by rw [← hr.len]; exact (List.getElem?_eq_some_iff.mp q).1
    have c := hr.cell n a G[n] q (by simp [hn])
    rw [dKOf_ref, List.getElem?_eq_getElem hn] at e
    cases k : G[n] with
    | dK xs =>
      rw [k] at e c; cases e
      cases c with
      | dK h k t => exact ⟨_, _, rfl, .inl h, k, t⟩
    | _ => rw [k] at e; cases e
  | _ => cases e
theorem keyD_rep {Z : Hp} {r : List Addr} {k : Key} (h : Rep K Z r d v) (e : keyD d = some k) : v = kV k := by
  cases h with
  | int i => cases e; rfl
  | str x => cases e; rfl
  | _ => cases e
/-- what d[y] is, where it is told -/
def dGetO (G : GH) (x y : D) : Option (Option D) := match dKOf G x, keyD y with
  | some kvs, some k => some (lookK kvs k)
  | _, _ => none
theorem dGetO_rep (hr : HR K L G H) {x y : D} {u w : V} {o : Option D} (rx : Rep K L.Z L.r x u) (ry : Rep K L.Z L.r y w) (e : dGetO G x y = some o) :
    ∃ p ov, u = .ref p ∧ DGet H p w ov ∧ ov.isSome = o.isSome ∧ ∀ d, o = some d → ∃ v, ov = some v ∧ Rep K L.Z L.r d v := by
  unfold dGetO at e
  cases e1 : dKOf G x with
  | none => rw [e1] at e; cases e
  | some kds =>
    cases e2 : keyD y with
    | none => rw [e1, e2] at e; cases e
    | some k =>
      rw [e1, e2] at e
      have e' := Option.some.inj e
      obtain ⟨p, kvs, rfl, hp, hk, t⟩ := dK_rep hr rx e1
      have ey := keyD_rep ry e2
      subst ey
      obtain ⟨i1, i2⟩ := look_rep k hk t
      refine ⟨p, valV kvs k, rfl, .inl ⟨kvs, k, hp, rfl, rfl⟩, ?_, fun d ed => ?_⟩
      · cases o with
        | none => rw [i2 e']; rfl
        | some d =>
          obtain ⟨v, q, _⟩ := i1 d e'
          rw [q]; rfl
      · subst ed
        exact i1 d e'
end

/-! ### x[i] -/
def dIx : F2 := fun x y G => match y with
  | .int i => (match x with
    | .tup xs => (match atI xs i with
      | some d => .ok d G
      | none => .no)
    | .pt xs => (match atI xs i with
      | some d => .ok d G
      | none => .no)
    | .str z => if z.length ≤ sizeLine then (match atI z.cps.toList i with
      | some c => .ok (.str ⟨#[c]⟩) G
      | none => .no) else .no
    | x => match lstOf G x with
      | some xs => (match atI xs i with
        | some d => .ok d G
        | none => .no)
      | none => match dGetO G x (.int i) with
        | some (some d) => .ok d G
        | _ => .no)
  | y => match dGetO G x y with
    | some (some d) => .ok d G
    | _ => .no
theorem reps_atI {K : PySem.W.Frag} {Z : Hp} {r : List Addr} {ds : List D} {vs : List V} {i : Int} {d : D} (t : Reps K Z r ds vs) (e : atI ds i = some d) : ∃ v, atI vs i = some v ∧ Rep K Z r d v := by
  unfold atI at e ⊢
  rw [← Reps.length t]
  cases q : ixN ds.length i with
  | none => rw [q] at e; cases e
  | some j =>
    rw [q] at e
    exact t.get e
def rDGetV : R2 := fun x y H Q => ∃ a v, x = .ref a ∧ DGet H a y (some v) ∧ Q v H
section
variable {X : Cx}
theorem ix_dict (hu : X.A.units + 1 < cLine) : IxR X rDGetV := by
  intro value slice pins s σ H x y v u Q I rx ry h hs
  obtain ⟨a, w, rfl, g, q⟩ := h
  cases rx
  have hT := dict_typeIs I g
  unfold subscriptTail
  refine wpAny_bind ?_
  rw [getitemInPython_of_ne hT.not_modules]
  refine wpAny_bind (wpAny_specialOf hT PySem.F.slot_dict_getitem.lookup ?_)
  have fin : wpAny (model X.prog X.w) X.A (subscripted slice false (.ref a) u) (fun r s₃ => wpAny (model X.prog X.w) X.A (letTemporaryGo value (.ref a) r >>= fun _ => pure r) (EP X pins σ Q) X.xe s₃) X.xe s := by
    rw [hs]
    exact wpAny_operating (wpAny_mono (d_getItem hu I g ry fun w' s3 I3 rw' => show EP X pins σ Q w' s3 from ⟨w, H, I3, rw', q⟩) (fun r s₃ h₃ => wpAny_bind (wpAny_letTemporaryGo (wpAny_pure h₃))) fun _ _ x => x)
  first
    | exact wpAny_pure (wpAny_bind fin)
    | exact wpAny_bind (wpAny_pure (wpAny_bind fin))
    | exact wpAny_bind fin
def rIxA (K : PySem.W.Frag) : R2 := fun x y H Q => rIx K x y H Q ∨ rDGetV x y H Q
theorem ix_all (hu : X.A.units + 1 < cLine) : IxR X (rIxA X.K) := ix_seq.or (ix_dict hu)
theorem o2_ix {K : PySem.W.Frag} : Op2 K dIx (rIxA K) := fun L G H x y v u W σ Q hr rx ry q => by
  have dd : ∀ {y'}, Rep K L.Z L.r y' u → Sat K W L σ (repD K) (match dGetO G x y' with | some (some d) => .ok d G | _ => .no) Q → rIxA K v u H Q := fun {y'} ry q => by
    cases e : dGetO G x y' with
    | none => rw [e] at q; exact q.elim
    | some o =>
      cases o with
      | none => rw [e] at q; exact q.elim
      | some d =>
        rw [e] at q
        obtain ⟨p, ov, rfl, g, _, k⟩ := dGetO_rep hr rx ry e
        obtain ⟨w, rfl, rw'⟩ := k d rfl
        exact .inr ⟨p, w, rfl, g, q L H w (.refl L) hr rw'⟩
  have sq : ∀ (xs : List D) (i : Int), y = .int i → lstOf G x = some xs → Sat K W L σ (repD K) (match atI xs i with | some d => .ok d G | none => .no) Q → rIxA K v u H Q := fun xs i ey e q1 => by
    subst ey
    cases ry
    obtain ⟨p, vs, rfl, s, t⟩ := lst_rep hr rx e
    cases e2 : atI xs i with
    | none => rw [e2] at q1; exact q1.elim
    | some d =>
      rw [e2] at q1
      obtain ⟨w, h1, h2⟩ := reps_atI t e2
      exact .inl (.inl ⟨p, vs, i, w, rfl, rfl, s, h1, q1 L H w (.refl L) hr h2⟩)
  cases y with
  | int i =>
    have gen : Sat K W L σ (repD K) (match lstOf G x with | some xs => (match atI xs i with | some d => .ok d G | none => .no) | none => match dGetO G x (.int i) with | some (some d) => .ok d G | _ => .no) Q → rIxA K v u H Q := fun q => by
      cases e : lstOf G x with
      | some xs => rw [e] at q; exact sq xs i rfl e q
      | none => rw [e] at q; exact dd ry q
    cases x with
    | pt xs =>
      cases ry
      obtain ⟨p, vs, rfl, s, t⟩ := tupOf_rep (ds := xs) hr rx rfl
      have q' : Sat K W L σ (repD K) (match atI xs i with | some d => .ok d G | none => .no) Q := q
      cases e2 : atI xs i with
      | none => rw [e2] at q'; exact q'.elim
      | some d =>
        rw [e2] at q'
        obtain ⟨w, h1, h2⟩ := reps_atI t e2
        exact .inl (.inr (.inl ⟨p, vs, i, w, rfl, rfl, s, h1, q' L H w (.refl L) hr h2⟩))
    | tup xs =>
      cases ry
      obtain ⟨p, vs, rfl, s, t⟩ := tup_rep hr rx
      have q' : Sat K W L σ (repD K) (match atI xs i with | some d => .ok d G | none => .no) Q := q
      cases e2 : atI xs i with
      | none => rw [e2] at q'; exact q'.elim
      | some d =>
        rw [e2] at q'
        obtain ⟨w, h1, h2⟩ := reps_atI t e2
        exact .inl (.inr (.inl ⟨p, vs, i, w, rfl, rfl, s, h1, q' L H w (.refl L) hr h2⟩))
    | str z =>
      cases rx
      cases ry
      have q' : Sat K W L σ (repD K) (if z.length ≤ sizeLine then (match atI z.cps.toList i with | some c => .ok (.str ⟨#[c]⟩) G | none => .no) else .no) Q := q
      by_cases k : z.length ≤ sizeLine
      · rw [if_pos k] at q'
        cases e2 : atI z.cps.toList i with
        | none => rw [e2] at q'; exact q'.elim
        | some c =>
          rw [e2] at q'
          exact .inl (.inr (.inr ⟨z, i, c, rfl, rfl, k, e2, q' L H _ (.refl L) hr (.str _)⟩))
      · rw [if_neg k] at q'; exact q'.elim
    | _ => exact gen q
  | _ => exact dd ry q
end

/-! ### slices -/
def eOpt : Option FE → DEnv → GH → R (Option Int)
  | none => fun _ G => .ok none G
  | some f => fun δ G => (f δ G).bind fun d G1 => match d with
    | .int i => .ok (some i) G1
    | _ => .no
def cutD {α : Type} (xs : List α) (lo hi : Option Int) : List α := (xs.drop (HT.sIx xs.length 0 lo)).take (HT.sIx xs.length xs.length hi - HT.sIx xs.length 0 lo)
def dSl (mk : List D → GH → R D) (x : D) (lo hi : Option Int) (G : GH) : R D := match x with
  | .tup xs => .ok (.tup (cutD xs lo hi)) G
  | .pt xs => .ok (.pt (cutD xs lo hi)) G
  | .str z => if z.length ≤ sizeLine then .ok (.str (cutS z lo hi)) G else .no
  | x => match lstOf G x with
    | some xs => mk (cutD xs lo hi) G
    | none => .no
def eSl (mk : List D → GH → R D) (f : FE) (lo hi : Option FE) : FE := fun δ G => (f δ G).bind fun x G1 => (eOpt lo δ G1).bind fun l G2 => (eOpt hi δ G2).bind fun h G3 => dSl mk x l h G3
theorem sIx_whole {α : Type} {xs : List α} {lo hi : Option Int} (h : HT.sIx xs.length 0 lo = 0 ∧ HT.sIx xs.length xs.length hi = xs.length) : cutD xs lo hi = xs := by
  unfold cutD
  rw [h.1, h.2]
  simp
section
variable {X : Cx} {W : WX} {pos p2 : Pos}
def repO : Lk → Option Int → Option Int → Prop := fun _ a b => a = b
inductive xO (X : Cx) (W : WX) : Option Expr → Option FE → Prop where
  | none : xO X W none none
  | some {e : Expr} {f : FE} (h : xE X W e f) : xO X W (some e) (some f)
theorem po_of {oe : Option Expr} {of : Option FE} (h : xO X W oe of) : PO X oe (tG X.K W repO (eOpt of)) := by
  cases h with
  | none => exact ⟨fun pins s σ H Q I ⟨L, δ, G, hr, er, q⟩ => po_none.run pins s σ H Q I (q L H none (.refl L) hr rfl)⟩
  | some h =>
    refine ⟨fun pins s σ H Q I ⟨L, δ, G, hr, er, q⟩ => (po_some h).run pins s σ H Q I ?_⟩
    refine Sat.bind (rep' := repO) hr er q fun L1 G1 H1 d v le hr1 er1 rd q1 => ?_
    cases rd with
    | int i => exact ⟨i, rfl, q1 L1 H1 _ (.refl _) hr1 rfl⟩
    | _ => exact q1.elim
/-- a slice of a tuple that is known to the object, told as the object -/
def rSlP : V → Option Int → Option Int → Hp → VK → Prop := fun x lo hi H Q => ∃ a xs o, x = .ref a ∧ H a = some (.frz o (.tup xs)) ∧ ¬ (HT.sIx xs.length 0 lo = 0 ∧ HT.sIx xs.length xs.length hi = xs.length) ∧
  ∀ p o', H p = none → o'.dict = none → Q (.ref p) (upd H p (.frz o' (.tup (cutV xs lo hi))))
theorem sl_pt : SlR X rSlP := by
  intro pins s σ H x v vl vu lo hi sl Q I rx hs pl pu ⟨a, xs, o, ex, hx, hw, q⟩
  subst ex
  cases rx
  obtain ⟨its, r, ht, hz⟩ := I.tuple (xs := xs) (.inl (.inr ⟨o, hx⟩))
  have hlen : its.toArray.size = xs.length := by rw [List.size_toArray]; exact r.length.symm
  refine ⟨"tuple", _, PyProof.Rows.slot_tuple_getitem.lookup, ht.typeIs, HT.getItem_tuple_cut ht hs pl pu (by rw [hlen]; exact hw) ?_ (by rw [hlen]; exact hz)⟩
  rw [hlen]
  exact ⟨.ref s.heap.objs.size, _, I.laid (t' := s.toks) (o := .frz { cls := .type "tuple", data := .seq ((its.drop (HT.sIx xs.length 0 lo)).take (HT.sIx xs.length xs.length hi - HT.sIx xs.length 0 lo)).toArray } (.tup (cutV xs lo hi))) (fun b ob q => Heap.get?_push_of_some _ q) (Nat.le_refl _)
    ⟨Heap.get?_push_size _ rfl, Nat.le_trans (cutV_length xs lo hi) hz, _, (r.drop (HT.sIx xs.length 0 lo)).take (HT.sIx xs.length xs.length hi - HT.sIx xs.length 0 lo), IsTup.new _ _⟩, rfl, q _ _ (I.hok.fresh (Nat.le_refl _)) rfl⟩
def rSlAll (K : PySem.W.Frag) : V → Option Int → Option Int → Hp → VK → Prop := fun x lo hi H Q => ((rSlL K x lo hi H Q ∨ rSlA K x lo hi H Q) ∨ rSlS x lo hi H Q) ∨ rSlP x lo hi H Q
theorem xe_sl {e : Expr} {lo hi : Option Expr} {f : FE} {fl fh : Option FE} {mk : List D → GH → R D} (m : Mk mk) (h : xE X W e f) (hl : xO X W lo fl) (hh : xO X W hi fh) : xE X W (.Subscript e (.Slice lo hi none p2) pos) (eSl mk f fl fh) :=
  PEimp (pe_slice (r := rSlAll X.K) (((sl_list.or sl_tupA).or sl_str).or sl_pt) h (po_of hl) (po_of hh)) fun σ H Q ⟨L, δ, G, hr, er, q⟩ =>
    Sat.bind (rep' := repD X.K) hr er q fun L1 G1 H1 x v le hr1 er1 rx q1 => Sat.bind (rep' := repD X.K) hr1 er1 q1 fun L2 G2 H2 l l' le2 hr2 er2 rl q2 => Sat.bind (rep' := repD X.K) hr2 er2 q2 fun L3 G3 H3 u u' le3 hr3 er3 ru q3 => by
      have rl' : l = l' := rl
      have ru' : u = u' := ru
      subst rl' ru'
      have rx3 := (Rep.mono le2 rx).mono le3
      have gen : ∀ xs, lstOf G3 x = some xs → Sat X.K W L3 σ (repD X.K) (mk (cutD xs l u) G3) Q → rSlAll X.K v l u H3 Q := fun xs e q => by
        obtain ⟨p, vs, rfl, s, t⟩ := lst_rep hr3 rx3 e
        refine .inl (.inl (.inl ⟨p, vs, rfl, s, fun p' hp => ?_⟩))
        have t' : Reps X.K L3.Z L3.r (cutD xs l u) (cutV vs l u) := by
          unfold cutD cutV
          rw [Reps.length t]
          exact (t.drop _).take _
        exact m _ _ _ _ _ _ _ _ _ _ hr3 t' hp q
      cases x with
      | tup xs =>
        obtain ⟨p, vs, rfl, s, t⟩ := tup_rep hr3 rx3
        have q' : Sat X.K W L3 σ (repD X.K) (.ok (.tup (cutD xs l u)) G3) Q := q3
        refine .inl (.inl (.inr ⟨p, vs, rfl, s, fun w => ?_, fun w p' hp => ?_⟩))
        · have w' : HT.sIx xs.length 0 l = 0 ∧ HT.sIx xs.length xs.length u = xs.length := by rw [Reps.length t]; exact w
          rw [sIx_whole w'] at q'
          exact q' L3 H3 _ (.refl _) hr3 rx3
        · have t' : Reps X.K L3.Z L3.r (cutD xs l u) (cutV vs l u) := by
            unfold cutD cutV
            rw [Reps.length t]
            exact (t.drop _).take _
          obtain ⟨a, b, c⟩ := put_tup t' hr3 hp
          exact q' _ _ _ b a c
      | pt xs =>
        have q' : Sat X.K W L3 σ (repD X.K) (.ok (.pt (cutD xs l u)) G3) Q := q3
        have rx3' : Rep X.K L3.Z L3.r (.pt xs) v := rx3
        cases rx3' with
        | @pt p o vs _ z k t =>
          have hp := (hr3.z _ _ z).frz
          by_cases w : HT.sIx vs.length 0 l = 0 ∧ HT.sIx vs.length vs.length u = vs.length
          · have w' : HT.sIx xs.length 0 l = 0 ∧ HT.sIx xs.length xs.length u = xs.length := by rw [Reps.length t]; exact w
            rw [sIx_whole w'] at q'
            exact .inl (.inl (.inr ⟨p, vs, rfl, .inl (.inr ⟨o, hp⟩), fun _ => q' L3 H3 _ (.refl _) hr3 rx3, fun n => absurd w n⟩))
          · have t' : Reps X.K L3.Z L3.r (cutD xs l u) (cutV vs l u) := by
              unfold cutD cutV
              rw [Reps.length t]
              exact (t.drop _).take _
            refine .inr ⟨p, vs, o, rfl, hp, w, fun p' o' hp' ho => ?_⟩
            obtain ⟨a, b, c⟩ := put_pt t' hr3 hp' ho
            exact q' _ _ _ b a c
      | str z =>
        cases rx3
        have q' : Sat X.K W L3 σ (repD X.K) (if z.length ≤ sizeLine then .ok (.str (cutS z l u)) G3 else .no) Q := q3
        by_cases k : z.length ≤ sizeLine
        · rw [if_pos k] at q'
          exact .inl (.inr ⟨z, rfl, k, q' L3 H3 _ (.refl _) hr3 (.str _)⟩)
        · rw [if_neg k] at q'; exact q'.elim
      | lst xs => exact gen xs rfl q3
      | scr xs => exact gen xs rfl q3
      | ref n =>
        have q' : Sat X.K W L3 σ (repD X.K) (match lstOf G3 (.ref n) with | some xs => mk (cutD xs l u) G3 | none => .no) Q := q3
        cases e : lstOf G3 (.ref n) with
        | none => rw [e] at q'; exact q'.elim
        | some xs => rw [e] at q'; exact gen xs e q'
      | _ => exact q3.elim
theorem xe_ix {a b : Expr} {fa fb : FE} (hu : X.A.units + 1 < cLine) (ha : xE X W a fa) (hb : xE X W b fb) (hs : PlainIx b := by exact fun _ _ => rfl) : xE X W (.Subscript a b pos) (eOp dIx fa fb) := PEimp (pe_ix (ix_all hu) ha hb hs) (eOp_imp o2_ix)

/-! ### in -/
def flatD : D → Bool
  | .non => true
  | .bl _ => true
  | .int _ => true
  | .str _ => true
  | _ => false
def eqF : D → D → Bool
  | .non, .non => true
  | .bl a, .bl b => a == b
  | .bl a, .int j => (if a then 1 else 0) == j
  | .int i, .bl b => i == (if b then 1 else 0)
  | .int i, .int j => i == j
  | .str x, .str y => x == y
  | _, _ => false
end
end CF
end
section
set_option maxRecDepth 100000
set_option maxHeartbeats 1000000
/-! Loops, comprehensions, defs and their calls, freezing. -/
namespace CF
open PySem PySem.Spec PyProof.Rows L2

/-! ### what is walked -/
/-- the iterator serves these items, as long as chk holds -/
structure Srv (K : PySem.W.Frag) (J : It) (L : Lk) (items : List D) (chk : GH → Bool) : Prop where
  go : ∀ L' G H (i : Nat) d, L.sle L' → HR K L' G H → chk G = true → items[i]? = some d → J.go i H ∧ ∀ x H2, J.yld i H x H2 → ∃ L2, L'.le L2 ∧ HR K L2 G H2 ∧ Rep K L2.Z L2.r d x
  stop : ∀ L' G H (i : Nat), L.sle L' → HR K L' G H → chk G = true → items.length ≤ i → J.stop i H
structure Its where
  items : List D
  chk : GH → Bool
abbrev FI := DEnv → GH → R Its
def tI (K : PySem.W.Frag) (W : WX) (f : FI) : TI := fun σ H Q => ∃ L δ G, HR K L G H ∧ ER K L δ σ ∧ match f δ G with
  | .ok it G1 => ∀ L' H' J, L.fle L' → HR K L' G1 H' → Srv K J L' it.items it.chk → Q J H'
  | .ex x G1 => ∀ L' H' c dx, L.le L' → HR K L' G1 H' → XRep K L' x c dx → W c dx σ H'
  | .no => False
def xI (X : Cx) (W : WX) (tg iter : Expr) (f : FI) : Prop := PI X tg iter (tI X.K W f)
theorem PIimp {X : Cx} {tg e : Expr} {t t' : TI} (h : PI X tg e t) (i : ∀ σ H Q, t' σ H Q → t σ H Q) : PI X tg e t' := ⟨fun pins s σ H Q I q => h.run pins s σ H Q I (i _ _ _ q)⟩

/-! ### for -/
def sForL (chk : GH → Bool) (g : FG) (body : FS) : List D → DEnv → GH → RS
  | [], δ, G => .nx δ G
  | d :: r, δ, G => match g d δ G with
    | .nx δ1 G1 => (match body δ1 G1 with
      | .nx δ2 G2 => if chk G2 then sForL chk g body r δ2 G2 else .no
      | .ct δ2 G2 => if chk G2 then sForL chk g body r δ2 G2 else .no
      | .bk δ2 G2 => .nx δ2 G2
      | .rt d G2 => .rt d G2
      | .ex x δ2 G2 => .ex x δ2 G2
      | .no => .no)
    | _ => .no
def sFor (fi : FI) (g : FG) (body : FS) : FS := fun δ G => (fi δ G).thn δ fun it G1 => if it.chk G1 then sForL it.chk g body it.items δ G1 else .no
theorem iThn {K : PySem.W.Frag} {W : WX} {L : Lk} {σ : St} {δ : DEnv} {G : GH} {H : Hp} {f : FI} {k : Its → GH → RS} {E : Ends} {Q1 : It → Hp → Prop}
    (hr : HR K L G H) (er : ER K L δ σ) (h : SatS K W L ((f δ G).thn δ k) E)
    (nx : ∀ L1 G1 H1 it J, L.fle L1 → HR K L1 G1 H1 → ER K L1 δ σ → Srv K J L1 it.items it.chk → SatS K W L1 (k it G1) E → Q1 J H1) : tI K W f σ H Q1 := by
  refine ⟨L, δ, G, hr, er, ?_⟩
  cases e : f δ G with
  | ok it G1 =>
    rw [e] at h
    exact fun L1 H1 J le hr1 sv => nx L1 G1 H1 it J le hr1 (er.fmono le) sv (SatS.fmono (L := L) (r := k it G1) h le)
  | ex x G1 =>
    rw [e] at h
    exact fun L1 H1 c dx le hr1 xr => h L1 σ H1 c dx le hr1 (er.mono le) xr
  | no =>
    rw [e] at h
    exact h
theorem iBind {γ δ' : Type} {K : PySem.W.Frag} {W : WX} {L : Lk} {σ : St} {δ : DEnv} {G : GH} {H : Hp} {rep' : Lk → γ → δ' → Prop} {f : FI} {k : Its → GH → R γ} {Q : δ' → Hp → Prop} {Q1 : It → Hp → Prop} (hrep : ∀ L F a b, rep' L a b → rep' (L.frm F) a b)
    (hr : HR K L G H) (er : ER K L δ σ) (h : Sat K W L σ rep' ((f δ G).bind k) Q)
    (nx : ∀ L1 G1 H1 it J, L.fle L1 → HR K L1 G1 H1 → ER K L1 δ σ → Srv K J L1 it.items it.chk → Sat K W L1 σ rep' (k it G1) Q → Q1 J H1) : tI K W f σ H Q1 := by
  refine ⟨L, δ, G, hr, er, ?_⟩
  cases e : f δ G with
  | ok it G1 =>
    rw [e] at h
    exact fun L1 H1 J le hr1 sv => nx L1 G1 H1 it J le hr1 (er.fmono le) sv (Sat.fmono (L := L) (r := k it G1) h le hrep)
  | ex x G1 =>
    rw [e] at h
    exact h
  | no =>
    rw [e] at h
    exact h
section
variable {X : Cx} {W : WX} {pos : Pos} {tg iter : Expr} {us : List Nat}
theorem xs_for {body : List Stmt} {fi : FI} {g : FG} {fb : FS} (hp : PassesOwn (model X.prog X.w) X.A X.env X.xe) (hc : X.calm = true) (hi : xI X W tg iter fi) (hg : xG X us tg g) (hb : xSs X W body fb)
    (hs : ∀ x, foldedSetIterable iter X.env x = pure x := by intro _; rfl) : xS X W (.For tg iter body [] pos) (sFor fi g fb) :=
  PSimp (ps_for hp hc hi hg hb hs) fun E σ H ⟨L, δ, G, hr, er, q⟩ => iThn hr er q fun L1 G1 H1 it J le hr1 er1 sv q1 => by
    by_cases hk : it.chk G1 = true
    · rw [if_pos hk] at q1
      refine ⟨fun i m σ H => m = it.items.length - i ∧ i ≤ it.items.length ∧ ∃ L' δ' G', L1.le L' ∧ HR X.K L' G' H ∧ ER X.K L' δ' σ ∧ it.chk G' = true ∧ SatS X.K W L' (sForL it.chk g fb (it.items.drop i) δ' G') E,
        ⟨_, rfl, Nat.zero_le _, L1, δ, G1, .refl _, hr1, er1, hk, by rw [List.drop_zero]; exact q1⟩, ?_⟩
      rintro i m σ2 H2 ⟨rfl, hi, L2, δ2, G2, le2, hr2, er2, hk2, q2⟩
      by_cases hlt : i < it.items.length
      · have ed : it.items[i]? = some it.items[i] := by simp [hlt]
        obtain ⟨hgo, hy⟩ := sv.go L2 G2 H2 i _ le2.s hr2 hk2 ed
        refine .inr ⟨hgo, fun σ3 H3 => ∃ L' δ' G', L1.le L' ∧ HR X.K L' G' H3 ∧ ER X.K L' δ' σ3 ∧ it.chk G' = true ∧ SatS X.K W L' (sForL it.chk g fb (it.items.drop (i + 1)) δ' G') E,
          fun σ3 H3 n => ⟨it.items.length - (i + 1), by omega, rfl, hlt, n⟩, fun x H3 yd => ?_⟩
        obtain ⟨L3, le3, hr3, rd⟩ := hy x H3 yd
        rw [List.drop_eq_getElem_cons hlt] at q2
        have q3 : SatS X.K W L3 _ E := SatS.mono q2 le3
        refine ⟨L3, it.items[i], δ2, G2, hr3, er2.mono le3, rd, ?_⟩
        unfold sForL at q3
        cases e1 : g it.items[i] δ2 G2 with
        | nx δ4 G4 =>
          rw [e1] at q3
          dsimp only at q3
          intro L4 σ4 H4 le4 hr4 er4 _
          have q4 : SatS X.K W L4 _ E := SatS.mono q3 le4
          refine ⟨L4, δ4, G4, hr4, er4, ?_⟩
          have again : ∀ δ5 G5, SatS X.K W L4 (if it.chk G5 = true then sForL it.chk g fb (it.items.drop (i + 1)) δ5 G5 else .no) E → ∀ L5 σ5 H5, L4.le L5 → HR X.K L5 G5 H5 → ER X.K L5 δ5 σ5 →
              ∃ L' δ' G', L1.le L' ∧ HR X.K L' G' H5 ∧ ER X.K L' δ' σ5 ∧ it.chk G' = true ∧ SatS X.K W L' (sForL it.chk g fb (it.items.drop (i + 1)) δ' G') E := fun δ5 G5 q5 L5 σ5 H5 le5 hr5 er5 => by
            by_cases hk5 : it.chk G5 = true
            · rw [if_pos hk5] at q5
              exact ⟨L5, δ5, G5, ((le2.trans le3).trans le4).trans le5, hr5, er5, hk5, SatS.mono q5 le5⟩
            · rw [if_neg hk5] at q5; exact q5.elim
          cases e2 : fb δ4 G4 with
          | nx δ5 G5 => rw [e2] at q4; exact again δ5 G5 q4
          | ct δ5 G5 => rw [e2] at q4; exact again δ5 G5 q4
          | bk δ5 G5 => rw [e2] at q4; exact q4
          | rt d G5 => rw [e2] at q4; exact q4
          | ex x δ5 G5 => rw [e2] at q4; exact q4
          | no => rw [e2] at q4; exact q4
        | _ => rw [e1] at q3; exact q3.elim
      · refine .inl ⟨sv.stop L2 G2 H2 i le2.s hr2 hk2 (by omega), ?_⟩
        rw [List.drop_eq_nil_of_le (by omega)] at q2
        exact q2 L2 σ2 H2 (.refl _) hr2 er2
    · rw [if_neg hk] at q1; exact q1.elim

/-! ### comprehensions -/
def R.nox {α : Type} (r : R α) : R α := match r with
  | .ex _ _ => .no
  | r => r
@[simp] theorem R.nox_ok {α : Type} (a : α) (G : GH) : (R.ok a G).nox = .ok a G := rfl
@[simp] theorem R.nox_no {α : Type} : (R.no : R α).nox = .no := rfl
@[simp] theorem R.nox_ex {α : Type} (x : Ex) (G : GH) : (R.ex x G : R α).nox = .no := rfl
def lcL (chk : GH → Bool) (g : FG) (t : FT) (f : FE) (δ : DEnv) : List D → List D → GH → R (List D)
  | [], acc, G => .ok acc G
  | d :: r, acc, G => match g d δ G with
    | .nx δ1 G1 => (t δ1 G1).nox.bind fun b G2 => if b then (f δ1 G2).nox.bind fun y G3 => (if chk G3 && decide (acc.length < sizeLine) then lcL chk g t f δ r (acc ++ [y]) G3 else .no)
      else (if chk G2 then lcL chk g t f δ r acc G2 else .no)
    | _ => .no
def tYesD : FT := fun _ G => .ok true G
/-- no exception -/
abbrev noW : WX := fun _ _ _ _ => False
def xTs (X : Cx) (ifs : List Expr) (t : FT) : Prop := PTs X ifs (tG X.K noW repB t)
theorem xts_nil {X : Cx} : xTs X [] tYesD := ⟨fun pins s σ H Q I ⟨L, δ, G, hr, er, q⟩ => pts_nil.run pins s σ H Q I (q L H true (.refl L) hr rfl)⟩
theorem xts_one {X : Cx} {c : Expr} {t : FT} (h : xT X noW c t) : xTs X [c] t := pts_one h
/-- a list comprehension -/
def eLc (mk : List D → GH → R D) (fi : FI) (g : FG) (t : FT) (f : FE) (vs : List Nat) : FE := fun δ G => (fi δ G).bind fun it G1 => if it.chk G1 then (lcL it.chk g t f (wipeD δ vs) it.items [] G1).bind mk else .no
/-- a step that raises nothing -/
theorem Sat.nb {α β γ δ' : Type} {K : PySem.W.Frag} {W : WX} {L : Lk} {σ σ' : St} {δ : DEnv} {G : GH} {H : Hp} {rep : Lk → α → β → Prop} {rep' : Lk → γ → δ' → Prop} {f : DEnv → GH → R α} {k : α → GH → R γ} {Q : δ' → Hp → Prop} {Q1 : β → Hp → Prop} {L0 : Lk}
    (hr : HR K L G H) (er : ER K L δ σ) (l0 : L0.cle L) (h : Sat K W L0 σ' rep' ((f δ G).nox.bind k) Q)
    (nx : ∀ L1 G1 H1 a v, L.le L1 → HR K L1 G1 H1 → ER K L1 δ σ → rep L1 a v → f δ G = .ok a G1 → Q1 v H1) : tG K noW rep f σ H Q1 := by
  refine ⟨L, δ, G, hr, er, ?_⟩
  cases e : f δ G with
  | ok a G1 => exact fun L1 H1 v le hr1 ra => nx L1 G1 H1 a v le hr1 (er.mono le) ra e
  | ex x G1 =>
    rw [e] at h
    exact h.elim
  | no =>
    rw [e] at h
    exact h.elim
theorem wipe_wipe (σ : St) : ∀ vs : List Nat, wipe (wipe σ vs) vs = wipe σ vs
  | [] => rfl
  | v :: vs => by
    show (wipe ((wipe σ vs).set v none) vs).set v none = (wipe σ vs).set v none
    have key : ∀ {us : List Nat} {τ : St}, (wipe (τ.set v none) us).set v none = (wipe τ us).set v none := by
      intro us
      induction us with
      | nil => intro τ; show (τ.set v none).set v none = τ.set v none; rw [List.set_set]
      | cons u us ih =>
        intro τ
        show ((wipe (τ.set v none) us).set u none).set v none = ((wipe τ us).set u none).set v none
        by_cases e : u = v
        · subst e
          rw [List.set_set, List.set_set]; exact ih
        · rw [List.set_comm _ _ e, ih, List.set_comm _ _ (Ne.symm e)]
    rw [key, wipe_wipe σ vs]
theorem lc_imp {K : PySem.W.Frag} {W : WX} {mk : List D → GH → R D} {fi : FI} {g : FG} {t : FT} {f : FE} {vs : List Nat} (m : Mk mk) (σ : St) (H : Hp) (Q : VK) (h : tG K W (repD K) (eLc mk fi g t f vs) σ H Q) : tLc (tI K W fi) (tGt K vs g) (tG K noW repB t) (tG K noW (repD K) f) vs σ H Q := by
  obtain ⟨L, δ, G, hr, er, q⟩ := h
  exact iBind (rep' := repD K) (fun _ _ _ _ z => z) hr er q fun L1 G1 H1 it J le hr1 er1 sv q1 => by
    by_cases hk : it.chk G1 = true
    · rw [if_pos hk] at q1
      intro Dl hD
      have hF : L1.F Dl = none := hr1.ffree hD
      have nofrz : ∀ (xs : List V) od w, HO.lst xs ≠ .frz od w := fun xs od w z => by cases z
      generalize hδ : wipeD δ vs = δw at q1
      have erw : ∀ L', L1.cle L' → ER K L' δw (wipe σ vs) := fun L' c => by
        have e0 : ER K L' δ σ := ⟨er1.1, fun i d e => let ⟨v, a, b⟩ := er1.2 i d e; ⟨v, a, Rep.mono (a := L1) (b := L'.frm L1.F) ⟨c.z, c.r, rfl⟩ b⟩⟩
        rw [← hδ]
        exact e0.wipe _
      -- the turn's state: acc so far, its values
      refine ⟨fun i n H => n = it.items.length - i ∧ i ≤ it.items.length ∧ ∃ L' G' acc av, L1.cle L' ∧ L'.F = L1.F ∧ HR K (L'.prv Dl (.lst av)) G' H ∧ Reps K L'.Z L'.r acc av ∧ it.chk G' = true ∧
          Sat K W L' σ (repD K) ((lcL it.chk g t f δw (it.items.drop i) acc G').bind mk) Q,
        ⟨_, rfl, Nat.zero_le _, L1, G1, [], [], .refl _, rfl, hr1.prv hD, .nil, hk, by rw [List.drop_zero]; exact q1⟩, ?_⟩
      rintro i n H2 ⟨rfl, hi2, L2, G2, acc, av, c2, f2, hr2, ra, hk2, q2⟩
      have c2' : L1.sle (L2.prv Dl (.lst av)) := ⟨c2.z, c2.r, fun p od u e => by
        have hp : p ≠ Dl := fun z => by rw [z, hF] at e; cases e
        show upd L2.F Dl _ p = _
        rw [upd_ne hp, f2]; exact e⟩
      by_cases hlt : i < it.items.length
      · have ed : it.items[i]? = some it.items[i] := by simp [hlt]
        obtain ⟨hgo, hy⟩ := sv.go _ G2 H2 i _ c2' hr2 hk2 ed
        refine .inr ⟨hgo, fun H3 => ∃ L' G' acc av, L1.cle L' ∧ L'.F = L1.F ∧ HR K (L'.prv Dl (.lst av)) G' H3 ∧ Reps K L'.Z L'.r acc av ∧ it.chk G' = true ∧
            Sat K W L' σ (repD K) ((lcL it.chk g t f δw (it.items.drop (i + 1)) acc G').bind mk) Q,
          fun H3 n => ⟨it.items.length - (i + 1), by omega, rfl, hlt, n⟩, fun x H3 yd => ?_⟩
        obtain ⟨L3, le3, hr3, rd⟩ := hy x H3 yd
        rw [List.drop_eq_getElem_cons hlt] at q2
        unfold lcL at q2
        refine ⟨L3, it.items[i], δw, G2, hr3, erw L3 (c2'.c.trans le3.c), rd, ?_⟩
        cases e1 : g it.items[i] δw G2 with
        | nx δ4 G4 =>
          rw [e1] at q2
          dsimp only at q2
          intro L4 σ4 H4 le4 hr4 er4 w4
          refine ⟨w4.trans (wipe_wipe _ _), ?_⟩
          have l0 : L2.cle L4 := (show L2.cle (L2.prv Dl (.lst av)) from ⟨fun _ _ z => z, fun _ _ z => z⟩).trans (le3.trans le4).c
          have frameOf : ∀ (L5 : Lk), L4.le L5 → (L5.frm L1.F).prv Dl (.lst av) = L5 := fun L5 l5 => by
            have e5 : L5.F = upd L2.F Dl (.lst av) := l5.f.trans (le4.f.trans le3.f)
            show Lk.mk L5.Z L5.r (upd L1.F Dl (.lst av)) = L5
            rw [← f2, ← e5]
          refine Sat.nb (L0 := L2) (rep' := repD K) hr4 er4 l0 (k := fun b G2 => (if b then (f δ4 G2).nox.bind fun y G3 => (if it.chk G3 && decide (acc.length < sizeLine) then lcL it.chk g t f δw (it.items.drop (i + 1)) (acc ++ [y]) G3 else .no) else (if it.chk G2 then lcL it.chk g t f δw (it.items.drop (i + 1)) acc G2 else .no)).bind mk) (Q := Q) (W := W) (σ' := σ) (by
              cases e3 : t δ4 G4 with
              | ok b G5 => rw [e3] at q2; exact q2
              | ex x G5 => rw [e3] at q2; exact q2
              | no => rw [e3] at q2; exact q2) fun L5 G5 H5 b b' le5 hr5 er5 rb e5 => ?_
          have rb' : b = b' := rb
          subst rb'
          rw [e5] at q2
          have q3 : Sat K W L2 σ (repD K) ((if b = true then (f δ4 G5).nox.bind fun y G3 => (if (it.chk G3 && decide (acc.length < sizeLine)) = true then lcL it.chk g t f δw (it.items.drop (i + 1)) (acc ++ [y]) G3 else .no) else (if it.chk G5 = true then lcL it.chk g t f δw (it.items.drop (i + 1)) acc G5 else .no)).bind mk) Q := q2
          have up : ∀ {r : R D} (L6 : Lk), L2.cle L6 → Sat K W L2 σ (repD K) r Q → Sat K W (L6.frm L1.F) σ (repD K) r Q := fun {r} L6 c6 q => Sat.mono (L := L2) (r := r) q ⟨c6.z, c6.r, f2.symm⟩
          cases b with
          | true =>
            rw [if_pos rfl] at q3 ⊢
            refine Sat.nb (L0 := L2) (rep' := repD K) hr5 er5 (l0.trans le5.c) (k := fun y G3 => (if (it.chk G3 && decide (acc.length < sizeLine)) = true then lcL it.chk g t f δw (it.items.drop (i + 1)) (acc ++ [y]) G3 else .no).bind mk) (Q := Q) (W := W) (σ' := σ) (by
              cases e3 : f δ4 G5 with
              | ok b G5 => rw [e3] at q3; exact q3
              | ex x G5 => rw [e3] at q3; exact q3
              | no => rw [e3] at q3; exact q3) fun L6 G6 H6 y yv le6 hr6 er6 ry e6 => ?_
            rw [e6] at q3
            have q4 : Sat K W L2 σ (repD K) ((if (it.chk G6 && decide (acc.length < sizeLine)) = true then lcL it.chk g t f δw (it.items.drop (i + 1)) (acc ++ [y]) G6 else .no).bind mk) Q := q3
            have c6 : L2.cle L6 := l0.trans (le5.trans le6).c
            have hr6' : HR K ((L6.frm L1.F).prv Dl (.lst av)) G6 H6 := by rw [frameOf L6 (le5.trans le6)]; exact hr6
            by_cases hk6 : (it.chk G6 && decide (acc.length < sizeLine)) = true
            · rw [if_pos hk6] at q4
              obtain ⟨hk6, hz6⟩ := Bool.and_eq_true_iff.mp hk6
              have hz6 := of_decide_eq_true hz6
              have ra6 : Reps K L6.Z L6.r acc av := Reps.mono (a := L2) (b := L6.frm L2.F) ⟨c6.z, c6.r, rfl⟩ ra
              exact ⟨av, hr6'.prvH, by rw [← Reps.length ra]; exact hz6, L6.frm L1.F, G6, acc ++ [y], av ++ [yv], (⟨(c2.trans c6).z, (c2.trans c6).r⟩ : L1.cle (L6.frm L1.F)), rfl, hr6'.prvSet (nofrz av), ra6.append (.cons ry .nil), hk6, up L6 c6 q4⟩
            · rw [if_neg hk6] at q4; exact q4.elim
          | false =>
            rw [if_neg Bool.false_ne_true] at q3 ⊢
            have c5 : L2.cle L5 := l0.trans le5.c
            have hr5' : HR K ((L5.frm L1.F).prv Dl (.lst av)) G5 H5 := by rw [frameOf L5 le5]; exact hr5
            by_cases hk5 : it.chk G5 = true
            · rw [if_pos hk5] at q3
              exact ⟨L5.frm L1.F, G5, acc, av, (⟨(c2.trans c5).z, (c2.trans c5).r⟩ : L1.cle (L5.frm L1.F)), rfl, hr5', Reps.mono (a := L2) (b := L5.frm L2.F) ⟨c5.z, c5.r, rfl⟩ ra, hk5, up L5 c5 q3⟩
            · rw [if_neg hk5] at q3; exact q3.elim
        | _ => rw [e1] at q2; exact q2.elim
      · refine .inl ⟨sv.stop _ G2 H2 i c2' hr2 hk2 (by omega), ?_⟩
        rw [List.drop_eq_nil_of_le (by omega)] at q2
        have q3 : Sat K W L2 σ (repD K) (mk acc G2) Q := q2
        have hF2 : L2.F Dl = none := by rw [f2]; exact hF
        have out := hr2.prvOut (nofrz av) hF2
        have fin := m K L2 G2 (fun b => if b = Dl then none else H2 b) acc av Dl W σ Q out ra (if_pos rfl) q3
        rw [upd_out hr2.prvH] at fin
        exact fin
    · rw [if_neg hk] at q1; exact q1.elim
theorem xe_lc {elt : Expr} {ifs : List Expr} {scope : Scope} {own : List (Str × Nat)} {mk : List D → GH → R D} {fi : FI} {g : FG} {t : FT} {f : FE} (m : Mk mk) (hc : X.calm = true) (hN : X.N.Nodup) (hi : xI X W tg iter fi) (ok : BlkOk X.N X.env.scope scope own)
    (hg : ∀ (s : Shared) (H : Hp) (C : Addr) (cl : List (Str × Addr)) (fp : List Addr), xG (X.blk s H scope (compEnvC scope cl C X.env) fp) (own.map (·.2)) tg g)
    (ht : ∀ (s : Shared) (H : Hp) (C : Addr) (cl : List (Str × Addr)) (fp : List Addr), xTs (X.blk s H scope (compEnvC scope cl C X.env) fp) ifs t)
    (he : ∀ (s : Shared) (H : Hp) (C : Addr) (cl : List (Str × Addr)) (fp : List Addr), xE (X.blk s H scope (compEnvC scope cl C X.env) fp) noW elt f) (hs : ∀ x, foldedSetIterable iter X.env x = pure x := by intro _; rfl) :
    xE X W (.ListComp elt [⟨tg, iter, ifs, 0⟩] scope pos) (eLc mk fi g t f (own.map (·.2))) :=
  PEimp (pe_lc (wi := tI X.K W fi) (g := tGt X.K (own.map fun p : Str × Nat => p.2) g) (tt := tG X.K noW repB t) (te := tG X.K noW (repD X.K) f) hc hN hi ok hg ht he hs) (lc_imp m)
theorem xs_setLc {i : Nat} {y : Str} {py spos : Pos} {elt : Expr} {ifs : List Expr} {scope : Scope} {own : List (Str × Nat)} {mk : List D → GH → R D} {fi : FI} {g : FG} {t : FT} {f : FE} (m : Mk mk) (hc : X.calm = true) (hN : X.N.Nodup) (hy : X.N[i]? = some y) (hyl : X.env.scope.names.lookup y = some .local) (hsw : swapsWith (.ListComp elt [⟨tg, iter, ifs, 0⟩] scope pos) (some (.Name y py)) spos.line X.env = pure true) (hi : xI X W tg iter fi) (ok : BlkOk X.N X.env.scope scope own)
    (hg : ∀ (s : Shared) (H : Hp) (C : Addr) (cl : List (Str × Addr)) (fp : List Addr), xG (X.blk s H scope (compEnvC scope cl C X.env) fp) (own.map (·.2)) tg g)
    (ht : ∀ (s : Shared) (H : Hp) (C : Addr) (cl : List (Str × Addr)) (fp : List Addr), xTs (X.blk s H scope (compEnvC scope cl C X.env) fp) ifs t)
    (he : ∀ (s : Shared) (H : Hp) (C : Addr) (cl : List (Str × Addr)) (fp : List Addr), xE (X.blk s H scope (compEnvC scope cl C X.env) fp) noW elt f) (hs : ∀ x, foldedSetIterable iter X.env x = pure x := by intro _; rfl) :
    xS X W (.Assign [.Name y py] (.ListComp elt [⟨tg, iter, ifs, 0⟩] scope pos) spos) (sSet i (eLc mk fi g t f (own.map (·.2)))) :=
  PSimp (ps_setLc (wi := tI X.K W fi) (g := tGt X.K (own.map fun p : Str × Nat => p.2) g) (tt := tG X.K noW repB t) (te := tG X.K noW (repD X.K) f) hc hN hy hyl hsw hi ok hg ht he hs) fun E σ H ⟨L, δ, G, hr, er, q⟩ =>
    lc_imp m σ H _ (Sat.thn hr er q fun L1 G1 H1 d v le hr1 er1 rd q1 => q1 L1 _ H1 (.refl _) hr1 (er1.set i rd))
end
end CF
end
section
set_option maxRecDepth 100000
set_option maxHeartbeats 1000000
/-! What is walked; defs, their calls; freezing. -/
namespace CF
open PySem PySem.Spec PyProof.Rows L2

theorem Rep.cmono {K : PySem.W.Frag} {a b : Lk} (h : a.cle b) {d : D} {v : V} (r : Rep K a.Z a.r d v) : Rep K b.Z b.r d v := Rep.mono (a := a) (b := b.frm a.F) ⟨h.z, h.r, rfl⟩ r
theorem Reps.cmono {K : PySem.W.Frag} {a b : Lk} (h : a.cle b) {d : List D} {v : List V} (r : Reps K a.Z a.r d v) : Reps K b.Z b.r d v := Reps.mono (a := a) (b := b.frm a.F) ⟨h.z, h.r, rfl⟩ r
theorem PIor {X : Cx} {tg e : Expr} {t t' : TI} (h : PI X tg e t) (h' : PI X tg e t') : PI X tg e (fun σ H R => t σ H R ∨ t' σ H R) := ⟨fun pins s σ H R I q => q.elim (h.run pins s σ H R I) (h'.run pins s σ H R I)⟩
theorem PEor {X : Cx} {e : Expr} {t t' : TE} (h : PE X e t) (h' : PE X e t') : PE X e (fun σ H R => t σ H R ∨ t' σ H R) := ⟨fun pins s σ H R I q => q.elim (h.run pins s σ H R I) (h'.run pins s σ H R I)⟩

/-- a key as a value -/
def kD : Key → D
  | .inl i => .int i
  | .inr x => .str x
@[simp] theorem kD_inl (i : Int) : kD (.inl i) = .int i := rfl
@[simp] theorem kD_inr (x : Str) : kD (.inr x) = .str x := rfl
open Classical in
/-- the items of a list, and that they stay -/
noncomputable def lstIts (G : GH) (x : D) : Option Its := match x with
  | .lst xs => some ⟨xs, fun _ => true⟩
  | .scr xs => some ⟨xs, fun _ => true⟩
  | .ref n => match G[n]? with
    | some (.lst xs) => some ⟨xs, fun G' => decide (G'[n]? = some (.lst xs))⟩
    | _ => none
  | _ => none
/-- the items of a value, and that they stay -/
noncomputable def itsD (G : GH) (x : D) : Option Its := match x with
  | .tup xs => some ⟨xs, fun _ => true⟩
  | .pt xs => some ⟨xs, fun _ => true⟩
  | .str z => some ⟨z.cps.toList.map fun c => .str ⟨#[c]⟩, fun _ => true⟩
  | .dK kvs => some ⟨kvs.map fun p => kD p.1, fun _ => true⟩
  | x => lstIts G x
@[simp] theorem lstIts_lst (G : GH) (xs : List D) : lstIts G (.lst xs) = some ⟨xs, fun _ => true⟩ := rfl
@[simp] theorem lstIts_scr (G : GH) (xs : List D) : lstIts G (.scr xs) = some ⟨xs, fun _ => true⟩ := rfl
@[simp] theorem itsD_tup (G : GH) (xs : List D) : itsD G (.tup xs) = some ⟨xs, fun _ => true⟩ := rfl
@[simp] theorem itsD_pt (G : GH) (xs : List D) : itsD G (.pt xs) = some ⟨xs, fun _ => true⟩ := rfl
@[simp] theorem itsD_lst (G : GH) (xs : List D) : itsD G (.lst xs) = some ⟨xs, fun _ => true⟩ := rfl
@[simp] theorem itsD_scr (G : GH) (xs : List D) : itsD G (.scr xs) = some ⟨xs, fun _ => true⟩ := rfl
@[simp] theorem itsD_str (G : GH) (z : Str) : itsD G (.str z) = some ⟨z.cps.toList.map fun c => .str ⟨#[c]⟩, fun _ => true⟩ := rfl
@[simp] theorem itsD_dK (G : GH) (kvs : List (Key × D)) : itsD G (.dK kvs) = some ⟨kvs.map fun p => kD p.1, fun _ => true⟩ := rfl
@[simp] theorem itsD_ref (G : GH) (n : Nat) : itsD G (.ref n) = lstIts G (.ref n) := rfl
noncomputable def iSeq (f : FE) : FI := fun δ G => (f δ G).bind fun x G1 => match itsD G1 x with
  | some it => .ok it G1
  | none => .no
section
variable {K : PySem.W.Frag}
theorem srv_list {L : Lk} {a : Addr} {vs : List V} {ds : List D} {chk : GH → Bool} (hs : ∀ L' G H, L.sle L' → HR K L' G H → chk G = true → SqL K H a vs) (t : Reps K L.Z L.r ds vs) : Srv K (Itl K a) L ds chk where
  go := fun L' G H i d c hr hk e => by
    have s := hs L' G H c hr hk
    obtain ⟨v, ev, r⟩ := t.get e
    refine ⟨⟨vs, v, s, ev⟩, fun x H2 y => ?_⟩
    obtain ⟨rfl, y2⟩ := y
    have q := y2 vs s
    rw [ev] at q
    cases q
    exact ⟨L', .refl _, hr, r.cmono c.c⟩
  stop := fun L' G H i c hr hk e => ⟨vs, hs L' G H c hr hk, by rw [← Reps.length t]; exact e⟩
theorem srv_tup {L : Lk} {a : Addr} {vs : List V} {ds : List D} {chk : GH → Bool} (hs : ∀ L' G H, L.sle L' → HR K L' G H → SqT K H a vs) (t : Reps K L.Z L.r ds vs) : Srv K (Itt K a) L ds chk where
  go := fun L' G H i d c hr hk e => by
    have s := hs L' G H c hr
    obtain ⟨v, ev, r⟩ := t.get e
    refine ⟨⟨vs, v, s, ev⟩, fun x H2 y => ?_⟩
    obtain ⟨rfl, y2⟩ := y
    have q := y2 vs s
    rw [ev] at q
    cases q
    exact ⟨L', .refl _, hr, r.cmono c.c⟩
  stop := fun L' G H i c hr hk e => ⟨vs, hs L' G H c hr, by rw [← Reps.length t]; exact e⟩
theorem srv_str {L : Lk} {z : Str} {chk : GH → Bool} : Srv K (L2.Its z) L (z.cps.toList.map fun c => .str ⟨#[c]⟩) chk where
  go := fun L' G H i d c hr hk e => by
    rw [List.getElem?_map] at e
    cases q : z.cps.toList[i]? with
    | none => rw [q] at e; cases e
    | some cc =>
      rw [q] at e; cases e
      have hi : i < z.cps.size := by simpa using (List.getElem?_eq_some_iff.mp q).1
      refine ⟨hi, fun x H2 y => ?_⟩
      obtain ⟨rfl, c', e1, rfl⟩ := y
      rw [Array.getElem?_toList, e1] at q
      cases q
      exact ⟨L', .refl _, hr, .str _⟩
  stop := fun L' G H i c hr hk e => by show z.cps.size ≤ i; simpa using e
theorem tupAt_sq {L : Lk} {G : GH} {H : Hp} {p : Addr} {vs : List V} (hr : HR K L G H) (z : TupAt K L.Z p vs) : SqT K H p vs := z.elim (fun z => .of (hr.z _ _ z).tup) fun z => .inr z
open Classical in
/-- how a walked list stands -/
theorem walkL {L : Lk} {G : GH} {H : Hp} {x : D} {v : V} {it : Its} (hr : HR K L G H) (h : Rep K L.Z L.r x v) (e : lstIts G x = some it) :
    ∃ a xs, v = .ref a ∧ SqL K H a xs ∧ Srv K (Itl K a) L it.items it.chk ∧ Reps K L.Z L.r it.items xs := by
  cases h with
  | lst z t =>
    cases e
    exact ⟨_, _, rfl, .of (hr.z _ _ z).lst, srv_list (fun L' G' H' c hr' _ => .of (hr'.z _ _ (c.z _ _ z)).lst) t, t⟩
  | scr z t =>
    cases e
    exact ⟨_, _, rfl, scr_sq hr z, srv_list (fun L' G' H' c hr' _ => scr_sq hr' (z.mono c.z)) t, t⟩
  | @ref n a q =>
    have hn : n < G.length := by rw [← hr.len]; exact (List.getElem?_eq_some_iff.mp q).1
    have c0 := hr.cell n a G[n] q (by simp [hn])
    have e' : (match G[n]? with | some (.lst xs) => some (Its.mk xs fun G' => decide (G'[n]? = some (.lst xs))) | _ => none) = some it := e
    rw [List.getElem?_eq_getElem hn] at e'
    cases k : G[n] with
    | lst xs =>
      rw [k] at e' c0
      cases e'
      cases c0 with
      | @lst _ vs _ h0 t0 =>
        refine ⟨a, _, rfl, .of h0, ⟨fun L' G' H' i d c hr' hk' e2 => ?_, fun L' G' H' i c hr' hk' e2 => ?_⟩, t0⟩
        · have hk2 := of_decide_eq_true hk'
          have c1 := hr'.cell n a _ (c.r _ _ q) hk2
          cases c1 with
          | lst h1 t1 =>
            obtain ⟨v, ev, r⟩ := t1.get e2
            refine ⟨⟨_, v, .of h1, ev⟩, fun x H2 y => ?_⟩
            obtain ⟨rfl, y2⟩ := y
            have q3 := y2 _ (.of h1)
            rw [ev] at q3
            cases q3
            exact ⟨L', .refl _, hr', r⟩
        · have hk2 := of_decide_eq_true hk'
          have c1 := hr'.cell n a _ (c.r _ _ q) hk2
          cases c1 with
          | lst h1 t1 => exact ⟨_, .of h1, by rw [← Reps.length t1]; exact e2⟩
    | _ => rw [k] at e'; cases e'
  | _ => cases e
end
/-! the keys of a dict: it is locked for the walk -/
theorem kD_rep {K : PySem.W.Frag} {Z : Hp} {r : List Addr} (k : Key) : Rep K Z r (kD k) (kV k) := by
  cases k with
  | inl i => exact .int i
  | inr x => exact .str x
theorem HR.lock {K : PySem.W.Frag} {L : Lk} {G : GH} {H : Hp} {d : Addr} {kvs : List (Key × V)} {o : Obj} (h : HR K L G H) (hz : L.Z d = some (.dK kvs)) (hd : H d = some (.dK kvs) ∨ H d = some (.frz o (.dK kvs))) :
    HR K (L.frm (upd L.F d (.frz o (.dK kvs)))) G (upd H d (.frz o (.dK kvs))) ∧ L.fle (L.frm (upd L.F d (.frz o (.dK kvs)))) := by
  have nr : ∀ n : Nat, L.r[n]? ≠ some d := fun n e => by
    have := h.dis n d e
    rw [hz] at this; cases this
  refine ⟨⟨fun p u e => ?_, h.len, fun n a c e1 e2 => (h.cell n a c e1 e2).frm (upd_ne fun q => nr n (q ▸ e1)), h.inj, h.dis, fun p u e => ?_, fun n a e1 => ?_, fun p u e => ?_⟩, fun _ _ e => e, fun _ _ e => e, fun p u e => ?_⟩
  · replace e : L.Z p = some u := e
    by_cases hp : p = d
    · subst hp
      rw [hz] at e; cases e
      exact .inr ⟨.inl ⟨_, rfl⟩, o, upd_same⟩
    · exact (h.z p u e).upd hp
  · have e : upd L.F d (.frz o (.dK kvs)) p = some u := e
    by_cases hp : p = d
    · subst hp; rw [upd_same] at e ⊢; exact e
    · rw [upd_ne hp] at e ⊢; exact h.fr p u e
  · show upd L.F d _ a = none
    rw [upd_ne fun (q : a = d) => nr n (q ▸ e1)]; exact h.fd n a e1
  · have e : upd L.F d (.frz o (.dK kvs)) p = some u := e
    by_cases hp : p = d
    · subst hp; rw [upd_same] at e; cases e; exact .inl ⟨_, _, rfl⟩
    · rw [upd_ne hp] at e; exact h.fz p u e
  · show upd L.F d _ p = some u
    by_cases hp : p = d
    · subst hp
      rw [upd_same]
      have q := h.fr p u e
      rcases hd with hd | hd
      · rw [hd] at q; cases q
        rcases h.fz p _ e with ⟨_, _, z⟩ | z
        · cases z
        · rw [hz] at z; cases z
      · rw [hd] at q; exact q
    · rw [upd_ne hp]; exact e
theorem upd_self {H : Hp} {p : Addr} {o : HO} (e : H p = some o) : upd H p o = H := by
  funext b
  by_cases hb : b = p
  · subst hb; rw [upd_same, e]
  · rw [upd_ne hb]
theorem srv_keys {K : PySem.W.Frag} {L : Lk} {d : Addr} {kds : List (Key × D)} {kvs : List (Key × V)} {o : Obj} {chk : GH → Bool} (hk : kds.map (·.1) = kvs.map (·.1)) : Srv K (Itk d o kvs) (L.frm (upd L.F d (.frz o (.dK kvs)))) (kds.map fun p => kD p.1) chk where
  go := fun L' G H i x c hr _ e => by
    have at1 : H d = some (.frz o (.dK kvs)) := hr.fr d _ (c.f d _ _ upd_same)
    have e2 : (kvs.map (·.1))[i]?.map kD = some x := by rw [← hk, ← List.getElem?_map, List.map_map]; exact e
    cases q : kvs[i]? with
    | none => rw [List.getElem?_map, q] at e2; cases e2
    | some kv =>
      rw [List.getElem?_map, q] at e2; cases e2
      refine ⟨⟨at1, (List.getElem?_eq_some_iff.mp q).1⟩, fun y H2 z => ?_⟩
      obtain ⟨rfl, k, v, z1, rfl⟩ := z
      rw [q] at z1; cases z1
      exact ⟨L', .refl _, hr, kD_rep _⟩
  stop := fun L' G H i c hr _ e => ⟨hr.fr d _ (c.f d _ _ upd_same), by
    have hl := congrArg List.length hk
    simp only [List.length_map] at hl e
    omega⟩
def iKeysA (td : TE) : TI := fun σ H R => td σ H fun x H1 => ∃ d kvs, x = .ref d ∧ ((H1 d = some (.dK kvs) ∧ ∀ o, R (Itk d o kvs) (upd H1 d (.frz o (.dK kvs)))) ∨ ∃ o, H1 d = some (.frz o (.dK kvs)) ∧ R (Itk d o kvs) H1)
theorem pi_keysA {X : Cx} {tg e : Expr} {td : TE} (he : PE X e td) : PI X tg e (iKeysA td) := by
  refine ⟨fun pins s σ H R I h => thn (he.run pins s σ H _ I h) fun u s1 ⟨x, H1, I1, rx, d, kvs, ex, q⟩ => ?_⟩
  subst ex
  cases (show u = Value.ref d from rx)
  have fin : ∀ (o : Obj) (H2 : Hp), Inv X pins σ H2 s1 → H2 d = some (.frz o (.dK kvs)) → R (Itk d o kvs) H2 → wpAny (model X.prog X.w) X.A (pyIter (.ref d)) (PIE X pins σ tg R) X.xe s1 := fun o H2 I2 hd q2 => by
    obtain ⟨h1, h2, h3, es, ep, vs, h4, h5, kv, hm⟩ := I2.frzK hd
    refine iter_keys h1 h2 h3 h4 (pi_one (tk := s1.toks) I2 _ (turn_keys _ h4) ⟨_, Heap.get?_push_size _ rfl, rfl, ?_⟩ q2)
    rw [h5] <;> rfl
  rcases q with ⟨hd, q⟩ | ⟨o, hd, q⟩
  · obtain ⟨od, I2⟩ := I1.lock hd True.intro
    exact fin od _ I2 upd_same (q od)
  · exact fin o H1 I1 hd q
section
variable {X : Cx} {W : WX} {pos p : Pos} {tg : Expr}
/-- any list, tuple, text; a dict's keys -/
theorem xi_seq {e : Expr} {f : FE} (h : xE X W e f) : xI X W tg e (iSeq f) :=
  PIimp (PIor (PIor (PIor (pi_list (tg := tg) h) (pi_tup h)) (pi_str h)) (pi_keysA h)) fun σ H Q ⟨L, δ, G, hr, er, q⟩ => by
    cases e0 : f δ G with
    | no =>
      simp only [iSeq, e0, R.bind_no] at q
    | ex x G1 =>
      simp only [iSeq, e0, R.bind_ex] at q
      refine .inl (.inl (.inl ⟨L, δ, G, hr, er, ?_⟩))
      rw [e0]; exact q
    | ok x G1 =>
      simp only [iSeq, e0, R.bind_ok] at q
      cases e1 : itsD G1 x with
      | none => rw [e1] at q; exact q.elim
      | some it =>
        rw [e1] at q
        have lists : lstIts G1 x = some it → iList X.K (tG X.K W (repD X.K) f) σ H Q := fun e2 => by
          refine ⟨L, δ, G, hr, er, ?_⟩
          rw [e0]
          intro L1 H1 v le hr1 rx
          obtain ⟨a, xs, e3, e4, s, _⟩ := walkL hr1 (show Rep X.K L1.Z L1.r x v from rx) e2
          exact ⟨a, e3, ⟨xs, e4⟩, q L1 H1 _ le.fl hr1 s⟩
        cases x with
        | tup xs =>
          cases e1
          refine .inl (.inl (.inr ⟨L, δ, G, hr, er, ?_⟩))
          rw [e0]
          intro L1 H1 v le hr1 rx
          have rx' : Rep X.K L1.Z L1.r (.tup xs) v := rx
          cases rx' with
          | tup z t => exact ⟨_, rfl, ⟨_, tupAt_sq hr1 z⟩, q L1 H1 _ le.fl hr1 (srv_tup (fun L' G' H' c hr' => tupAt_sq hr' (z.mono c.z)) t)⟩
        | pt xs =>
          cases e1
          refine .inl (.inl (.inr ⟨L, δ, G, hr, er, ?_⟩))
          rw [e0]
          intro L1 H1 v le hr1 rx
          have rx' : Rep X.K L1.Z L1.r (.pt xs) v := rx
          cases rx' with
          | @pt _ o _ _ z k t => exact ⟨_, rfl, ⟨_, .inl (.inr ⟨o, (hr1.z _ _ z).frz⟩)⟩, q L1 H1 _ le.fl hr1 (srv_tup (fun L' G' H' c hr' => .inl (.inr ⟨o, (hr'.z _ _ (c.z _ _ z)).frz⟩)) t)⟩
        | str z =>
          cases e1
          refine .inl (.inr ⟨L, δ, G, hr, er, ?_⟩)
          rw [e0]
          intro L1 H1 v le hr1 rx
          have rx' : Rep X.K L1.Z L1.r (.str z) v := rx
          cases rx'
          exact ⟨z, rfl, q L1 H1 _ le.fl hr1 srv_str⟩
        | dK kds =>
          cases e1
          refine .inr ⟨L, δ, G, hr, er, ?_⟩
          rw [e0]
          intro L1 H1 v le hr1 rx
          have rx' : Rep X.K L1.Z L1.r (.dK kds) v := rx
          cases rx' with
          | @dK d kvs _ z k t =>
            rcases hr1.z _ _ z with hd | ⟨_, o, hd⟩
            · exact ⟨d, kvs, rfl, .inl ⟨hd, fun o => let ⟨a, b⟩ := hr1.lock (o := o) z (.inl hd); q _ _ _ (⟨fun p u e => b.z p u (le.z p u e), fun n y e => b.r n y (le.r n y e), fun p u e => b.f p u (by rw [le.f]; exact e)⟩) a (srv_keys k)⟩⟩
            · obtain ⟨a, b⟩ := hr1.lock (o := o) z (.inr hd)
              rw [upd_self hd] at a
              exact ⟨d, kvs, rfl, .inr ⟨o, hd, q _ _ _ (⟨fun p u e => b.z p u (le.z p u e), fun n y e => b.r n y (le.r n y e), fun p u e => b.f p u (by rw [le.f]; exact e)⟩) a (srv_keys k)⟩⟩
        | _ => exact .inl (.inl (.inl (lists e1)))
/-- range(n), range(a, b) -/
def rngIts (lo : Int) (n : Nat) : Its := ⟨(List.range n).map fun i => .int (lo + (i : Nat)), fun _ => true⟩
theorem srv_rng {K : PySem.W.Frag} {L : Lk} {lo : Int} {n : Nat} : Srv K (Itr lo n) L (rngIts lo n).items (rngIts lo n).chk where
  go := fun L' G H i d c hr hk e => by
    have e : ((List.range n).map fun i => D.int (lo + (i : Nat)))[i]? = some d := e
    rw [List.getElem?_map] at e
    by_cases hi : i < n
    · rw [List.getElem?_range hi] at e
      cases e
      refine ⟨hi, fun x H2 y => ?_⟩
      obtain ⟨rfl, rfl⟩ := y
      exact ⟨L', .refl _, hr, .int _⟩
    · rw [List.getElem?_eq_none (by simpa using hi)] at e
      cases e
  stop := fun L' G H i c hr hk e => by
    have e : ((List.range n).map fun i => D.int (lo + (i : Nat))).length ≤ i := e
    show n ≤ i
    simpa using e
/-- what range takes -/
def rngC (j : Int) : Prop := -(2 ^ 62) ≤ j ∧ j < 2 ^ 62
instance (j : Int) : Decidable (rngC j) := by unfold rngC; infer_instance
theorem rngC_nat {n : Nat} (h : n < 1000000) : rngC (n : Int) := by unfold rngC; omega
def iRg1 (g : FA) : FI := fun δ G => (g δ G).bind fun ds G1 => match ds with
  | [.int j] => if rngC j then .ok (rngIts 0 j.toNat) G1 else .no
  | _ => .no
def iRg2 (g : FA) : FI := fun δ G => (g δ G).bind fun ds G1 => match ds with
  | [.int i, .int j] => if rngC i ∧ rngC j then .ok (rngIts i (j - i).toNat) G1 else .no
  | _ => .no
theorem aBindI {α : Type} {K : PySem.W.Frag} {L : Lk} {σ : St} {δ : DEnv} {G : GH} {H : Hp} {rep : Lk → D → V → Prop} {β : Type} {rp : Lk → α → β → Prop} {f : DEnv → GH → R α} {k : α → GH → R Its} {Q : It → Hp → Prop} {Q1 : β → Hp → Prop}
    (hr : HR K L G H) (er : ER K L δ σ) (h : match (f δ G).bind k with
      | .ok it G1 => ∀ L' H' J, L.fle L' → HR K L' G1 H' → Srv K J L' it.items it.chk → Q J H'
      | .ex x G1 => ∀ L' H' c dx, L.le L' → HR K L' G1 H' → XRep K L' x c dx → W c dx σ H'
      | .no => False)
    (nx : ∀ L1 G1 H1 a v, L.le L1 → HR K L1 G1 H1 → rp L1 a v → (match k a G1 with
      | .ok it G1 => ∀ L' H' J, L.fle L' → HR K L' G1 H' → Srv K J L' it.items it.chk → Q J H'
      | .ex x G1 => ∀ L' H' c dx, L.le L' → HR K L' G1 H' → XRep K L' x c dx → W c dx σ H'
      | .no => False) → Q1 v H1) : tG K W rp f σ H Q1 := by
  refine ⟨L, δ, G, hr, er, ?_⟩
  cases e : f δ G with
  | ok a G1 =>
    rw [e] at h
    exact fun L1 H1 v le hr1 ra => nx L1 G1 H1 a v le hr1 ra h
  | ex x G1 =>
    rw [e] at h
    exact h
  | no =>
    rw [e] at h
    exact h
theorem xi_range1 {a : Expr} {g : FA} (hg : Gl X "range") (hm : X.mg "range" = none) (ha : xA X W [a] g) (hs : starEach [a] X.env = [(false, eval a X.env)] := by rfl) : xI X W tg (.Call (.Name "range" p) [a] [] pos) (iRg1 g) :=
  PIimp (pi_range1 hg hm ha hs) fun σ H Q ⟨L, δ, G, hr, er, q⟩ => aBindI (rp := repA X.K) (rep := repD X.K) hr er q fun L1 G1 H1 ds vs le hr1 rd q1 => by
    cases rd with
    | nil => exact q1.elim
    | cons r t =>
      cases r with
      | int j =>
        cases t with
        | nil =>
          have q2 : (match (if rngC j then R.ok (rngIts 0 j.toNat) G1 else .no) with
            | .ok it G1 => ∀ L' H' J, L.fle L' → HR X.K L' G1 H' → Srv X.K J L' it.items it.chk → Q J H'
            | .ex x G1 => ∀ L' H' c dx, L.le L' → HR X.K L' G1 H' → XRep X.K L' x c dx → W c dx σ H'
            | .no => False) := q1
          by_cases k : rngC j
          · rw [if_pos k] at q2
            exact ⟨j, rfl, k.1, k.2, q2 L1 H1 _ le.fl hr1 srv_rng⟩
          · rw [if_neg k] at q2; exact q2.elim
        | cons _ _ => exact q1.elim
      | _ => cases t <;> exact q1.elim
theorem xi_range2 {a b : Expr} {g : FA} (hg : Gl X "range") (hm : X.mg "range" = none) (ha : xA X W [a, b] g) (hs : starEach [a, b] X.env = [(false, eval a X.env), (false, eval b X.env)] := by rfl) (hs2 : starEach [b] X.env = [(false, eval b X.env)] := by rfl) : xI X W tg (.Call (.Name "range" p) [a, b] [] pos) (iRg2 g) :=
  PIimp (pi_range2 hg hm ha hs hs2) fun σ H Q ⟨L, δ, G, hr, er, q⟩ => aBindI (rp := repA X.K) (rep := repD X.K) hr er q fun L1 G1 H1 ds vs le hr1 rd q1 => by
    have bad : ∀ {ds : List D}, (∀ i j, ds ≠ [.int i, .int j]) → (match (match ds with
        | [.int i, .int j] => if rngC i ∧ rngC j then R.ok (rngIts i (j - i).toNat) G1 else .no
        | _ => .no : R Its) with
            | .ok it G1 => ∀ L' H' J, L.fle L' → HR X.K L' G1 H' → Srv X.K J L' it.items it.chk → Q J H'
            | .ex x G1 => ∀ L' H' c dx, L.le L' → HR X.K L' G1 H' → XRep X.K L' x c dx → W c dx σ H'
            | .no => False) → False := fun {ds} h q => by
      split at q
      · rename_i e
        split at e
        · rename_i i j; exact h i j rfl
        · cases e
      · rename_i e
        split at e
        · rename_i i j; exact h i j rfl
        · cases e
      · exact q
    by_cases hd : ∃ i j, ds = [.int i, .int j]
    · obtain ⟨i, j, rfl⟩ := hd
      cases rd with
      | cons r t =>
        cases r
        cases t with
        | cons r t =>
          cases r
          cases t
          have q2 : (match (if rngC i ∧ rngC j then R.ok (rngIts i (j - i).toNat) G1 else .no) with
            | .ok it G1 => ∀ L' H' J, L.fle L' → HR X.K L' G1 H' → Srv X.K J L' it.items it.chk → Q J H'
            | .ex x G1 => ∀ L' H' c dx, L.le L' → HR X.K L' G1 H' → XRep X.K L' x c dx → W c dx σ H'
            | .no => False) := q1
          by_cases k : rngC i ∧ rngC j
          · rw [if_pos k] at q2
            exact ⟨i, j, rfl, ⟨k.1.1, k.1.2, k.2.1, k.2.2⟩, q2 L1 H1 _ le.fl hr1 srv_rng⟩
          · rw [if_neg k] at q2; exact q2.elim
    · exact (bad (fun i j e => hd ⟨i, j, e⟩) q1).elim
end

/-! ### defs -/
def startD (N : List Str) (ds : List D) : DEnv := ds.map some ++ List.replicate (N.length - ds.length) none
theorem er_start {K : PySem.W.Frag} {L : Lk} {N : List Str} {ds : List D} {vs : List V} (t : Reps K L.Z L.r ds vs) : ER K L (startD N ds) (L2.start N vs) := by
  have hl := t.length
  refine ⟨by simp [startD, L2.start, hl], fun i d e => ?_⟩
  unfold startD at e
  unfold L2.start
  by_cases hi : i < ds.length
  · rw [List.getElem?_append_left (by simpa using hi), List.getElem?_map] at e
    cases q : ds[i]? with
    | none => rw [q] at e; cases e
    | some x =>
      rw [q] at e; cases e
      obtain ⟨v, e1, r⟩ := t.get q
      exact ⟨v, by rw [List.getElem?_append_left (by rw [List.length_map, ← hl]; exact hi), List.getElem?_map, e1]; rfl, r⟩
  · rw [List.getElem?_append_right (by simpa using hi), List.getElem?_replicate] at e
    split at e <;> cases e
/-- a def's function, from its body's -/
def defF (N : List Str) (fb : FS) : List D → GH → R D := fun ds G => match fb (startD N ds) G with
  | .nx _ G' => .ok .non G'
  | .rt d G' => .ok d G'
  | .ex x _ G' => .ex x G'
  | _ => .no
/-- the promise: F tells the value and the cells behind -/
def spD (K : PySem.W.Frag) (n : Nat) (F : List D → GH → R D) : Sp := fun vs H Q E => vs.length = n ∧ ∃ L ds G, HR K L G H ∧ Reps K L.Z L.r ds vs ∧ Sat K (fun c dx _ H' => E c dx H') L [] (repD K) (F ds G) Q
/-- a def does what F tells, wherever it is called outside of a repr -/
structure FnD (P : Program) (w : World) (K : PySem.W.Frag) (mg : Str → Option Value) (base : Heap) (k : Nat) (f : Addr) (fd : FuncData) (ps : List Str) (F : List D → GH → R D) : Prop where
  go : ∀ (B : Around) (up : List Env) (s : Shared) (H : Hp) (ar : Args) (us : List Value) (vs : List V) (Q : VK) (E : XK), Room k B → B.guards = some [] → Env0 P w K mg base B up s H → BindsTo s fd ar (ps.zip us) → Vals vs us → spD K ps.length F vs H Q E →
    codeAny (model P w) B (.call (.ref f) ar) (CR (L2.CX P w) up P w H s Q E) s
/-- what a def's body wishes of exceptions -/
abbrev wE (E : XK) : WX := fun c dx _ H => E c dx H
section
variable {P : Program} {w : World} {K : PySem.W.Frag} {mg : Str → Option Value} {base : Heap}
/-- a def of the text as it stands behind the top -/
structure FnAt (K : PySem.W.Frag) (x qual : Str) (st : Stmt) (f : Addr) (fd : FuncData) : Prop where
  ex : ∃ (oc : Value) (od : Option Addr) (dV kV doc pm : Value) (an : Option Addr) (cdv ct : Value) (osl : Array (Option Value)),
    fd = PySem.W.fnOf x qual (defArgs st) (defBody st) (defScope st) dV kV doc pm an cdv ct ∧ K.lookup f = some ⟨oc, od, .func fd, osl⟩ ∧ PySem.W.codeIn K cdv qual = true
  kp : PySem.W.keepIn K (.ref f) = true
theorem FnAt.mk0 {x qual : Str} {st : Stmt} {f : Addr} {fd : FuncData} (F : Fun K x qual st f fd) : FnAt K x qual st f fd :=
  ⟨let ⟨oc, od, kV, doc, pm, an, cdv, ct, osl, e, l, c⟩ := F.ex; ⟨oc, od, .none, kV, doc, pm, an, cdv, ct, osl, e, l, c⟩, F.kp⟩
theorem FnAt.mkD {x qual : Str} {st : Stmt} {f : Addr} {fd : FuncData} {dvs : List V} {kws : List (Str × V)} (F : FunD K x qual (defArgs st) (defBody st) (defScope st) dvs kws f fd) : FnAt K x qual st f fd :=
  ⟨let ⟨oc, od, dV, kV, doc, pm, an, cdv, ct, osl, e, l, c, _, _⟩ := F.ex; ⟨oc, od, dV, kV, doc, pm, an, cdv, ct, osl, e, l, c⟩, F.kp⟩
/-- THE RULE for a def -/
theorem fnD {x qual : Str} {st : Stmt} {f : Addr} {fd : FuncData} {N ps : List Str} {k : Nat} {fb : FS} (F : FnAt K x qual st f fd) (S : FnScope N ps (defScope st))
    (h : ∀ (cdv : Value) (A : Around) (outer : List Env) (s : Shared) (H : Hp) (E : XK), Room k (A.deeper (envOfC qual (defScope st) s.heap.objs.size f cdv)) → A.guards = some [] →
      xSs (cxOf (L2.CX P w) P w K mg base N qual (defScope st) f cdv A outer s H E) (wE E) (defBody st) fb) : FnD P w K mg base (k + 1) f fd ps (defF N fb) := by
  obtain ⟨oc, od, dV, kV, doc, pm, an, cdv, ct, osl, rfl, lk, hcd⟩ := F.ex
  refine ⟨fun B up s H ar us vs Q E room gd e0 bnd rel prom => ?_⟩
  obtain ⟨nv, L, ds, G, hr0, rd, q⟩ := prom
  have at0 := e0.bs
  have KI : K.In s.heap := e0.mod.kin.keeps fun b o z => (at0 b o z).1
  have NL : s.heap.NoLimit := e0.mod.nolimit.keeps fun b o z => (at0 b o z).1
  refine codeAny_call_function room.depth (KI _ _ lk) rfl S.co S.gen rfl (PySem.W.codeRec_of KI hcd) (bnd _ _ _ _ ?_)
  refine wpAny_newFunctionEnv_cells S.kind (fun ⟨nm, _⟩ hy => (S.par nm (List.of_mem_zip hy).1).imp id fun z => ⟨z, PySem.W.cellsFrom_some _ _ _ (.inl z)⟩) fun env ee s1 inC => ?_
  subst ee
  refine ⟨NL.keeps inC.toInCall.keep, codeAny_func ?_⟩
  have I : Inv (cxOf (L2.CX P w) P w K mg base N qual (defScope st) f cdv B up s H E) [] (L2.start N vs) H s1 := inv_start S room.hd e0 nv rel inC
  have body := h cdv B up s H E (room.deeper _) gd
  have qs : tS K (wE E) fb { nx := fun _ H' => Q .non H', rt := Q } (L2.start N vs) H := by
    refine ⟨L, startD N ds, G, hr0, er_start rd, ?_⟩
    have q' : Sat K (fun c dx _ H' => E c dx H') L [] (repD K) (defF N fb ds G) Q := q
    unfold defF at q'
    cases e : fb (startD N ds) G with
    | nx δ G' => rw [e] at q'; exact fun L' σ' H' le hr2 _ => q' L' H' .non le hr2 .non
    | rt d G' => rw [e] at q'; exact q'
    | ex x δ G' => rw [e] at q'; exact fun L' σ' H' c dx le hr2 _ xr => q' L' H' c dx le hr2 xr
    | bk δ G' => rw [e] at q'; exact q'.elim
    | ct δ G' => rw [e] at q'; exact q'.elim
    | no => rw [e] at q'; exact q'.elim
  refine wpAny_mono (body.run [] s1 (L2.start N vs) H _ I qs) (fun fl s' z => ?_) fun _ _ z => z
  cases fl with
  | ret u =>
    obtain ⟨v, _, H', J, rv, z⟩ := z
    exact ⟨v, H', J.os, J.bare, J.base, J.hok, rv, z⟩
  | next =>
    obtain ⟨_, H', J, z⟩ := z
    exact ⟨.non, H', J.os, J.bare, J.base, J.hok, rfl, z⟩
  | brk => obtain ⟨_, _, _, z⟩ := z; exact z.elim
  | cont => obtain ⟨_, _, _, z⟩ := z; exact z.elim
end
section
variable {X : Cx} {W : WX} {pos p : Pos}
theorem Sat.w {α β : Type} {K : PySem.W.Frag} {W W' : WX} {L : Lk} {σ σ' : St} {rep : Lk → α → β → Prop} {r : R α} {Q : β → Hp → Prop} (h : Sat K W L σ rep r Q) (hw : ∀ c dx H, W c dx σ H → W' c dx σ' H) : Sat K W' L σ' rep r Q := by
  cases r with
  | ok d G => exact h
  | ex x G => exact fun L' H' c dx le hr xr => hw _ _ _ (h L' H' c dx le hr xr)
  | no => exact h
/-- f(..), f a def of the text; dds: the values of the parameters that aren't given -/
def eCall (n : Nat) (F : List D → GH → R D) (dds : List D) (g : FA) : FE := fun δ G => (g δ G).bind fun ds G1 => if (ds ++ dds).length = n then F (ds ++ dds) G1 else .no
theorem xe_callD {k : Nat} {f : Addr} {fd : FuncData} {ps : List Str} {F : List D → GH → R D} {ds : List Value} {dvs : List V} {dds : List D} {x : Str} {e : Expr} {es : List Expr} {g : FA} (tk : Takes X W)
    (Fn : FnD X.prog X.w X.K X.mg X.base k f fd ps F) (hr : Room k X.A) (hgd : X.A.guards = some []) (hm : X.mg x = some (.ref f)) (hk : PySem.W.keepIn X.K (.ref f) = true) (hb : Binds X.K fd ps ds) (hd : Vals dvs ds) (rd : ∀ L : Lk, Reps X.K L.Z L.r dds dvs)
    (ha : xA X W (e :: es) g) (hg : Gl X x := by rfl) (hdb : (x == ("__debug__" : Str)) = false := by decide) (he : starEach (e :: es) X.env = (false, eval e X.env) :: starEach es X.env := by rfl) (hpl : (backTo pos (starEach es X.env)).any (·.1) = false := by rfl) :
    xE X W (.Call (.Name x p) (e :: es) [] pos) (eCall ps.length F dds g) := by
  refine ⟨fun pins s σ H Q I h => wpAny_Call_Name_kw (ld_glob I hg hm ?_ hdb)⟩
  obtain ⟨L, δ, G, hr', er, q⟩ := h
  refine PySem.W.callWith_K (h₀ := X.base) I.ok.mod.kin hk (thn (ha.run pos pins s σ H (fun vs H1 => spD X.K ps.length F (vs ++ dvs) H1 Q (fun c d H => W c d σ H)) I
    (Sat.bind (rep' := repD X.K) hr' er q fun L1 G1 H1 as vs le hr1 er1 ra q1 => by
      have t : Reps X.K L1.Z L1.r (as ++ dds) (vs ++ dvs) := Reps.append ra (rd L1)
      by_cases hl : (as ++ dds).length = ps.length
      · rw [if_pos hl] at q1
        exact ⟨by rw [← t.length]; exact hl, L1, as ++ dds, G1, hr1, t, Sat.w q1 fun _ _ _ h => h⟩
      · rw [if_neg hl] at q1; exact q1.elim)) fun us s1 ⟨vs, H1, I1, r, pr⟩ => ⟨I1.kIn, ?_⟩) he hpl
  have rall : Vals (vs ++ dvs) (us ++ ds) := r.append hd
  have hl : (us ++ ds).length = ps.length := by rw [← rall.length]; exact pr.1
  refine wpAny_call (codeAny_mono (Fn.go X.A X.stack s1 H1 ⟨us, []⟩ (us ++ ds) (vs ++ dvs) Q _ hr hgd I1.env0 (hb s1 us I1.kIn hl) rall pr) fun out s' z => ?_)
  match out, z with
  | .error e, z => exact passAt tk σ pins H1 s1 e s' I1 z
  | .ok (.ret u), z => exact I1.after z
  | .ok .next, z => exact False.elim z
  | .ok .brk, z => exact False.elim z
  | .ok .cont, z => exact False.elim z
end
end CF
end
section
set_option maxRecDepth 100000
set_option maxHeartbeats 1000000
/-! Freezing: what a def has made is told as values; its cells are forgotten. -/
namespace CF
open PySem PySem.Spec PyProof.Rows L2

mutual
/-- a value with its cells looked up -/
def fzW (rf : Nat → Option D) : D → Option D
  | .non => some .non
  | .bl b => some (.bl b)
  | .int i => some (.int i)
  | .str x => some (.str x)
  | .tup xs => match fzWs rf xs with
    | some ys => some (.tup ys)
    | none => none
  | .pt xs => match fzWs rf xs with
    | some ys => some (.pt ys)
    | none => none
  | .lst xs => match fzWs rf xs with
    | some ys => some (.lst ys)
    | none => none
  | .scr xs => match fzWs rf xs with
    | some ys => some (.scr ys)
    | none => none
  | .dK kvs => match fzWk rf kvs with
    | some ys => some (.dK ys)
    | none => none
  | .dT kvs => match fzWt rf kvs with
    | some ys => some (.dT ys)
    | none => none
  | .ins C fs => match fzWf rf fs with
    | some ys => some (.ins C ys)
    | none => none
  | .ref n => rf n
def fzWs (rf : Nat → Option D) : List D → Option (List D)
  | [] => some []
  | x :: r => match fzW rf x, fzWs rf r with
    | some y, some ys => some (y :: ys)
    | _, _ => none
def fzWk (rf : Nat → Option D) : List (Key × D) → Option (List (Key × D))
  | [] => some []
  | (k, x) :: r => match fzW rf x, fzWk rf r with
    | some y, some ys => some ((k, y) :: ys)
    | _, _ => none
def fzWt (rf : Nat → Option D) : List (List Key × D) → Option (List (List Key × D))
  | [] => some []
  | (k, x) :: r => match fzW rf x, fzWt rf r with
    | some y, some ys => some ((k, y) :: ys)
    | _, _ => none
def fzWf (rf : Nat → Option D) : List (Str × D) → Option (List (Str × D))
  | [] => some []
  | (k, x) :: r => match fzW rf x, fzWf rf r with
    | some y, some ys => some ((k, y) :: ys)
    | _, _ => none
end
/-- the cells from n on are looked up, m deep -/
def fzr (G : GH) (n : Nat) : Nat → Nat → Option D
  | 0, k => if k < n then some (.ref k) else none
  | m + 1, k => if k < n then some (.ref k) else match G[k]? with
    | some (.lst ds) => (match fzWs (fzr G n m) ds with
      | some ys => some (.lst ys)
      | none => none)
    | some (.dK ds) => (match fzWk (fzr G n m) ds with
      | some ys => some (.dK ys)
      | none => none)
    | some (.dT ds) => (match fzWt (fzr G n m) ds with
      | some ys => some (.dT ys)
      | none => none)
    | some (.ins C ds) => (match fzWf (fzr G n m) ds with
      | some ys => some (.ins C ys)
      | none => none)
    | none => none
abbrev fzD (G : GH) (n : Nat) : D → Option D := fzW (fzr G n 4)
abbrev fzDs (G : GH) (n : Nat) : List D → Option (List D) := fzWs (fzr G n 4)
/-- no cell in it -/
def pure0 (d : D) : Prop := ∀ rf, fzW rf d = some d
def pures0 (d : List D) : Prop := ∀ rf, fzWs rf d = some d
theorem pure0_non : pure0 .non := fun _ => by rw [fzW]
theorem pure0_bl (b : Bool) : pure0 (.bl b) := fun _ => by rw [fzW]
theorem pure0_int (b : Int) : pure0 (.int b) := fun _ => by rw [fzW]
theorem pure0_str (b : Str) : pure0 (.str b) := fun _ => by rw [fzW]
theorem pure0_tup {xs : List D} (h : pures0 xs) : pure0 (.tup xs) := fun rf => by rw [fzW, h rf]
theorem pure0_pt {xs : List D} (h : pures0 xs) : pure0 (.pt xs) := fun rf => by rw [fzW, h rf]
theorem pure0_lst {xs : List D} (h : pures0 xs) : pure0 (.lst xs) := fun rf => by rw [fzW, h rf]
theorem pures0_nil : pures0 [] := fun _ => by rw [fzWs]
theorem pures0_cons {x : D} {xs : List D} (h : pure0 x) (t : pures0 xs) : pures0 (x :: xs) := fun rf => by rw [fzWs, h rf, t rf]
theorem pures0_map {α : Type} {f : α → D} (h : ∀ a, pure0 (f a)) : ∀ l : List α, pures0 (l.map f)
  | [] => pures0_nil
  | a :: l => pures0_cons (h a) (pures0_map h l)
theorem pures0_all : ∀ {l : List D}, (∀ d ∈ l, pure0 d) → pures0 l
  | [], _ => pures0_nil
  | a :: l, h => pures0_cons (h a (List.mem_cons_self ..)) (pures0_all fun d hd => h d (List.mem_cons_of_mem _ hd))

/-- all that stands at cells from n on, beside what is frozen -/
noncomputable def zFull (Z : Hp) (r : List Addr) (n : Nat) (H : Hp) : Hp := fun p => match Z p with
  | some o => some o
  | none => open Classical in if ∃ k, n ≤ k ∧ r[k]? = some p then H p else none
theorem zFull_old {Z : Hp} {r : List Addr} {n : Nat} {H : Hp} {p : Addr} {o : HO} (e : Z p = some o) : zFull Z r n H p = some o := by unfold zFull; rw [e]
theorem zFull_new {Z : Hp} {r : List Addr} {n k : Nat} {H : Hp} {p : Addr} (e : Z p = none) (h : n ≤ k) (q : r[k]? = some p) : zFull Z r n H p = H p := by unfold zFull; rw [e]; exact if_pos ⟨k, h, q⟩
theorem zFull_none {Z : Hp} {r : List Addr} {n : Nat} {H : Hp} {p : Addr} (e : Z p = none) (h : ∀ k, n ≤ k → r[k]? ≠ some p) : zFull Z r n H p = none := by
  unfold zFull; rw [e]; exact if_neg fun ⟨k, a, b⟩ => h k a b
section
variable {K : PySem.W.Frag}
/-- rf tells what the cells' addresses are -/
def RfOk (K : PySem.W.Frag) (L1 : Lk) (Z' : Hp) (r' : List Addr) (rf : Nat → Option D) : Prop := ∀ k d' a, rf k = some d' → L1.r[k]? = some a → Rep K Z' r' d' (.ref a)
mutual
theorem fzW_rep {L1 : Lk} {Z' : Hp} {r' : List Addr} {rf : Nat → Option D} (hz : ∀ p o, L1.Z p = some o → Z' p = some o) (hf : RfOk K L1 Z' r' rf) : ∀ (d d' : D) (v : V), fzW rf d = some d' → Rep K L1.Z L1.r d v → Rep K Z' r' d' v
  | .non, _, _, e, h => by rw [fzW] at e; cases e; cases h; exact .non
  | .bl b, _, _, e, h => by rw [fzW] at e; cases e; cases h; exact .bl b
  | .int b, _, _, e, h => by rw [fzW] at e; cases e; cases h; exact .int b
  | .str b, _, _, e, h => by rw [fzW] at e; cases e; cases h; exact .str b
  | .tup xs, _, _, e, h => by
    rw [fzW] at e
    cases q : fzWs rf xs with
    | none => rw [q] at e; cases e
    | some ys =>
      rw [q] at e; cases e
      cases h with
      | tup z t => exact .tup (z.mono hz) (fzWs_rep hz hf xs ys _ q t)
  | .pt xs, _, _, e, h => by
    rw [fzW] at e
    cases q : fzWs rf xs with
    | none => rw [q] at e; cases e
    | some ys =>
      rw [q] at e; cases e
      cases h with
      | pt z k t => exact .pt (hz _ _ z) k (fzWs_rep hz hf xs ys _ q t)
  | .lst xs, _, _, e, h => by
    rw [fzW] at e
    cases q : fzWs rf xs with
    | none => rw [q] at e; cases e
    | some ys =>
      rw [q] at e; cases e
      cases h with
      | lst z t => exact .lst (hz _ _ z) (fzWs_rep hz hf xs ys _ q t)
  | .scr xs, _, _, e, h => by
    rw [fzW] at e
    cases q : fzWs rf xs with
    | none => rw [q] at e; cases e
    | some ys =>
      rw [q] at e; cases e
      cases h with
      | scr z t => exact .scr (z.mono hz) (fzWs_rep hz hf xs ys _ q t)
  | .dK xs, _, _, e, h => by
    rw [fzW] at e
    cases q : fzWk rf xs with
    | none => rw [q] at e; cases e
    | some ys =>
      rw [q] at e; cases e
      cases h with
      | dK z k t =>
        obtain ⟨a, b⟩ := fzWk_rep hz hf xs ys _ q t
        exact .dK (hz _ _ z) (a.trans k) b
  | .dT xs, _, _, e, h => by
    rw [fzW] at e
    cases q : fzWt rf xs with
    | none => rw [q] at e; cases e
    | some ys =>
      rw [q] at e; cases e
      cases h with
      | dT z k t =>
        obtain ⟨a, b⟩ := fzWt_rep hz hf xs ys _ q t
        exact .dT (hz _ _ z) (a.trans k) b
  | .ins C xs, _, _, e, h => by
    rw [fzW] at e
    cases q : fzWf rf xs with
    | none => rw [q] at e; cases e
    | some ys =>
      rw [q] at e; cases e
      cases h with
      | ins z k t =>
        obtain ⟨a, b⟩ := fzWf_rep hz hf xs ys _ q t
        exact .ins (hz _ _ z) (a.trans k) b
  | .ref k, _, _, e, h => by
    rw [fzW] at e
    cases h with
    | ref q => exact hf k _ _ e q
theorem fzWs_rep {L1 : Lk} {Z' : Hp} {r' : List Addr} {rf : Nat → Option D} (hz : ∀ p o, L1.Z p = some o → Z' p = some o) (hf : RfOk K L1 Z' r' rf) : ∀ (d d' : List D) (v : List V), fzWs rf d = some d' → Reps K L1.Z L1.r d v → Reps K Z' r' d' v
  | [], _, _, e, h => by rw [fzWs] at e; cases e; cases h; exact .nil
  | x :: r, _, _, e, h => by
    rw [fzWs] at e
    cases q1 : fzW rf x with
    | none => rw [q1] at e; cases e
    | some y =>
      cases q2 : fzWs rf r with
      | none => rw [q1, q2] at e; cases e
      | some ys =>
        rw [q1, q2] at e; cases e
        cases h with
        | cons a b => exact .cons (fzW_rep hz hf x y _ q1 a) (fzWs_rep hz hf r ys _ q2 b)
theorem fzWk_rep {L1 : Lk} {Z' : Hp} {r' : List Addr} {rf : Nat → Option D} (hz : ∀ p o, L1.Z p = some o → Z' p = some o) (hf : RfOk K L1 Z' r' rf) : ∀ (d d' : List (Key × D)) (v : List V), fzWk rf d = some d' → Reps K L1.Z L1.r (d.map (·.2)) v → d'.map (·.1) = d.map (·.1) ∧ Reps K Z' r' (d'.map (·.2)) v
  | [], _, _, e, h => by rw [fzWk] at e; cases e; cases h; exact ⟨rfl, .nil⟩
  | (k, x) :: r, _, _, e, h => by
    rw [fzWk] at e
    cases q1 : fzW rf x with
    | none => rw [q1] at e; cases e
    | some y =>
      cases q2 : fzWk rf r with
      | none => rw [q1, q2] at e; cases e
      | some ys =>
        rw [q1, q2] at e; cases e
        cases h with
        | cons a b =>
          obtain ⟨c, d⟩ := fzWk_rep hz hf r ys _ q2 b
          exact ⟨by simp [c], .cons (fzW_rep hz hf x y _ q1 a) d⟩
theorem fzWt_rep {L1 : Lk} {Z' : Hp} {r' : List Addr} {rf : Nat → Option D} (hz : ∀ p o, L1.Z p = some o → Z' p = some o) (hf : RfOk K L1 Z' r' rf) : ∀ (d d' : List (List Key × D)) (v : List V), fzWt rf d = some d' → Reps K L1.Z L1.r (d.map (·.2)) v → d'.map (·.1) = d.map (·.1) ∧ Reps K Z' r' (d'.map (·.2)) v
  | [], _, _, e, h => by rw [fzWt] at e; cases e; cases h; exact ⟨rfl, .nil⟩
  | (k, x) :: r, _, _, e, h => by
    rw [fzWt] at e
    cases q1 : fzW rf x with
    | none => rw [q1] at e; cases e
    | some y =>
      cases q2 : fzWt rf r with
      | none => rw [q1, q2] at e; cases e
      | some ys =>
        rw [q1, q2] at e; cases e
        cases h with
        | cons a b =>
          obtain ⟨c, d⟩ := fzWt_rep hz hf r ys _ q2 b
          exact ⟨by simp [c], .cons (fzW_rep hz hf x y _ q1 a) d⟩
theorem fzWf_rep {L1 : Lk} {Z' : Hp} {r' : List Addr} {rf : Nat → Option D} (hz : ∀ p o, L1.Z p = some o → Z' p = some o) (hf : RfOk K L1 Z' r' rf) : ∀ (d d' : List (Str × D)) (v : List V), fzWf rf d = some d' → Reps K L1.Z L1.r (d.map (·.2)) v → d'.map (·.1) = d.map (·.1) ∧ Reps K Z' r' (d'.map (·.2)) v
  | [], _, _, e, h => by rw [fzWf] at e; cases e; cases h; exact ⟨rfl, .nil⟩
  | (k, x) :: r, _, _, e, h => by
    rw [fzWf] at e
    cases q1 : fzW rf x with
    | none => rw [q1] at e; cases e
    | some y =>
      cases q2 : fzWf rf r with
      | none => rw [q1, q2] at e; cases e
      | some ys =>
        rw [q1, q2] at e; cases e
        cases h with
        | cons a b =>
          obtain ⟨c, d⟩ := fzWf_rep hz hf r ys _ q2 b
          exact ⟨by simp [c], .cons (fzW_rep hz hf x y _ q1 a) d⟩
end
/-- the cells' addresses, their contents frozen -/
theorem fzr_ok {L1 : Lk} {G1 : GH} {H : Hp} {n : Nat} {Z' : Hp} {r' : List Addr} (hr : HR K L1 G1 H) (hz : ∀ p o, L1.Z p = some o → Z' p = some o) (hk : ∀ k a, k < n → L1.r[k]? = some a → r'[k]? = some a)
    (hn : ∀ k a, n ≤ k → L1.r[k]? = some a → Z' a = H a) : ∀ m, RfOk K L1 Z' r' (fzr G1 n m)
  | 0 => fun k d' a e q => by
    unfold fzr at e
    by_cases h : k < n
    · rw [if_pos h] at e; cases e; exact .ref (hk k a h q)
    · rw [if_neg h] at e; cases e
  | m + 1 => fun k d' a e q => by
    have ih := fzr_ok hr hz hk hn m
    unfold fzr at e
    by_cases h : k < n
    · rw [if_pos h] at e; cases e; exact .ref (hk k a h q)
    · rw [if_neg h] at e
      have hl : k < G1.length := by rw [← hr.len]; exact (List.getElem?_eq_some_iff.mp q).1
      have c := hr.cell k a G1[k] q (by simp [hl])
      have za : Z' a = H a := hn k a (by omega) q
      rw [List.getElem?_eq_getElem hl] at e
      cases g : G1[k] with
      | lst ds =>
        rw [g] at e c
        dsimp only at e
        cases c with
        | lst h0 t =>
          cases q1 : fzWs (fzr G1 n m) ds with
          | none => rw [q1] at e; cases e
          | some ys =>
            rw [q1] at e; cases e
            exact .lst (za.trans h0) (fzWs_rep hz ih ds ys _ q1 t)
      | dK ds =>
        rw [g] at e c
        dsimp only at e
        cases c with
        | dK h0 h1 t =>
          cases q1 : fzWk (fzr G1 n m) ds with
          | none => rw [q1] at e; cases e
          | some ys =>
            rw [q1] at e; cases e
            obtain ⟨x, y⟩ := fzWk_rep hz ih ds ys _ q1 t
            exact .dK (za.trans h0) (x.trans h1) y
      | dT ds =>
        rw [g] at e c
        dsimp only at e
        cases c with
        | dT h0 h1 t =>
          cases q1 : fzWt (fzr G1 n m) ds with
          | none => rw [q1] at e; cases e
          | some ys =>
            rw [q1] at e; cases e
            obtain ⟨x, y⟩ := fzWt_rep hz ih ds ys _ q1 t
            exact .dT (za.trans h0) (x.trans h1) y
      | ins C ds =>
        rw [g] at e c
        dsimp only at e
        cases c with
        | ins h0 h1 t =>
          cases q1 : fzWf (fzr G1 n m) ds with
          | none => rw [q1] at e; cases e
          | some ys =>
            rw [q1] at e; cases e
            obtain ⟨x, y⟩ := fzWf_rep hz ih ds ys _ q1 t
            exact .ins (za.trans h0) (x.trans h1) y

theorem fzWk_of (rf : Nat → Option D) : ∀ (l : List (Key × D)), fzWs rf (l.map (·.2)) = some (l.map (·.2)) → fzWk rf l = some l
  | [], _ => by rw [fzWk]
  | (k, x) :: r, e => by
    rw [List.map_cons, fzWs] at e
    rw [fzWk]
    cases q1 : fzW rf x with
    | none => rw [q1] at e; cases e
    | some y =>
      cases q2 : fzWs rf (r.map (·.2)) with
      | none => rw [q1, q2] at e; cases e
      | some ys =>
        rw [q1, q2] at e
        have e' := Option.some.inj e
        injection e' with e1 e2
        subst e1
        rw [fzWk_of rf r (by rw [q2, e2])]
theorem fzWt_of (rf : Nat → Option D) : ∀ (l : List (List Key × D)), fzWs rf (l.map (·.2)) = some (l.map (·.2)) → fzWt rf l = some l
  | [], _ => by rw [fzWt]
  | (k, x) :: r, e => by
    rw [List.map_cons, fzWs] at e
    rw [fzWt]
    cases q1 : fzW rf x with
    | none => rw [q1] at e; cases e
    | some y =>
      cases q2 : fzWs rf (r.map (·.2)) with
      | none => rw [q1, q2] at e; cases e
      | some ys =>
        rw [q1, q2] at e
        have e' := Option.some.inj e
        injection e' with e1 e2
        subst e1
        rw [fzWt_of rf r (by rw [q2, e2])]
theorem fzWf_of (rf : Nat → Option D) : ∀ (l : List (Str × D)), fzWs rf (l.map (·.2)) = some (l.map (·.2)) → fzWf rf l = some l
  | [], _ => by rw [fzWf]
  | (k, x) :: r, e => by
    rw [List.map_cons, fzWs] at e
    rw [fzWf]
    cases q1 : fzW rf x with
    | none => rw [q1] at e; cases e
    | some y =>
      cases q2 : fzWs rf (r.map (·.2)) with
      | none => rw [q1, q2] at e; cases e
      | some ys =>
        rw [q1, q2] at e
        have e' := Option.some.inj e
        injection e' with e1 e2
        subst e1
        rw [fzWf_of rf r (by rw [q2, e2])]
mutual
theorem rep_closed {Z : Hp} {r : List Addr} : ∀ {d : D} {v : V}, Rep K Z r d v → fzW (fzr [] r.length 0) d = some d
  | _, _, .non => by rw [fzW]
  | _, _, .bl _ => by rw [fzW]
  | _, _, .int _ => by rw [fzW]
  | _, _, .str _ => by rw [fzW]
  | _, _, .tup _ t => by rw [fzW, reps_closed t]
  | _, _, .lst _ t => by rw [fzW, reps_closed t]
  | _, _, .pt _ _ t => by rw [fzW, reps_closed t]
  | _, _, .dK _ _ t => by rw [fzW, fzWk_of _ _ (reps_closed t)]
  | _, _, .dT _ _ t => by rw [fzW, fzWt_of _ _ (reps_closed t)]
  | _, _, .ins _ _ t => by rw [fzW, fzWf_of _ _ (reps_closed t)]
  | _, _, .scr _ t => by rw [fzW, reps_closed t]
  | _, _, .ref q => by
    rw [fzW]
    unfold fzr
    rw [if_pos (List.getElem?_eq_some_iff.mp q).1]
theorem reps_closed {Z : Hp} {r : List Addr} : ∀ {d : List D} {v : List V}, Reps K Z r d v → fzWs (fzr [] r.length 0) d = some d
  | _, _, .nil => by rw [fzWs]
  | _, _, .cons x t => by rw [fzWs, rep_closed x, reps_closed t]
end
/-- a cell that leans on cells below n alone, and stays so -/
def closedC (n : Nat) : Cell → Prop
  | .lst ds => fzWs (fzr [] n 0) ds = some ds
  | .dK ds => fzWk (fzr [] n 0) ds = some ds
  | .dT ds => fzWt (fzr [] n 0) ds = some ds
  | .ins _ ds => fzWf (fzr [] n 0) ds = some ds
/-- the cells that stood at the entry: as they were, or leaning on such alone -/
def kept (G G1 : GH) : Prop := G.length ≤ G1.length ∧ ∀ k c, k < G.length → G1[k]? = some c → G[k]? = some c ∨ closedC G.length c
/-- the state behind, the cells from n on taken as values -/
theorem HR.cut {L L1 : Lk} {G G1 : GH} {H0 H : Hp} (h0 : HR K L G H0) (le : L.le L1) (hr : HR K L1 G1 H) (kp : kept G G1) :
    L.le ⟨zFull L1.Z L1.r G.length H, L1.r.take G.length, L1.F⟩ ∧ HR K ⟨zFull L1.Z L1.r G.length H, L1.r.take G.length, L1.F⟩ (G1.take G.length) H := by
  have hz : ∀ p o, L1.Z p = some o → zFull L1.Z L1.r G.length H p = some o := fun p o e => zFull_old e
  have hk : ∀ (k : Nat) (a : Addr), k < G.length → L1.r[k]? = some a → (L1.r.take G.length)[k]? = some a := fun k a h q => by rw [List.getElem?_take_of_lt h]; exact q
  have hk' : ∀ (k : Nat) (a : Addr), (L1.r.take G.length)[k]? = some a → k < G.length ∧ L1.r[k]? = some a := fun k a q => by
    have hl := (List.getElem?_eq_some_iff.mp q).1
    rw [List.length_take] at hl
    have : k < G.length := by omega
    rw [List.getElem?_take_of_lt this] at q
    exact ⟨this, q⟩
  have hnew : ∀ (k : Nat) (a : Addr), G.length ≤ k → L1.r[k]? = some a → zFull L1.Z L1.r G.length H a = H a := fun k a h q => zFull_new (hr.dis k a q) h q
  have l0 : ∀ {n : Nat} {x : Addr}, L.r[n]? = some x → n < G.length := fun {n x} e => by rw [← h0.len]; exact (List.getElem?_eq_some_iff.mp e).1
  have lk : L.le ⟨zFull L1.Z L1.r G.length H, L1.r.take G.length, L1.F⟩ := ⟨fun p o e => hz p o (le.z p o e), fun n x e => hk n x (l0 e) (le.r n x e), le.f⟩
  refine ⟨lk, ⟨fun p o e => ?_, ?_, fun k a c e1 e2 => ?_, fun n m a e1 e2 => hr.inj n m a (hk' n a e1).2 (hk' m a e2).2, fun k a e => ?_, hr.fr, fun k a e => hr.fd k a (hk' k a e).2, fun p o e => ?_⟩⟩
  · have e' : zFull L1.Z L1.r G.length H p = some o := e
    cases q : L1.Z p with
    | some u =>
      rw [hz p u q] at e'
      have e2 := Option.some.inj e'
      subst e2
      exact hr.z p _ q
    | none =>
      by_cases h : ∃ k, G.length ≤ k ∧ L1.r[k]? = some p
      · obtain ⟨k, a, b⟩ := h
        rw [zFull_new q a b] at e'
        exact .inl e'
      · rw [zFull_none q fun k a b => h ⟨k, a, b⟩] at e'; cases e'
  · show (L1.r.take G.length).length = (G1.take G.length).length
    rw [List.length_take, List.length_take, hr.len]
  · obtain ⟨hkl, q⟩ := hk' k a e1
    rw [List.getElem?_take_of_lt hkl] at e2
    have c1 := hr.cell k a c q e2
    -- what the cell holds leans on cells below
    have rf0 : ∀ (Z : Hp) (H' : Hp), (∀ p o, Z p = some o → zFull L1.Z L1.r G.length H p = some o) → RfOk K ⟨L1.Z, L1.r, L1.F⟩ (zFull L1.Z L1.r G.length H) (L1.r.take G.length) (fzr [] G.length 0) := fun _ _ _ => fun k d' a e q => by
      unfold fzr at e
      by_cases h : k < G.length
      · rw [if_pos h] at e; cases e; exact .ref (hk k a h q)
      · rw [if_neg h] at e; cases e
    have rf := rf0 L1.Z H hz
    have fin : closedC G.length c → CellAt K ⟨zFull L1.Z L1.r G.length H, L1.r.take G.length, L1.F⟩ H c a := fun cl => by
      cases c1 with
      | lst h t => exact .lst h (fzWs_rep (L1 := L1) hz rf _ _ _ cl t)
      | dK h k t => exact .dK h k (fzWk_rep (L1 := L1) hz rf _ _ _ cl t).2
      | dT h k t => exact .dT h k (fzWt_rep (L1 := L1) hz rf _ _ _ cl t).2
      | ins h k t => exact .ins h k (fzWf_rep (L1 := L1) hz rf _ _ _ cl t).2
    rcases kp.2 k c hkl e2 with old | cl
    · -- as it was: its values are told by L already
      have hak : ∃ b, L.r[k]? = some b := ⟨_, List.getElem?_eq_getElem (by rw [h0.len]; exact hkl)⟩
      obtain ⟨b, hb⟩ := hak
      have c0 := h0.cell k b c hb old
      refine fin ?_
      rw [← h0.len]
      cases c0 with
      | lst h t => exact reps_closed t
      | dK h k t => exact fzWk_of _ _ (reps_closed t)
      | dT h k t => exact fzWt_of _ _ (reps_closed t)
      | ins h k t => exact fzWf_of _ _ (reps_closed t)
    · exact fin cl
  · obtain ⟨hkl, q⟩ := hk' k a e
    exact zFull_none (hr.dis k a q) fun j hj b => by have := hr.inj j k a b q; omega
  · rcases hr.fz p o e with z | z
    · exact .inl z
    · refine .inr (zFull_none z fun k _ b => ?_)
      have := hr.fd k p b
      rw [e] at this; cases this

/-- a def's result, its cells from n on taken as values -/
noncomputable def fzR (G : GH) (r : R D) : R D := match r with
  | .ok d G1 => (open Classical in if kept G G1 then (match fzD G1 G.length d with
    | some d' => .ok d' (G1.take G.length)
    | none => .no) else .no)
  | .ex x G1 => (open Classical in if kept G G1 then (match fzWf (fzr G1 G.length 4) x.fs with
    | some fs => .ex ⟨x.cls, fs⟩ (G1.take G.length)
    | none => .no) else .no)
  | .no => .no
theorem Sat.fz {W : WX} {L : Lk} {G : GH} {H0 : Hp} {σ : St} {r : R D} {Q : VK} (h0 : HR K L G H0) (h : Sat K W L σ (repD K) (fzR G r) Q) : Sat K W L σ (repD K) r Q := by
  have pre : ∀ {L1 : Lk} {G1 : GH} {H : Hp}, HR K L1 G1 H → RfOk K L1 (zFull L1.Z L1.r G.length H) (L1.r.take G.length) (fzr G1 G.length 4) := fun {L1 G1 H} hr =>
    fzr_ok hr (fun p o e => zFull_old e) (fun k a h q => by rw [List.getElem?_take_of_lt h]; exact q) (fun k a h q => zFull_new (hr.dis k a q) h q) 4
  cases r with
  | ok d G1 =>
    intro L1 H v le hr rd
    unfold fzR at h
    dsimp only at h
    by_cases kp : kept G G1
    · rw [if_pos kp] at h
      cases q : fzD G1 G.length d with
      | none => rw [q] at h; exact h.elim
      | some d' =>
        rw [q] at h
        obtain ⟨l2, hr2⟩ := HR.cut h0 le hr kp
        exact h _ H v l2 hr2 (fzW_rep (fun p o e => zFull_old e) (pre hr) d d' v q rd)
    · rw [if_neg kp] at h; exact h.elim
  | ex x G1 =>
    intro L1 H c dx le hr xr
    unfold fzR at h
    dsimp only at h
    by_cases kp : kept G G1
    · rw [if_pos kp] at h
      cases q : fzWf (fzr G1 G.length 4) x.fs with
      | none => rw [q] at h; exact h.elim
      | some fs =>
        rw [q] at h
        obtain ⟨l2, hr2⟩ := HR.cut h0 le hr kp
        obtain ⟨e1, d, fv, e2, e3, e4, e5⟩ := xr
        obtain ⟨a, b⟩ := fzWf_rep (fun p o e => zFull_old e) (pre hr) _ _ _ q e5
        exact h _ H c dx l2 hr2 ⟨e1, d, fv, e2, zFull_old e3, a.trans e4, b⟩
    · rw [if_neg kp] at h; exact h.elim
  | no => exact h
/-- the promise of a def, told by another function -/
theorem FnD.le {P : Program} {w : World} {mg : Str → Option Value} {base : Heap} {k : Nat} {f : Addr} {fd : FuncData} {ps : List Str} {F F' : List D → GH → R D} (h : FnD P w K mg base k f fd ps F)
    (i : ∀ ds G, F' ds G = .no ∨ F' ds G = fzR G (F ds G)) : FnD P w K mg base k f fd ps F' :=
  ⟨fun B up s H ar us vs Q E room gd e0 bnd rel ⟨hl, L, ds, G, hr, rd, q⟩ => h.go B up s H ar us vs Q E room gd e0 bnd rel ⟨hl, L, ds, G, hr, rd, by
    rcases i ds G with e | e
    · rw [e] at q; exact q.elim
    · rw [e] at q; exact Sat.fz hr q⟩⟩
theorem kept_refl (G J : GH) : kept G (G ++ J) := ⟨by simp, fun k c h e => .inl (by rw [List.getElem?_append_left h] at e; exact e)⟩
theorem fzR_ok {G J : GH} {d d' : D} (e : fzD (G ++ J) G.length d = some d') : fzR G (.ok d (G ++ J)) = .ok d' G := by
  unfold fzR
  dsimp only
  rw [if_pos (kept_refl G J), e]
  simp
theorem fzR_ok0 {G : GH} {d d' : D} (e : fzD G G.length d = some d') : fzR G (.ok d G) = .ok d' G := by
  have q := fzR_ok (J := []) (G := G) (d := d) (d' := d') (by rw [List.append_nil]; exact e)
  rw [List.append_nil] at q; exact q
theorem fzR_ex {G J : GH} {x : Ex} {fs : List (Str × D)} (e : fzWf (fzr (G ++ J) G.length 4) x.fs = some fs) : fzR G (.ex x (G ++ J)) = .ex ⟨x.cls, fs⟩ G := by
  unfold fzR
  dsimp only
  rw [if_pos (kept_refl G J), e]
  simp
end
end CF
end
section
set_option maxRecDepth 100000
set_option maxHeartbeats 1000000
/-! Membership, built-in functions, list methods. -/
namespace CF
open PySem PySem.Spec PyProof.Rows L2

/-! ### in -/
theorem reps_flat {K : PySem.W.Frag} {Z : Hp} {r : List Addr} : ∀ {ds : List D} {vs : List V}, Reps K Z r ds vs → ds.all flatD = vs.all flatV
  | _, _, .nil => rfl
  | _, _, .cons x t => by
    rw [List.all_cons, List.all_cons, reps_flat t]
    cases x <;> rfl
theorem rep_flat {K : PySem.W.Frag} {Z : Hp} {r : List Addr} {d : D} {v : V} (h : Rep K Z r d v) : flatD d = flatV v := by cases h <;> rfl
theorem rep_eqF {K : PySem.W.Frag} {Z : Hp} {r : List Addr} {d e : D} {v u : V} (h : Rep K Z r d v) (k : Rep K Z r e u) (f : flatD d = true) (f' : flatD e = true) : eqF d e = eqV v u := by
  cases h <;> cases k <;> first | rfl | exact absurd f (by simp [flatD]) | exact absurd f' (by simp [flatD])
theorem reps_any {K : PySem.W.Frag} {Z : Hp} {r : List Addr} {x : D} {u : V} (hx : Rep K Z r x u) (fx : flatD x = true) : ∀ {ds : List D} {vs : List V}, Reps K Z r ds vs → ds.all flatD = true → (ds.any fun y => eqF y x) = inV u vs
  | _, _, .nil, _ => rfl
  | _, _, .cons h t, f => by
    rw [List.all_cons, Bool.and_eq_true] at f
    unfold inV
    rw [List.any_cons, List.any_cons, rep_eqF h hx f.1 fx, reps_any hx fx t f.2]
    rfl
def dInS (x : D) (ys : List D) : Option Bool := if flatD x && ys.all flatD then some (ys.any fun y => eqF y x) else none
/-- x in y -/
def inD (G : GH) (x y : D) : Option Bool := match y with
  | .str z => (match x with
    | .str w => some (!(Builtin.Str.occurrences z w 0 z.length 1).isEmpty)
    | _ => none)
  | .tup ys => dInS x ys
  | y => match lstOf G y with
    | some ys => dInS x ys
    | none => (dGetO G y x).map (·.isSome)
def dIn : F2 := fun x y G => match inD G x y with
  | some b => .ok (.bl b) G
  | none => .no
def dNotIn : F2 := fun x y G => match inD G x y with
  | some b => .ok (.bl (!b)) G
  | none => .no
def rInDK (neg : Bool) : R2 := fun y x H Q => ∃ a o, x = .ref a ∧ DGet H a y o ∧ Q (.bl (if neg then !o.isSome else o.isSome)) H
def rInStr (neg : Bool) : R2 := fun x y H Q => ∃ i j, x = .str i ∧ y = .str j ∧ Q (.bl (if neg then !(!(Builtin.Str.occurrences j i 0 j.length 1).isEmpty) else !(Builtin.Str.occurrences j i 0 j.length 1).isEmpty)) H
def rInAll (K : PySem.W.Frag) (neg : Bool) : R2 := fun x y H Q => (rInStr neg x y H Q ∨ rIn K neg x y H Q) ∨ rInDK neg x y H Q
section
variable {X : Cx}
theorem op_inDK (hu : X.A.units + 1 < cLine) : OpR X (compareOp .In) (rInDK false) := fun pins s σ H y x u v Q I ry rx ⟨a, o, e, g, q⟩ => by
  subst e; cases rx
  exact d_in hu I g ry fun s' I' => ⟨.bl o.isSome, H, I', rfl, q⟩
theorem op_notInDK (hu : X.A.units + 1 < cLine) : OpR X (compareOp .NotIn) (rInDK true) := fun pins s σ H y x u v Q I ry rx ⟨a, o, e, g, q⟩ => by
  subst e; cases rx
  exact d_notIn hu I g ry fun s' I' => ⟨.bl (!o.isSome), H, I', rfl, q⟩
theorem opr_in (hu : X.A.units + 1 < cLine) : OpR X (compareOp .In) (rInAll X.K false) := (OpR.or (show OpR X (compareOp .In) (rInStr false) from op_in_str) op_in_seq).or (op_inDK hu)
theorem opr_notIn (hu : X.A.units + 1 < cLine) : OpR X (compareOp .NotIn) (rInAll X.K true) := (OpR.or (show OpR X (compareOp .NotIn) (rInStr true) from op_notin_str) op_notIn_seq).or (op_notInDK hu)
theorem inD_rep {K : PySem.W.Frag} {L : Lk} {G : GH} {H : Hp} (hr : HR K L G H) {x y : D} {v u : V} {b neg : Bool} {Q : VK} (rx : Rep K L.Z L.r x v) (ry : Rep K L.Z L.r y u) (e : inD G x y = some b) (q : Q (.bl (if neg then !b else b)) H) : rInAll K neg v u H Q := by
  have seq : ∀ (ys : List D) (p : Addr) (vs : List V), u = .ref p → (SqL K H p vs ∨ SqT K H p vs) → Reps K L.Z L.r ys vs → dInS x ys = some b → rInAll K neg v u H Q := fun ys p vs eu s t e => by
    unfold dInS at e
    by_cases f : (flatD x && ys.all flatD) = true
    · rw [if_pos f] at e
      cases e
      obtain ⟨f1, f2⟩ := Bool.and_eq_true_iff.mp f
      refine .inl (.inr ⟨p, vs, eu, s, by rw [← rep_flat rx]; exact f1, by rw [← reps_flat t]; exact f2, ?_⟩)
      rw [← reps_any rx f1 t f2]
      exact q
    · rw [if_neg f] at e; cases e
  have gen : (match lstOf G y with | some ys => dInS x ys | none => (dGetO G y x).map (·.isSome)) = some b → rInAll K neg v u H Q := fun e => by
    cases k : lstOf G y with
    | some ys =>
      rw [k] at e
      obtain ⟨p, vs, eu, s, t⟩ := lst_rep hr ry k
      exact seq ys p vs eu (.inl s) t e
    | none =>
      rw [k] at e
      cases k2 : dGetO G y x with
      | none => rw [k2] at e; cases e
      | some o =>
        rw [k2] at e
        cases e
        obtain ⟨p, ov, eu, g, h1, _⟩ := dGetO_rep hr ry rx k2
        refine .inr ⟨p, ov, eu, g, ?_⟩
        rw [h1]; exact q
  cases y with
  | str z =>
    cases x with
    | str w =>
      cases rx; cases ry; cases e
      exact .inl (.inl ⟨w, z, rfl, rfl, q⟩)
    | _ => cases e
  | tup ys =>
    obtain ⟨p, vs, eu, s, t⟩ := tup_rep hr ry
    exact seq ys p vs eu (.inr s) t e
  | _ => exact gen e
theorem o2_in {K : PySem.W.Frag} : Op2 K dIn (rInAll K false) := fun L G H x y v u W σ Q hr rx ry q => by
  unfold dIn at q
  cases e : inD G x y with
  | none => rw [e] at q; exact q.elim
  | some b => rw [e] at q; exact inD_rep hr rx ry e (q L H _ (.refl L) hr (.bl b))
theorem o2_notIn {K : PySem.W.Frag} : Op2 K dNotIn (rInAll K true) := fun L G H x y v u W σ Q hr rx ry q => by
  unfold dNotIn at q
  cases e : inD G x y with
  | none => rw [e] at q; exact q.elim
  | some b => rw [e] at q; exact inD_rep hr rx ry e (q L H _ (.refl L) hr (.bl (!b)))
/-! ### is None -/
def isN : D → Bool
  | .non => true
  | _ => false
def dIsN : F2 := fun x y G => match y with
  | .non => .ok (.bl (isN x)) G
  | _ => .no
def dNotN : F2 := fun x y G => match y with
  | .non => .ok (.bl (!isN x)) G
  | _ => .no
theorem isN_rep {K : PySem.W.Frag} {Z : Hp} {r : List Addr} {d : D} {v : V} (h : Rep K Z r d v) : isN d = decide (v = .non) := by cases h <;> rfl
theorem o2_isN {K : PySem.W.Frag} : Op2 K dIsN (fun x y H Q => y = .non ∧ Q (.bl (decide (x = .non))) H) := fun L G H x y v u W σ Q hr rx ry q => by
  cases ry with
  | non => exact ⟨rfl, by rw [← isN_rep rx]; exact q L H _ (.refl L) hr (.bl _)⟩
  | _ => exact q.elim
theorem o2_notN {K : PySem.W.Frag} : Op2 K dNotN (fun x y H Q => y = .non ∧ Q (.bl (!decide (x = .non))) H) := fun L G H x y v u W σ Q hr rx ry q => by
  cases ry with
  | non => exact ⟨rfl, by rw [← isN_rep rx]; exact q L H _ (.refl L) hr (.bl _)⟩
  | _ => exact q.elim
/-! ### numbers, + - -/
theorem o2_mul {K : PySem.W.Frag} : Op2 K dMulI (rI CMul fun i j => .int (i * j)) := o2_int fun i j h => (of_decide_eq_true h : -(2 ^ 64) < i ∧ i < 2 ^ 64 ∨ -(2 ^ 64) < j ∧ j < 2 ^ 64)
def dNeg (x : D) (G : GH) : R D := match x with
  | .int i => .ok (.int (-i)) G
  | _ => .no
variable {W : WX} {pos p : Pos} {a : Expr} {fa : FE}
def eUn (f : D → GH → R D) (fa : FE) : FE := fun δ G => (fa δ G).bind f
theorem xe_neg (ha : xE X W a fa) : xE X W (.UnaryOp .USub a pos) (eUn dNeg fa) :=
  PEimp (pe_un un_neg ha) fun σ H Q ⟨L, δ, G, hr, er, q⟩ => Sat.bind (rep' := repD X.K) hr er q fun L1 G1 H1 x v le hr1 er1 rx q1 => by
    cases rx with
    | int i => exact ⟨i, rfl, q1 L1 H1 _ (.refl _) hr1 (.int _)⟩
    | _ => exact q1.elim

/-! ### not, and, or as values -/
def eNot (f : FT) : FE := fun δ G => (f δ G).bind fun b G1 => .ok (.bl (!b)) G1
/-- a value by its truth -/
theorem truD_sat {L : Lk} {G : GH} {H : Hp} {σ : St} {x : D} {v : V} {f : Bool → R Bool} {Q : Bool → Hp → Prop} (hr : HR X.K L G H) (rx : Rep X.K L.Z L.r x v) : True := trivial
theorem xe_not {f : FE} (ha : xE X W a f) : xE X W (.UnaryOp .Not a pos) (eNot (eTru f)) :=
  PEimp (pe_notT ha) fun σ H Q ⟨L, δ, G, hr, er, q⟩ => by
    have q' : Sat X.K W L σ (repD X.K) ((f δ G).bind fun d G1 => (match truD G1 d with | some b => R.ok b G1 | none => .no).bind fun b G1 => .ok (.bl (!b)) G1) Q := by
      have e : eNot (eTru f) δ G = ((f δ G).bind fun d G1 => (match truD G1 d with | some b => R.ok b G1 | none => .no).bind fun b G1 => .ok (.bl (!b)) G1) := by
        unfold eNot eTru
        cases f δ G <;> rfl
      rw [← e]; exact q
    exact Sat.bind (rep' := repD X.K) hr er q' fun L1 G1 H1 x v le hr1 er1 rx q1 => by
      cases e' : truD G1 x with
      | none => rw [e'] at q1; exact q1.elim
      | some b =>
        rw [e'] at q1
        exact ⟨b, truD_rep hr1 rx e', q1 L1 H1 _ (.refl _) hr1 (.bl _)⟩
/-- x or y, x and y, by truth -/
def eOr (f g : FE) : FE := fun δ G => (f δ G).bind fun d G1 => match truD G1 d with
  | some true => .ok d G1
  | some false => g δ G1
  | none => .no
def eAnd (f g : FE) : FE := fun δ G => (f δ G).bind fun d G1 => match truD G1 d with
  | some true => g δ G1
  | some false => .ok d G1
  | none => .no
variable {b : Expr} {fb : FE} {rest : List Expr}
theorem xe_one {op : BoolOp} (h : xE X W a fa) : xE X W (.BoolOp op [a] pos) fa := pe_one h
theorem xe_or (ha : xE X W a fa) (hb : xE X W (.BoolOp .Or (b :: rest) pos) fb) : xE X W (.BoolOp .Or (a :: b :: rest) pos) (eOr fa fb) :=
  PEimp (pe_orT ha hb) fun σ H Q ⟨L, δ, G, hr, er, q⟩ => Sat.bind (rep' := repD X.K) hr er q fun L1 G1 H1 x v le hr1 er1 rx q1 => by
    cases e' : truD G1 x with
    | none => rw [e'] at q1; exact q1.elim
    | some k =>
      rw [e'] at q1
      refine ⟨k, truD_rep hr1 rx e', ?_⟩
      cases k with
      | true => rw [if_pos rfl]; exact q1 L1 H1 v (.refl _) hr1 rx
      | false => rw [if_neg Bool.false_ne_true]; exact ⟨L1, δ, G1, hr1, er1, q1⟩
theorem xe_and (ha : xE X W a fa) (hb : xE X W (.BoolOp .And (b :: rest) pos) fb) : xE X W (.BoolOp .And (a :: b :: rest) pos) (eAnd fa fb) :=
  PEimp (pe_andT ha hb) fun σ H Q ⟨L, δ, G, hr, er, q⟩ => Sat.bind (rep' := repD X.K) hr er q fun L1 G1 H1 x v le hr1 er1 rx q1 => by
    cases e' : truD G1 x with
    | none => rw [e'] at q1; exact q1.elim
    | some k =>
      rw [e'] at q1
      refine ⟨k, truD_rep hr1 rx e', ?_⟩
      cases k with
      | true => rw [if_pos rfl]; exact ⟨L1, δ, G1, hr1, er1, q1⟩
      | false => rw [if_neg Bool.false_ne_true]; exact q1 L1 H1 v (.refl _) hr1 rx

/-! ### built-in functions by values -/
def CbD (K : PySem.W.Frag) (f : List D → GH → R D) (r : List V → Hp → VK → Prop) : Prop := ∀ (L : Lk) (G : GH) (H : Hp) (ds : List D) (vs : List V) (W : WX) (σ : St) (Q : VK), HR K L G H → Reps K L.Z L.r ds vs → Sat K W L σ (repD K) (f ds G) Q → r vs H Q
def eCB (f : List D → GH → R D) (g : FA) : FE := fun δ G => (g δ G).bind f
variable {x : Str} {e : Expr} {es : List Expr} {g : FA} {f : List D → GH → R D} {r : List V → Hp → VK → Prop} {id T : String}
theorem xe_cb (hc : CallR X (.builtin id) r) (o : CbD X.K f r) (hm : X.mg x = none) (hv : bootBuiltins x = some (.builtin id)) (ha : xA X W (e :: es) g) (hg : Gl X x := by rfl) (hn : x ≠ "__name__" := by decide) (hdb : (x == ("__debug__" : Str)) = false := by decide)
    (he : starEach (e :: es) X.env = (false, eval e X.env) :: starEach es X.env := by rfl) (hpl : (backTo pos (starEach es X.env)).any (·.1) = false := by rfl) : xE X W (.Call (.Name x p) (e :: es) [] pos) (eCB f g) :=
  PEimp (pe_callB hc hg hm hv ha hn hdb he hpl) fun σ H Q ⟨L, δ, G, hr, er, q⟩ => Sat.bind (rep' := repD X.K) hr er q fun L1 G1 H1 ds vs le hr1 er1 rd q1 => o L1 G1 H1 ds vs W σ Q hr1 rd q1
theorem xe_cty (hc : CallR X (.type T) r) (o : CbD X.K f r) (hm : X.mg x = none) (hv : bootBuiltins x = some (.type T)) (ha : xA X W (e :: es) g) (hg : Gl X x := by rfl) (hn : x ≠ "__name__" := by decide) (hdb : (x == ("__debug__" : Str)) = false := by decide)
    (he : starEach (e :: es) X.env = (false, eval e X.env) :: starEach es X.env := by rfl) (hpl : (backTo pos (starEach es X.env)).any (·.1) = false := by rfl) : xE X W (.Call (.Name x p) (e :: es) [] pos) (eCB f g) :=
  PEimp (pe_callTy hc hg hm hv ha hn hdb he hpl) fun σ H Q ⟨L, δ, G, hr, er, q⟩ => Sat.bind (rep' := repD X.K) hr er q fun L1 G1 H1 ds vs le hr1 er1 rd q1 => o L1 G1 H1 ds vs W σ Q hr1 rd q1
end
/-- a wish about one argument -/
def one (f : D → GH → R D) : List D → GH → R D := fun ds G => match ds with
  | [d] => f d G
  | _ => .no
theorem cb_one {K : PySem.W.Frag} {f : D → GH → R D} {r : List V → Hp → VK → Prop} (h : ∀ (L : Lk) (G : GH) (H : Hp) (d : D) (v : V) (W : WX) (σ : St) (Q : VK), HR K L G H → Rep K L.Z L.r d v → Sat K W L σ (repD K) (f d G) Q → r [v] H Q) : CbD K (one f) r := fun L G H ds vs W σ Q hr rd q => by
  cases rd with
  | nil => exact q.elim
  | cons a t =>
    cases t with
    | nil => exact h L G H _ _ W σ Q hr a q
    | cons _ _ => exact q.elim
/-! len -/
def lenO (G : GH) : D → Option Nat
  | .str x => if x.length ≤ sizeLine then some x.length else none
  | .tup xs => some xs.length
  | .pt xs => some xs.length
  | d => match lstOf G d with
    | some xs => some xs.length
    | none => (dKOf G d).map (·.length)
@[simp] theorem lenO_tup (G : GH) (xs : List D) : lenO G (.tup xs) = some xs.length := rfl
@[simp] theorem lenO_pt (G : GH) (xs : List D) : lenO G (.pt xs) = some xs.length := rfl
@[simp] theorem lenO_lst (G : GH) (xs : List D) : lenO G (.lst xs) = some xs.length := rfl
@[simp] theorem lenO_scr (G : GH) (xs : List D) : lenO G (.scr xs) = some xs.length := rfl
@[simp] theorem lenO_dK (G : GH) (xs : List (Key × D)) : lenO G (.dK xs) = some xs.length := rfl
def dLen : D → GH → R D := fun d G => match lenO G d with
  | some n => .ok (.int n) G
  | none => .no
section
variable {X : Cx} {W : WX} {pos p : Pos} {e : Expr} {g : FA}
def rLenA (K : PySem.W.Frag) : List V → Hp → VK → Prop := fun xs H Q => ((∃ p ys, xs = [.ref p] ∧ (SqL K H p ys ∨ SqT K H p ys) ∧ Q (.int ys.length) H) ∨ (∃ z, xs = [.str z] ∧ z.length ≤ sizeLine ∧ Q (.int z.length) H)) ∨ ∃ a kvs, xs = [V.ref a] ∧ Rd H a (.dK kvs) ∧ Q (.int kvs.length) H
theorem call_lenRd : CallR X (.builtin "len") (fun xs H Q => ∃ a kvs, xs = [V.ref a] ∧ Rd H a (.dK kvs) ∧ Q (.int kvs.length) H) := fun pins s σ H xs us Q I r ⟨a, kvs, e, h, q⟩ => by
  subst e
  cases r with
  | cons h1 h2 =>
    cases h1; cases h2
    exact d_len I h fun t s' I' => ⟨.int kvs.length, H, I', ⟨t, rfl⟩, q⟩
theorem callr_len : CallR X (.builtin "len") (rLenA X.K) := (call_len_seq.or call_len_str).or call_lenRd
theorem cb_len {K : PySem.W.Frag} : CbD K (one dLen) (rLenA K) := cb_one fun L G H d v W σ Q hr rd q => by
  unfold dLen at q
  cases e : lenO G d with
  | none => rw [e] at q; exact q.elim
  | some n =>
    rw [e] at q
    have k := q L H _ (.refl L) hr (.int _)
    have gen : (match lstOf G d with | some xs => some xs.length | none => (dKOf G d).map (·.length)) = some n → rLenA K [v] H Q := fun e => by
      cases e1 : lstOf G d with
      | some xs =>
        rw [e1] at e; cases e
        obtain ⟨p, vs, rfl, s, t⟩ := lst_rep hr rd e1
        exact .inl (.inl ⟨p, vs, rfl, .inl s, by rw [← t.length]; exact k⟩)
      | none =>
        rw [e1] at e
        cases e2 : dKOf G d with
        | none => rw [e2] at e; cases e
        | some kds =>
          rw [e2] at e; cases e
          obtain ⟨p, kvs, rfl, h, hk, t⟩ := dK_rep hr rd e2
          have hl := congrArg List.length hk
          simp only [List.length_map] at hl
          exact .inr ⟨p, kvs, rfl, h, by rw [← hl]; exact k⟩
    cases d with
    | str x =>
      cases rd
      have e' : (if x.length ≤ sizeLine then some x.length else none) = some n := e
      by_cases hl : x.length ≤ sizeLine
      · rw [if_pos hl] at e'; cases e'
        exact .inl (.inr ⟨x, rfl, hl, k⟩)
      · rw [if_neg hl] at e'; cases e'
    | tup xs =>
      cases e
      obtain ⟨p, vs, rfl, s, t⟩ := tup_rep hr rd
      exact .inl (.inl ⟨p, vs, rfl, .inr s, by rw [← t.length]; exact k⟩)
    | pt xs =>
      cases e
      obtain ⟨p, vs, rfl, s, t⟩ := tupOf_rep (ds := xs) hr rd rfl
      exact .inl (.inl ⟨p, vs, rfl, .inr s, by rw [← t.length]; exact k⟩)
    | _ => exact gen e
theorem xe_len (hm : X.mg "len" = none) (ha : xA X W [e] g) (hg : Gl X "len" := by rfl) (he : starEach [e] X.env = (false, eval e X.env) :: starEach [] X.env := by rfl) : xE X W (.Call (.Name "len" p) [e] [] pos) (eCB (one dLen) g) :=
  xe_cb callr_len cb_len hm PySem.boot_len ha hg (by decide) (by decide) he rfl
/-! all, any, sum -/
def blsOf : List D → Option (List Bool)
  | [] => some []
  | .bl b :: r => (blsOf r).map (b :: ·)
  | _ => none
def intsOf : List D → Option (List Int)
  | [] => some []
  | .int b :: r => (intsOf r).map (b :: ·)
  | _ => none
@[simp] theorem blsOf_map (bs : List Bool) : blsOf (bs.map D.bl) = some bs := by induction bs with | nil => rfl | cons b r ih => simp [blsOf, ih]
@[simp] theorem intsOf_map (bs : List Int) : intsOf (bs.map D.int) = some bs := by induction bs with | nil => rfl | cons b r ih => simp [intsOf, ih]
theorem bls_rep {K : PySem.W.Frag} {Z : Hp} {r : List Addr} : ∀ {ds : List D} {vs : List V} {bs : List Bool}, Reps K Z r ds vs → blsOf ds = some bs → vs = bs.map V.bl
  | _, _, _, .nil, e => by cases e; rfl
  | d :: ds, _, bs, .cons h t, e => by
    cases h with
    | bl b =>
      rw [blsOf] at e
      cases q : blsOf ds with
      | none => rw [q] at e; cases e
      | some cs => rw [q] at e; cases e; rw [bls_rep t q]; rfl
    | _ => simp [blsOf] at e
theorem ints_rep {K : PySem.W.Frag} {Z : Hp} {r : List Addr} : ∀ {ds : List D} {vs : List V} {bs : List Int}, Reps K Z r ds vs → intsOf ds = some bs → vs = bs.map V.int
  | _, _, _, .nil, e => by cases e; rfl
  | d :: ds, _, bs, .cons h t, e => by
    cases h with
    | int b =>
      rw [intsOf] at e
      cases q : intsOf ds with
      | none => rw [q] at e; cases e
      | some cs => rw [q] at e; cases e; rw [ints_rep t q]; rfl
    | _ => simp [intsOf] at e
def dAll : D → GH → R D := fun d G => match (lstOf G d).bind blsOf with
  | some bs => .ok (.bl (bs.all id)) G
  | none => .no
def dAny : D → GH → R D := fun d G => match (lstOf G d).bind blsOf with
  | some bs => .ok (.bl (bs.any id)) G
  | none => .no
def dSum : D → GH → R D := fun d G => match (lstOf G d).bind intsOf with
  | some bs => .ok (.int bs.sum) G
  | none => .no
theorem cb_all {K : PySem.W.Frag} : CbD K (one dAll) (rAll K) := cb_one fun L G H d v W σ Q hr rd q => by
  unfold dAll at q
  cases e : lstOf G d with
  | none => rw [e] at q; exact q.elim
  | some xs =>
    rw [e] at q
    cases e2 : blsOf xs with
    | none => rw [Option.bind_some, e2] at q; exact q.elim
    | some bs =>
      rw [Option.bind_some, e2] at q
      obtain ⟨p, vs, rfl, s, t⟩ := lst_rep hr rd e
      exact ⟨p, bs, rfl, by rw [← bls_rep t e2]; exact s, q L H _ (.refl L) hr (.bl _)⟩
theorem cb_any {K : PySem.W.Frag} : CbD K (one dAny) (rAny K) := cb_one fun L G H d v W σ Q hr rd q => by
  unfold dAny at q
  cases e : lstOf G d with
  | none => rw [e] at q; exact q.elim
  | some xs =>
    rw [e] at q
    cases e2 : blsOf xs with
    | none => rw [Option.bind_some, e2] at q; exact q.elim
    | some bs =>
      rw [Option.bind_some, e2] at q
      obtain ⟨p, vs, rfl, s, t⟩ := lst_rep hr rd e
      exact ⟨p, bs, rfl, by rw [← bls_rep t e2]; exact s, q L H _ (.refl L) hr (.bl _)⟩
theorem cb_sum {K : PySem.W.Frag} : CbD K (one dSum) (rSum K) := cb_one fun L G H d v W σ Q hr rd q => by
  unfold dSum at q
  cases e : lstOf G d with
  | none => rw [e] at q; exact q.elim
  | some xs =>
    rw [e] at q
    cases e2 : intsOf xs with
    | none => rw [Option.bind_some, e2] at q; exact q.elim
    | some bs =>
      rw [Option.bind_some, e2] at q
      obtain ⟨p, vs, rfl, s, t⟩ := lst_rep hr rd e
      exact ⟨p, bs, rfl, by rw [← ints_rep t e2]; exact s, q L H _ (.refl L) hr (.int _)⟩
theorem xe_all (hc : X.calm = true) (hm : X.mg "all" = none) (ha : xA X W [e] g) (hg : Gl X "all" := by rfl) (he : starEach [e] X.env = (false, eval e X.env) :: starEach [] X.env := by rfl) : xE X W (.Call (.Name "all" p) [e] [] pos) (eCB (one dAll) g) :=
  xe_cb (cr_all hc) cb_all hm (by decide +kernel) ha hg (by decide) (by decide) he rfl
theorem xe_any (hc : X.calm = true) (hm : X.mg "any" = none) (ha : xA X W [e] g) (hg : Gl X "any" := by rfl) (he : starEach [e] X.env = (false, eval e X.env) :: starEach [] X.env := by rfl) : xE X W (.Call (.Name "any" p) [e] [] pos) (eCB (one dAny) g) :=
  xe_cb (cr_any hc) cb_any hm (by decide +kernel) ha hg (by decide) (by decide) he rfl
theorem xe_sum (hc : X.calm = true) (hm : X.mg "sum" = none) (ha : xA X W [e] g) (hg : Gl X "sum" := by rfl) (he : starEach [e] X.env = (false, eval e X.env) :: starEach [] X.env := by rfl) : xE X W (.Call (.Name "sum" p) [e] [] pos) (eCB (one dSum) g) :=
  xe_cb (cr_sum hc) cb_sum hm (by decide +kernel) ha hg (by decide) (by decide) he rfl
/-! int, str of a number; tuple, list -/
def dInt : D → GH → R D := fun d G => match d with
  | .int i => .ok (.int i) G
  | .bl k => .ok (.int (if k then 1 else 0)) G
  | _ => .no
theorem cb_int {K : PySem.W.Frag} : CbD K (one dInt) (fun xs H Q => (∃ i, xs = [.int i] ∧ Q (.int i) H) ∨ ∃ k, xs = [.bl k] ∧ Q (.int (if k then 1 else 0)) H) := cb_one fun L G H d v W σ Q hr rd q => by
  cases rd with
  | int i => exact .inl ⟨i, rfl, q L H _ (.refl L) hr (.int _)⟩
  | bl k => exact .inr ⟨k, rfl, q L H _ (.refl L) hr (.int _)⟩
  | _ => exact q.elim
theorem xe_int1 (hm : X.mg "int" = none) (ha : xA X W [e] g) (hg : Gl X "int" := by rfl) (he : starEach [e] X.env = (false, eval e X.env) :: starEach [] X.env := by rfl) : xE X W (.Call (.Name "int" p) [e] [] pos) (eCB (one dInt) g) :=
  xe_cty call_int1 cb_int hm (by decide +kernel) ha hg (by decide) (by decide) he rfl
def dTuple : D → GH → R D := fun d G => match d with
  | .tup xs => .ok (.tup xs) G
  | d => match lstOf G d with
    | some xs => .ok (.tup xs) G
    | none => .no
theorem cb_tuple {K : PySem.W.Frag} : CbD K (one dTuple) (fun xs H Q => ∃ p ys, xs = [.ref p] ∧ ((SqL K H p ys ∧ ∀ l, H l = none → Q (.ref l) (upd H l (.tup ys))) ∨ (SqT K H p ys ∧ Q (.ref p) H))) := cb_one fun L G H d v W σ Q hr rd q => by
  have gen : Sat K W L σ (repD K) (match lstOf G d with | some xs => .ok (.tup xs) G | none => .no) Q → ∃ p ys, [v] = [.ref p] ∧ ((SqL K H p ys ∧ ∀ l, H l = none → Q (.ref l) (upd H l (.tup ys))) ∨ (SqT K H p ys ∧ Q (.ref p) H)) := fun q => by
    cases e : lstOf G d with
    | none => rw [e] at q; exact q.elim
    | some xs =>
      rw [e] at q
      obtain ⟨p, vs, rfl, s, t⟩ := lst_rep hr rd e
      exact ⟨p, vs, rfl, .inl ⟨s, fun l hl => let ⟨a, b, c⟩ := put_tup t hr hl; q _ _ _ b a c⟩⟩
  cases d with
  | tup xs =>
    obtain ⟨p, vs, rfl, s, t⟩ := tup_rep hr rd
    exact ⟨p, vs, rfl, .inr ⟨s, q L H _ (.refl L) hr rd⟩⟩
  | _ => exact gen q
theorem xe_tuple (hm : X.mg "tuple" = none) (ha : xA X W [e] g) (hg : Gl X "tuple" := by rfl) (he : starEach [e] X.env = (false, eval e X.env) :: starEach [] X.env := by rfl) : xE X W (.Call (.Name "tuple" p) [e] [] pos) (eCB (one dTuple) g) :=
  xe_cty call_tuple_of cb_tuple hm (by decide +kernel) ha hg (by decide) (by decide) he rfl
/-- tuple(xs) of a list, told as the object -/
def dTupP : D → GH → R D := fun d G => match lstOf G d with
  | some xs => .ok (.pt xs) G
  | none => .no
def rTupP (K : PySem.W.Frag) : List V → Hp → VK → Prop := fun xs H Q => ∃ p ys, xs = [.ref p] ∧ SqL K H p ys ∧ ∀ l o, H l = none → o.dict = none → Q (.ref l) (upd H l (.frz o (.tup ys)))
theorem call_tupP : CallR X (.type "tuple") (rTupP X.K) := by
  intro pins s σ H xs us Q I r ⟨p, ys, ex, hq, q⟩
  subst ex
  obtain ⟨u, rfl, rx⟩ := vals1 r
  cases rx
  obtain ⟨its, r', pl, hz⟩ := I.list hq
  have hlen := r'.length
  refine call_tuple_list pl.isList (fun h' kp => ?_) (by simp only [List.size_toArray] <;> omega)
  have I1 : Inv X pins σ H { s with heap := h' } := I.kept (t' := s.toks) kp
  exact ⟨.ref h'.objs.size, _, I1.laid (o := .frz { cls := .type "tuple", data := .seq its.toArray } (.tup ys)) (t' := s.toks) (fun b o e => Heap.get?_push_of_some _ e) (Nat.le_refl _)
    ⟨Heap.get?_push_size _ rfl, hz, its, r', IsTup.new _ _⟩, rfl, q _ _ (I1.hok.fresh (Nat.le_refl _)) rfl⟩
theorem cb_tupP {K : PySem.W.Frag} : CbD K (one dTupP) (rTupP K) := cb_one fun L G H d v W σ Q hr rd q => by
  unfold dTupP at q
  cases e : lstOf G d with
  | none => rw [e] at q; exact q.elim
  | some xs =>
    rw [e] at q
    obtain ⟨p, vs, rfl, s, t⟩ := lst_rep hr rd e
    exact ⟨p, vs, rfl, s, fun l o hl ho => let ⟨a, b, c⟩ := put_pt t hr hl ho; q _ _ _ b a c⟩
theorem xe_tupleP (hm : X.mg "tuple" = none) (ha : xA X W [e] g) (hg : Gl X "tuple" := by rfl) (he : starEach [e] X.env = (false, eval e X.env) :: starEach [] X.env := by rfl) : xE X W (.Call (.Name "tuple" p) [e] [] pos) (eCB (one dTupP) g) :=
  xe_cty call_tupP cb_tupP hm (by decide +kernel) ha hg (by decide) (by decide) he rfl
/-- max of two ints -/
def dMax2 : List D → GH → R D := fun ds G => match ds with
  | [.int i, .int j] => .ok (.int (if j > i then j else i)) G
  | _ => .no
theorem cb_two {K : PySem.W.Frag} {f : List D → GH → R D} {r : List V → Hp → VK → Prop} (h1 : ∀ ds G, (∀ a b, ds ≠ [a, b]) → f ds G = .no) (h : ∀ (L : Lk) (G : GH) (H : Hp) (a b : D) (v u : V) (W : WX) (σ : St) (Q : VK), HR K L G H → Rep K L.Z L.r a v → Rep K L.Z L.r b u → Sat K W L σ (repD K) (f [a, b] G) Q → r [v, u] H Q) : CbD K f r := fun L G H ds vs W σ Q hr rd q => by
  by_cases hd : ∃ a b, ds = [a, b]
  · obtain ⟨a, b, rfl⟩ := hd
    cases rd with
    | cons r1 t =>
      cases t with
      | cons r2 t =>
        cases t
        exact h L G H a b _ _ W σ Q hr r1 r2 q
  · rw [h1 ds G fun a b e => hd ⟨a, b, e⟩] at q
    exact q.elim
theorem cb_max2 {K : PySem.W.Frag} : CbD K dMax2 (fun xs H Q => ∃ i j, xs = [.int i, .int j] ∧ Q (.int (if j > i then j else i)) H) := cb_two (fun ds G h => by
    unfold dMax2
    split
    · exact absurd rfl (h _ _)
    · rfl) fun L G H a b v u W σ Q hr ra rb q => by
  cases ra with
  | int i =>
    cases rb with
    | int j => exact ⟨i, j, rfl, q L H _ (.refl L) hr (.int _)⟩
    | _ => exact q.elim
  | _ => cases rb <;> exact q.elim
theorem xe_max2 {e2 : Expr} (hc : X.calm = true) (hm : X.mg "max" = none) (ha : xA X W [e, e2] g) (hg : Gl X "max" := by rfl) (he : starEach [e, e2] X.env = (false, eval e X.env) :: starEach [e2] X.env := by rfl) (hpl : (backTo pos (starEach [e2] X.env)).any (·.1) = false := by rfl) : xE X W (.Call (.Name "max" p) [e, e2] [] pos) (eCB dMax2 g) :=
  xe_cb (call_max2 hc) cb_max2 hm (by decide +kernel) ha hg (by decide) (by decide) he hpl
end
end CF
end
section
set_option maxRecDepth 100000
set_option maxHeartbeats 1000000
/-! isinstance, lists that change. -/
namespace CF
open PySem PySem.Spec PyProof.Rows L2

/-- a value's built-in class -/
def tyN (G : GH) : D → Option String
  | .non => some "NoneType"
  | .bl _ => some "bool"
  | .int _ => some "int"
  | .str _ => some "str"
  | .tup _ => some "tuple"
  | .pt _ => some "tuple"
  | .lst _ => some "list"
  | .scr _ => some "list"
  | .dK _ => some "dict"
  | .ref n => match G[n]? with
    | some (.lst _) => some "list"
    | some (.dK _) => some "dict"
    | some (.dT _) => some "dict"
    | _ => none
  | _ => none
@[simp] theorem tyN_non (G : GH) : tyN G .non = some "NoneType" := rfl
@[simp] theorem tyN_bl (G : GH) (x) : tyN G (.bl x) = some "bool" := rfl
@[simp] theorem tyN_int (G : GH) (x) : tyN G (.int x) = some "int" := rfl
@[simp] theorem tyN_str (G : GH) (x) : tyN G (.str x) = some "str" := rfl
@[simp] theorem tyN_tup (G : GH) (x) : tyN G (.tup x) = some "tuple" := rfl
@[simp] theorem tyN_pt (G : GH) (x) : tyN G (.pt x) = some "tuple" := rfl
@[simp] theorem tyN_lst (G : GH) (x) : tyN G (.lst x) = some "list" := rfl
@[simp] theorem tyN_scr (G : GH) (x) : tyN G (.scr x) = some "list" := rfl
@[simp] theorem tyN_dK (G : GH) (x) : tyN G (.dK x) = some "dict" := rfl
theorem tyN_rep {K : PySem.W.Frag} {L : Lk} {G : GH} {H : Hp} {d : D} {v : V} {t : String} (hr : HR K L G H) (h : Rep K L.Z L.r d v) (e : tyN G d = some t) : TyX K H v (.type t) := by
  cases h with
  | non => cases e; exact .base .non
  | bl b => cases e; exact .base (.bl b)
  | int b => cases e; exact .base (.int b)
  | str b => cases e; exact .base (.str b)
  | tup z t =>
    cases e
    rcases z with z | ⟨o, its, n, e1, e2, _⟩
    · exact .base (.tup (hr.z _ _ z).tup)
    · exact .kTuple e1 e2
  | @pt _ o _ _ z k t => cases e; exact .fTuple (hr.z _ _ z).frz
  | lst z t => cases e; exact .base (.lst (hr.z _ _ z).lst)
  | scr z t =>
    cases e
    rcases z with ⟨o, z⟩ | ⟨o, _, _, e1, e2, _⟩
    · exact .base (.frz (hr.z _ _ z).frz)
    · exact .kList e1 e2
  | dK z k t =>
    cases e
    rcases hr.z _ _ z with z | ⟨_, ob, z⟩
    · exact .base (.dK z)
    · exact .fDict z
  | @ref n a q =>
    have hn : n < G.length := by rw [← hr.len]; exact (List.getElem?_eq_some_iff.mp q).1
    have c := hr.cell n a G[n] q (by simp [hn])
    have e' : (match G[n]? with | some (.lst _) => some "list" | some (.dK _) => some "dict" | some (.dT _) => some "dict" | _ => none) = some t := e
    rw [List.getElem?_eq_getElem hn] at e'
    cases k : G[n] with
    | lst xs =>
      rw [k] at e' c; cases e'
      cases c with
      | lst h t => exact .base (.lst h)
    | dK xs =>
      rw [k] at e' c; cases e'
      cases c with
      | dK h k t => exact .base (.dK h)
    | dT xs =>
      rw [k] at e' c; cases e'
      cases c with
      | dT h k t => exact .base (.dT h)
    | _ => rw [k] at e'; cases e'
  | _ => cases e
/-- isinstance(x, T) -/
def isiB (t T : String) : Option Bool := if t = "NoneType" then (if T = "NoneType" then some true else some false) else
  if t = T then some true else some (t == "bool" && T == "int")
def tyOk : List String := ["int", "str", "bool", "tuple", "list", "dict"]
theorem isi_kit : ∀ t ∈ ["NoneType", "bool", "int", "str", "tuple", "list", "dict"], ∀ T ∈ tyOk, kitB t T = isiB t T := by decide +kernel
def dIsi (T : String) : D → GH → R D := fun d G => match tyN G d with
  | some t => (match isiB t T with
    | some b => .ok (.bl b) G
    | none => .no)
  | none => .no
theorem tyN_mem {G : GH} {d : D} {t : String} (e : tyN G d = some t) : t ∈ ["NoneType", "bool", "int", "str", "tuple", "list", "dict"] := by
  unfold tyN at e
  split at e <;> first
    | (cases e; simp; done)
    | (cases e; done)
    | (split at e <;> first
      | (cases e; simp)
      | cases e)
section
variable {X : Cx} {W : WX} {pos p p2 : Pos} {e : Expr} {f : FE} {T : String} {x : Str}
def eOne (f : FE) (k : D → GH → R D) : FE := fun δ G => (f δ G).bind k
theorem xe_isi (hT : T ∈ tyOk) (hv : bootBuiltins x = some (.type T)) (hm : X.mg "isinstance" = none) (hmx : X.mg x = none) (hx : x ≠ "__name__") (hdx : (x == ("__debug__" : Str)) = false) (ha : xE X W e f) (hg : Gl X "isinstance" := by rfl) (hgx : Gl X x := by rfl)
    (he : starEach [e, .Name x p2] X.env = (false, eval e X.env) :: starEach [.Name x p2] X.env := by rfl) (he2 : starEach [.Name x p2] X.env = (false, eval (.Name x p2) X.env) :: starEach [] X.env := by rfl) (hpl : (backTo pos (starEach [.Name x p2] X.env)).any (·.1) = false := by rfl) :
    xE X W (.Call (.Name "isinstance" p) [e, .Name x p2] [] pos) (eOne f (dIsi T)) :=
  PEimp (pe_callB call_isi hg hm (by decide +kernel) (pa_cons ha (pa_cons (pe_bltn hgx hmx hv (v := .ty T) rfl hx hdx) pa_nil he2) he) (by decide) (by decide) he hpl) fun σ H Q ⟨L, δ, G, hr, er, q⟩ =>
    Sat.bind (rep' := repD X.K) hr er q fun L1 G1 H1 d v le hr1 er1 rd q1 => by
      unfold dIsi at q1
      cases e1 : tyN G1 d with
      | none => rw [e1] at q1; exact q1.elim
      | some t =>
        rw [e1] at q1
        dsimp only at q1
        cases e2 : isiB t T with
        | none => rw [e2] at q1; exact q1.elim
        | some b =>
          rw [e2] at q1
          exact ⟨v, .ty T, .type t, .type T, b, rfl, .ty T, tyN_rep hr1 rd e1, kit_ty ((isi_kit t (tyN_mem e1) T hT).trans e2), q1 L1 H1 _ (.refl _) hr1 (.bl b)⟩
end

/-! ### methods of lists -/
/-- what a method tells, by values; x: the object -/
abbrev FM := D → List D → GH → R D
def MtD (K : PySem.W.Frag) (f : FM) (r : V → List V → Hp → VK → Prop) : Prop := ∀ (L : Lk) (G : GH) (H : Hp) (d : D) (v : V) (ds : List D) (vs : List V) (W : WX) (σ : St) (Q : VK), HR K L G H → Rep K L.Z L.r d v → Reps K L.Z L.r ds vs → Sat K W L σ (repD K) (f d ds G) Q → r v vs H Q
def tyM (T : String) (G : GH) (d : D) : Bool := match d with
  | .str _ => T == "str"
  | .int _ => T == "int"
  | d => match lstOf G d with
    | some _ => T == "list"
    | none => match d with
      | .ref n => match G[n]? with
        | some (.dK _) => T == "dict"
        | some (.dT _) => T == "dict"
        | _ => false
      | _ => false
theorem tyM_rep {K : PySem.W.Frag} {L : Lk} {G : GH} {H : Hp} {d : D} {v : V} {T : String} (hr : HR K L G H) (h : Rep K L.Z L.r d v) (e : tyM T G d = true) : tyV K T v H := by
  have gen : ∀ xs, lstOf G d = some xs → (T == "list") = true → tyV K T v H := fun xs e1 e2 => by
    obtain ⟨p, vs, rfl, s, t⟩ := lst_rep hr h e1
    exact .inl ⟨eq_of_beq e2, vs, s⟩
  cases h with
  | str x => exact eq_of_beq e
  | int x => exact eq_of_beq e
  | lst z t => exact gen _ rfl e
  | scr z t => exact gen _ rfl e
  | @ref n a q =>
    have hn : n < G.length := by rw [← hr.len]; exact (List.getElem?_eq_some_iff.mp q).1
    have c := hr.cell n a G[n] q (by simp [hn])
    unfold tyM at e
    dsimp only at e
    cases e1 : lstOf G (.ref n) with
    | some xs => rw [e1] at e; exact gen xs e1 e
    | none =>
      rw [e1] at e
      dsimp only at e
      rw [List.getElem?_eq_getElem hn] at e
      cases k : G[n] with
      | dK xs =>
        rw [k] at e c
        cases c with
        | dK h k t => exact .inr (.inr (.inl ⟨eq_of_beq e, .inl ⟨_, h⟩⟩))
      | dT xs =>
        rw [k] at e c
        cases c with
        | dT h k t => exact .inr (.inr (.inl ⟨eq_of_beq e, .inr ⟨_, h⟩⟩))
      | _ => rw [k] at e; cases e
  | _ => cases e
def eMt (T : String) (f : FM) (o : FE) (g : FA) : FE := fun δ G => (o δ G).bind fun d G1 => if tyM T G1 d then (g δ G1).bind fun ds G2 => f d ds G2 else .no
def eMt0 (T : String) (f : FM) (o : FE) : FE := fun δ G => (o δ G).bind fun d G1 => if tyM T G1 d then f d [] G1 else .no
section
variable {X : Cx} {W : WX} {pos apos cpos : Pos} {o e : Expr} {es : List Expr} {fo : FE} {g : FA} {f : FM} {T id : String} {name : Str} {r : V → List V → Hp → VK → Prop}
theorem xe_mt (pa : PlainAttrs T) (slot : Slot T name id) (hty : typeOf (.builtin id) = pure (.type "method_descriptor")) (hm : MtR X id r) (hd : MtD X.K f r) (ho : xE X W o fo) (ha : xA X W (e :: es) g)
    (hbase : attributeBase o name X.env (eval o X.env) = eval o X.env := by rfl)
    (hfew : ((backTo cpos (starEach (e :: es) X.env)).all (fun x => !x.1) && (backToKw cpos (keywordEach [] X.env)).all (fun x => x.1.isSome)
      && decide ((e :: es).length + ([] : List Keyword).length + (if ([] : List Keyword).isEmpty then 0 else 1) < 30)) = true := by rfl)
    (hline : (apos.endLine == cpos.line) = true := by rfl) (hs : starEach (e :: es) X.env = (false, eval e X.env) :: starEach es X.env := by rfl) (hplain : (backTo cpos (starEach es X.env)).any (·.1) = false := by rfl) :
    xE X W (.Call (.Attribute o name apos) (e :: es) [] cpos) (eMt T f fo g) :=
  PEimp (pe_bm pa slot hty hm ho ha hbase hfew hline hs hplain) fun σ H Q ⟨L, δ, G, hr, er, q⟩ => Sat.bind (rep' := repD X.K) hr er q fun L1 G1 H1 d v le hr1 er1 rd q1 => by
    by_cases ht : tyM T G1 d = true
    · rw [if_pos ht] at q1
      exact ⟨tyM_rep hr1 rd ht, Sat.bind (rep' := repD X.K) hr1 er1 q1 fun L2 G2 H2 ds vs le2 hr2 er2 rds q2 => hd L2 G2 H2 d v ds vs W σ Q hr2 (rd.mono le2) rds q2⟩
    · rw [if_neg ht] at q1; exact q1.elim
theorem xe_mt0 (pa : PlainAttrs T) (slot : Slot T name id) (hty : typeOf (.builtin id) = pure (.type "method_descriptor")) (hm : MtR X id r) (hd : MtD X.K f r) (ho : xE X W o fo)
    (hbase : attributeBase o name X.env (eval o X.env) = eval o X.env := by rfl) (hline : (apos.endLine == cpos.line) = true := by rfl) : xE X W (.Call (.Attribute o name apos) [] [] cpos) (eMt0 T f fo) :=
  PEimp (pe_bm0 pa slot hty hm ho hbase hline) fun σ H Q ⟨L, δ, G, hr, er, q⟩ => Sat.bind (rep' := repD X.K) hr er q fun L1 G1 H1 d v le hr1 er1 rd q1 => by
    by_cases ht : tyM T G1 d = true
    · rw [if_pos ht] at q1
      exact ⟨tyM_rep hr1 rd ht, hd L1 G1 H1 d v [] [] W σ Q hr1 rd .nil q1⟩
    · rw [if_neg ht] at q1; exact q1.elim
end
section
variable {K : PySem.W.Frag} {L : Lk} {G : GH} {H : Hp} {v : V}
/-- a list that changes -/
def celL (G : GH) : D → Option (Nat × List D)
  | .ref n => match G[n]? with
    | some (.lst xs) => some (n, xs)
    | _ => none
  | _ => none
@[simp] theorem celL_ref (G : GH) (n : Nat) : celL G (.ref n) = match G[n]? with | some (.lst xs) => some (n, xs) | _ => none := rfl
theorem celL_rep (hr : HR K L G H) {d : D} (h : Rep K L.Z L.r d v) {n : Nat} {xs : List D} (e : celL G d = some (n, xs)) : ∃ a vs, v = .ref a ∧ L.r[n]? = some a ∧ H a = some (.lst vs) ∧ Reps K L.Z L.r xs vs := by
  cases h with
  | @ref m a q =>
    have e' : (match G[m]? with | some (.lst xs) => some (m, xs) | _ => none) = some (n, xs) := e
    cases k : G[m]? with
    | none => rw [k] at e'; cases e'
    | some c =>
      rw [k] at e'
      cases c with
      | lst ys =>
        cases e'
        have c := hr.cell _ a _ q k
        cases c with
        | lst h t => exact ⟨a, _, rfl, q, h, t⟩
      | _ => cases e'
  | _ => cases e
theorem HR.setL (hr : HR K L G H) {n : Nat} {a : Addr} {ys : List D} {us : List V} (q : L.r[n]? = some a) (t : Reps K L.Z L.r ys us) : HR K L (G.set n (.lst ys)) (upd H a (.lst us)) := hr.set q (.lst upd_same t)
def mAppend : FM := fun d ds G => match celL G d, ds with
  | some (n, xs), [y] => if xs.length < sizeLine then .ok .non (G.set n (.lst (xs ++ [y]))) else .no
  | _, _ => .no
theorem md_append : MtD K mAppend rAppend := fun L G H d v ds vs W σ Q hr rd rds q => by
  unfold mAppend at q
  cases e : celL G d with
  | none => rw [e] at q; exact q.elim
  | some nx =>
    obtain ⟨n, xs⟩ := nx
    rw [e] at q
    cases rds with
    | nil => exact q.elim
    | cons ry t =>
      cases t with
      | cons _ _ => exact q.elim
      | nil =>
        dsimp only at q
        obtain ⟨a, us, rfl, q1, q2, q3⟩ := celL_rep hr rd e
        by_cases hl : xs.length < sizeLine
        · rw [if_pos hl] at q
          exact ⟨a, us, _, rfl, rfl, q2, by rw [← q3.length]; exact hl, q L _ _ (.refl _) (hr.setL q1 (q3.append (.cons ry .nil))) .non⟩
        · rw [if_neg hl] at q; exact q.elim
def mExtend : FM := fun d ds G => match celL G d, ds with
  | some (n, xs), [y] => (match lstX G y with
    | some zs => if xs.length + zs.length ≤ sizeLine then .ok .non (G.set n (.lst (xs ++ zs))) else .no
    | none => .no)
  | _, _ => .no
theorem md_extend : MtD K mExtend rExtend := fun L G H d v ds vs W σ Q hr rd rds q => by
  unfold mExtend at q
  cases e : celL G d with
  | none => rw [e] at q; exact q.elim
  | some nx =>
    obtain ⟨n, xs⟩ := nx
    rw [e] at q
    cases rds with
    | nil => exact q.elim
    | @cons y u _ _ ry t =>
      cases t with
      | cons _ _ => exact q.elim
      | nil =>
        dsimp only at q
        cases e2 : lstX G y with
        | none => rw [e2] at q; exact q.elim
        | some zs =>
          rw [e2] at q
          obtain ⟨a, us, rfl, q1, q2, q3⟩ := celL_rep hr rd e
          obtain ⟨b, ws, rfl, q4, q5⟩ := lstX_rep hr ry e2
          dsimp only at q
          by_cases hl : xs.length + zs.length ≤ sizeLine
          · rw [if_pos hl] at q
            exact ⟨a, b, us, ws, rfl, rfl, q2, q4, by rw [← q3.length, ← q5.length]; exact hl, q L _ _ (.refl _) (hr.setL q1 (q3.append q5)) .non⟩
          · rw [if_neg hl] at q; exact q.elim
theorem Reps.dropLast {Z : Hp} {r : List Addr} {ds : List D} {vs : List V} (h : Reps K Z r ds vs) : Reps K Z r ds.dropLast vs.dropLast := by
  rw [List.dropLast_eq_take, List.dropLast_eq_take, h.length]; exact h.take _
def mPop : FM := fun d ds G => match celL G d, ds with
  | some (n, xs), [] => (match xs[xs.length - 1]? with
    | some y => .ok y (G.set n (.lst xs.dropLast))
    | none => .no)
  | _, _ => .no
theorem md_pop : MtD K mPop rPop := fun L G H d v ds vs W σ Q hr rd rds q => by
  unfold mPop at q
  cases e : celL G d with
  | none => rw [e] at q; exact q.elim
  | some nx =>
    obtain ⟨n, xs⟩ := nx
    rw [e] at q
    cases rds with
    | cons _ _ => exact q.elim
    | nil =>
      dsimp only at q
      obtain ⟨a, us, rfl, q1, q2, q3⟩ := celL_rep hr rd e
      cases e2 : xs[xs.length - 1]? with
      | none => rw [e2] at q; exact q.elim
      | some y =>
        rw [e2] at q
        obtain ⟨u, e3, ru⟩ := q3.get e2
        exact ⟨a, us, u, rfl, rfl, q2, by rw [← q3.length]; exact e3, q L _ _ (.refl _) (hr.setL q1 q3.dropLast) ru⟩
def mPopAt : FM := fun d ds G => match celL G d, ds with
  | some (n, xs), [.int i] => (match ixN xs.length i with
    | some k => (match xs[k]? with
      | some y => if xs.length < 2 ^ 62 then .ok y (G.set n (.lst (xs.eraseIdx k))) else .no
      | none => .no)
    | none => .no)
  | _, _ => .no
theorem md_popAt : MtD K mPopAt rPopAt := fun L G H d v ds vs W σ Q hr rd rds q => by
  unfold mPopAt at q
  cases e : celL G d with
  | none => rw [e] at q; exact q.elim
  | some nx =>
    obtain ⟨n, xs⟩ := nx
    rw [e] at q
    cases rds with
    | nil => exact q.elim
    | @cons y u _ _ ry t =>
      cases ry with
      | int i =>
        cases t with
        | cons _ _ => exact q.elim
        | nil =>
          dsimp only at q
          obtain ⟨a, us, rfl, q1, q2, q3⟩ := celL_rep hr rd e
          cases e1 : ixN xs.length i with
          | none => rw [e1] at q; exact q.elim
          | some k =>
            rw [e1] at q
            dsimp only at q
            cases e2 : xs[k]? with
            | none => rw [e2] at q; exact q.elim
            | some y =>
              rw [e2] at q
              dsimp only at q
              by_cases hl : xs.length < 2 ^ 62
              · rw [if_pos hl] at q
                obtain ⟨u, e3, ru⟩ := q3.get e2
                obtain ⟨h1, h2, h3, h4⟩ := ixN_seq e1
                exact ⟨a, us, i, k, u, rfl, rfl, q2, by omega, by omega, by rw [← q3.length]; exact h1, e3, q L _ _ (.refl _) (hr.setL q1 (q3.eraseIdx k)) ru⟩
              · rw [if_neg hl] at q; exact q.elim
      | _ => cases t <;> exact q.elim
def mReverse : FM := fun d ds G => match celL G d, ds with
  | some (n, xs), [] => .ok .non (G.set n (.lst xs.reverse))
  | _, _ => .no
theorem md_reverse : MtD K mReverse rReverse := fun L G H d v ds vs W σ Q hr rd rds q => by
  unfold mReverse at q
  cases e : celL G d with
  | none => rw [e] at q; exact q.elim
  | some nx =>
    obtain ⟨n, xs⟩ := nx
    rw [e] at q
    cases rds with
    | cons _ _ => exact q.elim
    | nil =>
      dsimp only at q
      obtain ⟨a, us, rfl, q1, q2, q3⟩ := celL_rep hr rd e
      exact ⟨a, us, rfl, rfl, q2, q L _ _ (.refl _) (hr.setL q1 q3.reverse) .non⟩
end
theorem MtM.r {X : Cx} {id : String} {r : V → List V → Hp → VK → Prop} (h : MtM X id r) : MtR X id r := h
section
variable {X : Cx} {W : WX} {pos apos cpos : Pos} {o e : Expr} {fo : FE} {g : FA}
theorem xe_append (ho : xE X W o fo) (ha : xA X W [e] g) (hbase : attributeBase o "append" X.env (eval o X.env) = eval o X.env := by rfl)
    (hfew : ((backTo cpos (starEach [e] X.env)).all (fun x => !x.1) && (backToKw cpos (keywordEach [] X.env)).all (fun x => x.1.isSome) && decide ([e].length + ([] : List Keyword).length + (if ([] : List Keyword).isEmpty then 0 else 1) < 30)) = true := by rfl)
    (hline : (apos.endLine == cpos.line) = true := by rfl) (hs : starEach [e] X.env = (false, eval e X.env) :: starEach [] X.env := by rfl) : xE X W (.Call (.Attribute o "append" apos) [e] [] cpos) (eMt "list" mAppend fo g) :=
  xe_mt PySem.F.plainAttrs_list PySem.F.slot_list_append PySem.F.type_list_append (MtM.r mt_append) md_append ho ha hbase hfew hline hs rfl
theorem xe_extend (ho : xE X W o fo) (ha : xA X W [e] g) (hbase : attributeBase o "extend" X.env (eval o X.env) = eval o X.env := by rfl)
    (hfew : ((backTo cpos (starEach [e] X.env)).all (fun x => !x.1) && (backToKw cpos (keywordEach [] X.env)).all (fun x => x.1.isSome) && decide ([e].length + ([] : List Keyword).length + (if ([] : List Keyword).isEmpty then 0 else 1) < 30)) = true := by rfl)
    (hline : (apos.endLine == cpos.line) = true := by rfl) (hs : starEach [e] X.env = (false, eval e X.env) :: starEach [] X.env := by rfl) : xE X W (.Call (.Attribute o "extend" apos) [e] [] cpos) (eMt "list" mExtend fo g) :=
  xe_mt PySem.F.plainAttrs_list PySem.F.slot_list_extend PySem.F.type_list_extend (MtM.r mt_extend) md_extend ho ha hbase hfew hline hs rfl
theorem xe_popAt (ho : xE X W o fo) (ha : xA X W [e] g) (hbase : attributeBase o "pop" X.env (eval o X.env) = eval o X.env := by rfl)
    (hfew : ((backTo cpos (starEach [e] X.env)).all (fun x => !x.1) && (backToKw cpos (keywordEach [] X.env)).all (fun x => x.1.isSome) && decide ([e].length + ([] : List Keyword).length + (if ([] : List Keyword).isEmpty then 0 else 1) < 30)) = true := by rfl)
    (hline : (apos.endLine == cpos.line) = true := by rfl) (hs : starEach [e] X.env = (false, eval e X.env) :: starEach [] X.env := by rfl) : xE X W (.Call (.Attribute o "pop" apos) [e] [] cpos) (eMt "list" mPopAt fo g) :=
  xe_mt PySem.F.plainAttrs_list PySem.F.slot_list_pop PySem.F.type_list_pop (MtM.r mt_popAt) md_popAt ho ha hbase hfew hline hs rfl
theorem xe_pop (ho : xE X W o fo) (hbase : attributeBase o "pop" X.env (eval o X.env) = eval o X.env := by rfl) (hline : (apos.endLine == cpos.line) = true := by rfl) : xE X W (.Call (.Attribute o "pop" apos) [] [] cpos) (eMt0 "list" mPop fo) :=
  xe_mt0 PySem.F.plainAttrs_list PySem.F.slot_list_pop PySem.F.type_list_pop (MtM.r mt_pop) md_pop ho hbase hline
theorem xe_reverse (ho : xE X W o fo) (hbase : attributeBase o "reverse" X.env (eval o X.env) = eval o X.env := by rfl) (hline : (apos.endLine == cpos.line) = true := by rfl) : xE X W (.Call (.Attribute o "reverse" apos) [] [] cpos) (eMt0 "list" mReverse fo) :=
  xe_mt0 PySem.F.plainAttrs_list PySem.F.slot_list_reverse PySem.F.type_list_reverse (MtM.r mt_reverse) md_reverse ho hbase hline

/-! ### xs[i] = e -/
def sSetI (fo fi f : FE) : FS := fun δ G => (f δ G).thn δ fun d G1 => (fo δ G1).thn δ fun o G2 => (fi δ G2).thn δ fun i G3 => match celL G3 o, i with
  | some (n, xs), .int z => (match ixN xs.length z with
    | some j => .nx δ (G3.set n (.lst (xs.set j d)))
    | none => .no)
  | _, _ => .no
theorem xs_setI {i : Expr} {fi f : FE} (he : xE X W e f) (ho : xE X W o fo) (hi : xE X W i fi) (ha : ∀ v, assign (.Subscript o i apos) X.env v = (do
      let ov ← holding [v] (eval o X.env)
      let iv ← holding [v, ov] (eval i X.env)
      standAt apos
      holding [v, ov, iv] (setItem ov iv v)
      release [v, ov, iv] []) := by intro _; rfl) (hs : swapsWithSole [.Subscript o i apos] e pos.line X.env = pure false := by rfl) (hw : swappedStores [.Subscript o i apos] e X.env = pure none := by rfl)
    (h1 : (assignEach [.Subscript o i apos] X.env).map (·.2) = [assign (.Subscript o i apos) X.env] := by rfl) : xS X W (.Assign [.Subscript o i apos] e pos) (sSetI fo fi f) :=
  PSimp (ps_asg he (pg_sub ho hi set_list ha) hs hw h1) fun E σ H ⟨L, δ, G, hr, er, q⟩ => Sat.thn hr er q fun L1 G1 H1 d v le hr1 er1 rd q1 =>
    Sat.thn hr1 er1 q1 fun L2 G2 H2 od ov le2 hr2 er2 ro q2 => Sat.thn hr2 er2 q2 fun L3 G3 H3 id iv le3 hr3 er3 ri q3 => by
      cases e1 : celL G3 od with
      | none => rw [e1] at q3; exact q3.elim
      | some nx =>
        obtain ⟨n, xs⟩ := nx
        rw [e1] at q3
        have ri' : Rep X.K L3.Z L3.r id iv := ri
        cases ri' with
        | int z =>
          dsimp only at q3
          cases e2 : ixN xs.length z with
          | none => rw [e2] at q3; exact q3.elim
          | some j =>
            rw [e2] at q3
            obtain ⟨a, us, rfl, r1, r2, r3⟩ := celL_rep hr3 (Rep.mono le3 ro) e1
            exact ⟨a, us, z, j, rfl, rfl, r2, by rw [← r3.length]; exact e2, q3 L3 σ _ (.refl _) (hr3.setL r1 (r3.set (Rep.mono le3 (Rep.mono le2 rd)) j)) er3⟩
        | _ => exact q3.elim

/-! ### xs += ys -/
def sAugE (i : Nat) (f : FE) : FS := fun δ G => match δ[i]? with
  | some (some x) => (f δ G).thn δ fun y G1 => (match celL G1 x, lstX G1 y with
    | some (n, xs), some ys => if xs.length + ys.length ≤ sizeLine then .nx (δ.set i (some x)) (G1.set n (.lst (xs ++ ys))) else .no
    | _, _ => .no)
  | _ => .no
theorem xs_augE {i : Nat} {x : Str} {f : FE} {pos' : Pos} (hN : X.N.Nodup) (hi : X.N[i]? = some x) (hx : Loc X.env.scope x) (he : xE X W e f) (hf : X.fn x = true ∨ X.env.scope.names.lookup x = some .local := by first | exact .inl rfl | exact .inr rfl | assumption) :
    xS X W (.AugAssign (.Name x pos') .Add e pos) (sAugE i f) :=
  PSimp (ps_aug hN hi hx he (ti := rExt2) iop_ext hf) fun E σ H ⟨L, δ, G, hr, er, q⟩ => by
    unfold sAugE at q
    split at q
    · rename_i x e0
      obtain ⟨v, e1, rv⟩ := er.2 i x e0
      refine ⟨v, e1, Sat.thn hr er q fun L1 G1 H1 d u le hr1 er1 rd q1 => ?_⟩
      cases e2 : celL G1 x with
      | none => rw [e2] at q1; exact q1.elim
      | some nx =>
        obtain ⟨n, xs⟩ := nx
        cases e3 : lstX G1 d with
        | none => rw [e2, e3] at q1; exact q1.elim
        | some ys =>
          rw [e2, e3] at q1
          dsimp only at q1
          obtain ⟨a, us, rfl, r1, r2, r3⟩ := celL_rep hr1 (Rep.mono le rv) e2
          obtain ⟨b, ws, rfl, r4, r5⟩ := lstX_rep hr1 rd e3
          by_cases hl : xs.length + ys.length ≤ sizeLine
          · rw [if_pos hl] at q1
            exact ⟨a, b, us, ws, rfl, rfl, r2, r4, by rw [← r3.length, ← r5.length]; exact hl, q1 L1 _ _ (.refl _) (hr1.setL r1 (r3.append r5)) (er1.set i (Rep.mono le rv))⟩
          · rw [if_neg hl] at q1; exact q1.elim
    · exact q.elim
end
end CF
end
section
set_option maxRecDepth 100000
set_option maxHeartbeats 1000000
/-! sorted. -/
namespace CF
open PySem PySem.Spec PySem.SeqAt PySem.W PyProof.Rows L2 SeqAt

/-- all tuples, an empty one first -/
def RootFirst (ds : List PyData) : Prop := (∃ r, ds = .tuple [] :: r) ∧ ∀ d ∈ ds, ∃ xs, d = .tuple xs
def SortOk (ds : List PyData) : Prop := PySem.W.AllAlike ds ∧ (PySem.W.Sortable ds ∨ RootFirst ds) ∧ ∀ d ∈ ds, d.depth ≤ 60

section
variable {prog : Program} {w : World} {A : Around} {E : Value → Shared → Prop} {s : Shared}
theorem call_tuple_lt {Q : Value → Shared → Prop} {l b : Addr} {items items2 : Array Value} {e r : Nat → Bool} (hl : s.heap.IsTuple l items) (hb : s.heap.IsTuple b items2)
    (he : ∀ j (h1 : j < items.size) (h2 : j < items2.size), EqAt A.in1 s items[j] items2[j] (e j)) (hr : ∀ j (h1 : j < items.size) (h2 : j < items2.size), e j = false → RcLt A.in1 s items[j] items2[j] (r j))
    (h : Q (.bool (firstLt e r (decide (items.size < items2.size)) (List.range (min items.size items2.size)))) s) : wpAny (model prog w) A (call (.builtin "tuple.__lt__") [.ref l, .ref b]) Q E s := by
  obtain ⟨⟨cls, dd, data, sl⟩, ho, hc, n, hd⟩ := id hl
  obtain ⟨⟨cls2, dd2, data2, sl2⟩, ho2, hc2, n2, hd2⟩ := id hb
  simp only at hc hd hc2 hd2
  subst hc hd hc2 hd2
  exact call_meets F.slot_tuple_lt ⟨_, ho, rfl⟩ F.entry_tuple_lt (F.args_tuple_lt_2 _ _) (tuple_ltAt l b items items2 n n2 dd dd2 sl sl2 e r) ⟨ho, ho2, he, hr, h⟩
theorem oneLt_tup {xs ys : List PyData} {a b : Value} {as bs : List Addr} {Q : Bool → Shared → Prop} (ra : Reads s.heap a (.tuple xs) as) (rb : Reads s.heap b (.tuple ys) bs) (hal : PySem.W.alikeAll xs ys = true)
    (hu : A.units + min (PyData.tuple xs).depth (PyData.tuple ys).depth < cLine) (hq : Q (PySem.W.dataLt (.tuple xs) (.tuple ys)) s) : wpAny (model prog w) A (oneLt' true a b) Q E s := by
  cases ra with
  | @tuple l o vs n _ as₁ h1 h2 h3 h4 =>
    cases rb with
    | @tuple l' o' vs' n' _ bs₁ k1 k2 k3 k4 =>
      have n1 : vs.size = xs.length := by simpa using ReadsAll.length _ _ _ h4
      have n2 : vs'.size = ys.length := by simpa using ReadsAll.length _ _ _ k4
      rw [PySem.W.dataLt_tuple, ← PySem.W.firstLt_toks xs ys hal, ← n1, ← n2] at hq
      rw [oneLt'_eq]
      simp only [if_true]
      refine wpAny_bind (wpAny_cRoomFor (room_here hu) ?_)
      refine wpAny_bind (wpAny_callSpecialIfBound?_slot (T := "tuple") ⟨_, h1, h2⟩ F.slot_tuple_lt (call_tuple_lt (e := pairEq xs ys) (r := fun j => PySem.W.dataLt (xs.getD j .none) (ys.getD j .none)) ⟨_, h1, h2, _, h3⟩ ⟨_, k1, k2, _, k3⟩ (fun j j1 j2 => ?_) (fun j j1 j2 hj => ?_) ?_))
      · have := PySem.W.eqAt_alikeAll xs ys A.in1 s vs.toList vs'.toList _ _ h4 k4 hal (room_in hu) j (by simpa using j1) (by simpa using j2)
        simpa using this
      · have := PySem.W.rcLt_alikeAll xs ys A.in1 s vs.toList vs'.toList _ _ h4 k4 hal (room_in hu) j (by simpa using j1) (by simpa using j2) hj
        simpa using this
      · exact wpAny_truthy_bool hq
theorem mapM_some {M : Model} {α β : Type} {f : α → Sem β} (P : α → β → Prop) : ∀ (l : List α) {Q : List β → Shared → Prop}, (∀ v ∈ l, ∃ r, P v r ∧ ∀ (Q' : β → Shared → Prop), Q' r s → wpAny M A (f v) Q' E s) →
    (∀ rs : List β, PySem.W.EachIs P l rs → Q rs s) → wpAny M A (l.mapM f) Q E s
  | [], _, _, h => by rw [List.mapM_nil]; exact wpAny_pure (h [] .nil)
  | x :: l, Q, hf, h => by
    rw [List.mapM_cons]
    obtain ⟨r, p, k⟩ := hf x (.head _)
    exact wpAny_bind (k _ (wpAny_bind (mapM_some P l (Q := fun bs s' => wpAny M A (pure (r :: bs)) Q E s') (fun v hv => hf v (.tail _ hv)) fun rs e => wpAny_pure (h _ (.cons p e)))))
end
section
variable {prog : Program} {w : World} {A : Around} {E : Value → Shared → Prop} {s : Shared}
theorem root_kind {vs : List Value} {ds : List PyData} (e : PySem.W.EachIs (fun v d => ∃ as, Reads s.heap v d as) vs ds) (h0 : RootFirst ds) (h2 : 2 ≤ vs.length) {Q : SortKind → Shared → Prop} (hq : Q oneType' s) : wpAny (model prog w) A (keyKind' vs.toArray) Q E s := by
  obtain ⟨⟨r, rfl⟩, ht⟩ := h0
  cases e with
  | @cons v _ vs _ h1 t =>
    have hall : ∀ u ∈ v :: vs, ∃ xs as, Reads s.heap u (.tuple xs) as := fun u hu => by
      obtain ⟨d, hd, as, q⟩ := (PySem.W.EachIs.cons h1 t).left u hu
      obtain ⟨xs, rfl⟩ := ht d hd
      exact ⟨xs, as, q⟩
    rw [kat_kind_eq, List.mapM_toArray, map_eq_pure_bind]
    refine wpAny_bind (wpAny_bind (mapM_some (fun u r => u = v → r = none) (v :: vs) (fun u hu => ?_) fun rs q => wpAny_pure ?_))
    · obtain ⟨xs, as, q⟩ := hall u hu
      cases q with
      | @tuple l o its n _ _ a1 a2 a3 a4 =>
        refine ⟨its[0]?, fun e => ?_, fun Q' hq' => ?_⟩
        · subst e
          obtain ⟨as0, q0⟩ := h1
          cases q0 with
          | tuple b1 b2 b3 b4 =>
            rw [a1] at b1; cases b1
            rw [a3] at b3; cases b3
            have := ReadsAll.length _ _ _ b4
            have hz : its.size = 0 := by simpa using this
            simp [hz]
        · rw [kas_first_eq]
          refine wpAny_bind (Looks.here (show Looks (model prog w) s.heap (typeOf (.ref l)) o.cls from (Looks.ld a1).andThen .now) ?_)
          rw [a2, if_neg (by first | decide | simp)]
          exact wpAny_bind (listItems_at a1 a3 (wpAny_pure hq'))
    · cases q with
      | @cons _ r0 _ rs h3 t3 =>
        have e0 := h3 rfl
        subst e0
        rw [if_neg (by simp), if_neg (by simp)]
        rw [oneTypeOnly'_eq, List.mapM_toArray, map_eq_pure_bind]
        refine wpAny_bind (wpAny_bind (wpAny_bind (kas_mapM (r := Value.type "tuple") _ (fun u hu Q' hq' => ?_) (wpAny_pure ?_))))
        · obtain ⟨xs, as, q⟩ := hall u hu
          exact (PySem.W.looks_reads q).here hq'
        · have hall2 : ((List.map (fun _ => Value.type "tuple") (v :: vs)).toArray.all fun x => x == Value.type "tuple") = true := by
            simp only [List.all_toArray, List.all_map, List.all_eq_true]
            intro _ _
            rfl
          have h00 : (List.map (fun _ => Value.type "tuple") (v :: vs)).toArray[0]? = some (Value.type "tuple") := by simp
          rw [h00]
          simp only [hall2, if_true]
          exact wpAny_pure (wpAny_pure hq)
theorem sortsAt {vs : List Value} {ds : List PyData} (e : PySem.W.EachIs (fun v d => ∃ as, Reads s.heap v d as) vs ds) (hal : PySem.W.AllAlike ds) (hk : PySem.W.Sortable ds ∨ RootFirst ds) (hu : ∀ d, d ∈ ds → A.units + d.depth < cLine) :
    PySem.W.SortsAt prog w A s (PySem.W.dataKind s.heap ds) vs := by
  rcases hk with hk | hk
  · exact PySem.W.SortsAt.data e hal hk hu
  · refine ⟨fun v hv => ?_, oneType', ?_, fun h2 E Q hq => root_kind e hk h2 hq⟩
    · obtain ⟨d, hd, as, r⟩ := e.left v hv
      exact ⟨_, PySem.W.dataKind_some hal hd r⟩
    · intro E x y a b Q ha hb hq
      obtain ⟨d, as, hd, ra, rfl⟩ := PySem.W.dataKind_inv ha
      obtain ⟨d', as', hd', rb, rfl⟩ := PySem.W.dataKind_inv hb
      rw [keyLt'_oneType]
      obtain ⟨xs, rfl⟩ := hk.2 d hd
      obtain ⟨ys, rfl⟩ := hk.2 d' hd'
      have h3 := hal _ hd _ hd'
      exact oneLt_tup ra rb (by simpa [PySem.W.alike] using h3) (Nat.lt_of_le_of_lt (Nat.add_le_add_left (Nat.min_le_left _ _) _) (hu _ hd)) hq
/-- sorted(xs) -/
theorem sorted_dat {β : Type} {vs : List Value} {bs : List β} {enc : β → PyData} {R : Value → β → Prop} {l : Addr} {Q : Value → Shared → Prop} (hl : s.heap.IsList l vs.toArray) (e : PySem.W.EachIs R vs bs) (er : PySem.W.EachIs (fun v b => ∃ as, Reads s.heap v (enc b) as) vs bs)
    (hal : PySem.W.AllAlike (bs.map enc)) (hk : PySem.W.Sortable (bs.map enc) ∨ RootFirst (bs.map enc)) (hL : bs.length ≤ sizeLine) (hu : ∀ b, b ∈ bs → A.units + 2 + (enc b).depth < cLine)
    (h : ∀ out, out.length = bs.length → PySem.W.EachIs R out (bs.mergeSort (PySem.W.dataLe false enc)) → Q (.ref (s.heap.objs.size + 1)) { s with heap := sortedAll s.heap vs (List.toArray out) }) :
    wpAny (model prog w) A (call (.builtin "sorted") [.ref l]) Q E s := by
  have er' : PySem.W.EachIs (fun v b => ∃ as, Reads (PySem.W.sortingHeap (PySem.W.copyHeap s.heap vs) (s.heap.objs.size + 1) vs) v (enc b) as) vs bs := er.mono fun _ _ ⟨as, r⟩ => ⟨as, PyProof.Rows.Reads.keeps (fun _ _ => PySem.W.sorting_copy_old) r⟩
  exact PySem.W.sorted_vals hl (sortsAt (s := { s with heap := PySem.W.sortingHeap (PySem.W.copyHeap s.heap vs) (s.heap.objs.size + 1) vs }) (PySem.W.each_map (R := fun v d => ∃ as, Reads (PySem.W.sortingHeap (PySem.W.copyHeap s.heap vs) (s.heap.objs.size + 1) vs) v d as) enc er') hal hk (PySem.W.bound_map hu)) (by rw [e.length]; exact hL)
    (h _ (by rw [PySem.W.sortVals_length false rfl]; exact e.length) (PySem.W.sortVals_data false e er' hal))
end

/-! ### by values -/
section
theorem dpAll_each {X : Cx} {pins : List (Addr × Obj)} {σ : St} {H : Hp} {s : Shared} (I : Inv X pins σ H s) : ∀ {bs : List (V × PyData)} {us : List Value}, Vals (bs.map (·.1)) us → (∀ b ∈ bs, Dp X.K H b.1 b.2) →
    PySem.W.EachIs (fun u b => RelV b.1 u) us bs ∧ PySem.W.EachIs (fun u b => ∃ as, Reads s.heap u b.2 as) us bs
  | [], _, r, _ => by
    rw [List.map_nil] at r
    cases r
    exact ⟨.nil, .nil⟩
  | b :: bs, _, r, h => by
    rw [List.map_cons] at r
    cases r with
    | cons r1 r2 =>
      obtain ⟨i1, i2⟩ := dpAll_each I r2 fun b hb => h b (.tail _ hb)
      exact ⟨.cons r1 i1, .cons (Dp.reads I _ _ _ (h b (.head _)) r1) i2⟩
theorem each_vals {R : Value → V × PyData → Prop} (hR : ∀ u b, R u b → RelV b.1 u) : ∀ {us : List Value} {bs : List (V × PyData)}, PySem.W.EachIs R us bs → Vals (bs.map (·.1)) us
  | _, _, .nil => .nil
  | _, _, .cons h t => .cons (hR _ _ h) (each_vals hR t)
def rSortedDat (K : PySem.W.Frag) : List V → Hp → VK → Prop := fun xs H Q => ∃ (a : Addr) (bs : List (V × PyData)), xs = [.ref a] ∧ SqL K H a (bs.map (·.1)) ∧ (∀ b ∈ bs, Dp K H b.1 b.2) ∧ SortOk (bs.map (·.2)) ∧
  ∀ p, H p = none → Q (.ref p) (upd H p (.lst ((bs.mergeSort (PySem.W.dataLe false (·.2))).map (·.1))))
theorem cr_sortedDat {X : Cx} (hu : X.A.units + 64 < cLine) : CallR X (.builtin "sorted") (rSortedDat X.K) := by
  intro pins s σ H vs us Q I r h
  obtain ⟨a, bs, rfl, hs, hd, ⟨h1, h2, h3⟩, q⟩ := h
  obtain ⟨its, rv, hl, hz⟩ := I.list hs
  rw [Vals.ref1 r]
  obtain ⟨e1, e2⟩ := dpAll_each I rv hd
  rw [List.length_map] at hz
  refine sorted_dat (enc := (·.2)) hl.isList e1 e2 h1 h2 hz (fun b hb => ?_) fun out h4 h5 => ?_
  · have := h3 b.2 (List.mem_map.mpr ⟨b, hb, rfl⟩)
    omega
  · obtain ⟨ep, he'⟩ := PyProof.Rows.sortedAll_at s.heap its out.toArray
    have hlen : ((bs.mergeSort (PySem.W.dataLe false (·.2))).map (·.1)).length ≤ sizeLine := by rw [List.length_map, List.length_mergeSort]; exact hz
    exact ⟨.ref _, upd H (s.heap.objs.size + 1) (.lst ((bs.mergeSort (PySem.W.dataLe false (·.2))).map (·.1))), I.laid (t' := s.toks) (fun _ _ => PyProof.Rows.sortedAll_old) (Nat.le_succ _)
      ⟨hlen, out, ep, each_vals (fun _ _ h => h) h5, by simpa using he'⟩, rfl, q _ (I.hok.fresh (Nat.le_succ _))⟩
end
/-- what is compared -/
def pyd (d : D) : PyData := d.py.getD .none
def sortD (ds : List D) : List D := ds.mergeSort (PySem.W.dataLe false pyd)
open Classical in
noncomputable def dSorted (mk : List D → GH → R D) : D → GH → R D := fun d G => match lstOf G d with
  | some xs => (match D.pyAll xs with
    | some ps => if SortOk ps then mk (sortD xs) G else .no
    | none => .no)
  | none => .no
theorem pyAll_map : ∀ {xs : List D} {ps : List PyData}, D.pyAll xs = some ps → ps = xs.map pyd ∧ ∀ d ∈ xs, d.py = some (pyd d)
  | [], ps, e => by
    rw [D.pyAll] at e; cases e
    exact ⟨rfl, fun d h => by cases h⟩
  | x :: xs, ps, e => by
    rw [D.pyAll] at e
    cases e1 : x.py with
    | none => rw [e1] at e; simp at e
    | some p =>
      cases e2 : D.pyAll xs with
      | none => rw [e1, e2] at e; simp at e
      | some qs =>
        rw [e1, e2] at e
        simp at e
        subst e
        obtain ⟨i1, i2⟩ := pyAll_map e2
        refine ⟨by rw [List.map_cons, ← i1]; simp [pyd, e1], fun d h => ?_⟩
        rcases List.mem_cons.mp h with rfl | h
        · simp [pyd, e1]
        · exact i2 d h
theorem reps_pairs {K : PySem.W.Frag} {Z : Hp} {r : List Addr} : ∀ {cs : List (D × V)}, (∀ c ∈ cs, Rep K Z r c.1 c.2) → Reps K Z r (cs.map (·.1)) (cs.map (·.2))
  | [], _ => .nil
  | c :: cs, h => .cons (h c (.head _)) (reps_pairs fun c hc => h c (.tail _ hc))
theorem pairs_reps {K : PySem.W.Frag} {Z : Hp} {r : List Addr} : ∀ {ds : List D} {vs : List V}, Reps K Z r ds vs → ∃ cs : List (D × V), ds = cs.map (·.1) ∧ vs = cs.map (·.2) ∧ ∀ c ∈ cs, Rep K Z r c.1 c.2
  | _, _, .nil => ⟨[], rfl, rfl, fun c h => by cases h⟩
  | _, _, .cons (d := d) (v := v) h t => by
    obtain ⟨cs, e1, e2, h3⟩ := pairs_reps t
    refine ⟨(d, v) :: cs, by rw [List.map_cons, e1], by rw [List.map_cons, e2], fun c hc => ?_⟩
    rcases List.mem_cons.mp hc with rfl | hc
    · exact h
    · exact h3 c hc
theorem sort_fst {β γ : Type} (f : β → γ) (k : γ → PyData) (l : List β) : (l.map f).mergeSort (PySem.W.dataLe false k) = (l.mergeSort (PySem.W.dataLe false fun b => k (f b))).map f :=
  (PySem.W.sort_maps f (r := PySem.W.dataLe false fun b => k (f b)) (s := PySem.W.dataLe false k) fun _ _ _ _ => rfl).symm
theorem cb_sorted {K : PySem.W.Frag} {mk : List D → GH → R D} (m : Mk mk) : CbD K (one (dSorted mk)) (rSortedDat K) := cb_one fun L G H d v W σ Q hr rd q => by
  unfold dSorted at q
  cases e : lstOf G d with
  | none => rw [e] at q; exact q.elim
  | some xs =>
    rw [e] at q
    dsimp only at q
    cases e2 : D.pyAll xs with
    | none => rw [e2] at q; exact q.elim
    | some ps =>
      rw [e2] at q
      dsimp only at q
      by_cases hs : SortOk ps
      · rw [if_pos hs] at q
        obtain ⟨p, vs, rfl, s, t⟩ := lst_rep hr rd e
        obtain ⟨cs, rfl, rfl, hc⟩ := pairs_reps t
        obtain ⟨e3, e4⟩ := pyAll_map e2
        refine ⟨p, cs.map fun c => (c.2, pyd c.1), rfl, by simpa [List.map_map, Function.comp_def] using s, fun b hb => ?_, ?_, fun l hl => ?_⟩
        · obtain ⟨c, hc1, rfl⟩ := List.mem_map.mp hb
          exact (py_rep hr _ _ _ (hc c hc1) (e4 _ (List.mem_map.mpr ⟨c, hc1, rfl⟩))).1
        · rw [e3] at hs
          simpa [List.map_map, Function.comp_def] using hs
        · have s1 : sortD (cs.map (·.1)) = (cs.mergeSort (PySem.W.dataLe false fun c => pyd c.1)).map (·.1) := sort_fst (fun c : D × V => c.1) pyd cs
          have s2 : ((cs.map fun c => (c.2, pyd c.1)).mergeSort (PySem.W.dataLe false (·.2))).map (·.1) = (cs.mergeSort (PySem.W.dataLe false fun c => pyd c.1)).map (·.2) := by
            rw [sort_fst (fun c : D × V => (c.2, pyd c.1)) (·.2) cs, List.map_map]; rfl
          rw [s2]
          rw [s1] at q
          exact m K L G H _ _ l W σ Q hr (reps_pairs fun c hc' => hc c (List.mem_mergeSort.mp hc')) hl q
      · rw [if_neg hs] at q; exact q.elim
section
variable {X : Cx} {W : WX} {pos p : Pos} {e : Expr} {g : FA}
theorem xe_sorted {mk : List D → GH → R D} (m : Mk mk) (hu : X.A.units + 64 < cLine) (hm : X.mg "sorted" = none) (ha : xA X W [e] g) (hg : Gl X "sorted" := by rfl) (he : starEach [e] X.env = (false, eval e X.env) :: starEach [] X.env := by rfl) : xE X W (.Call (.Name "sorted" p) [e] [] pos) (eCB (one (dSorted mk)) g) :=
  xe_cb (cr_sortedDat hu) (cb_sorted m) hm (by decide +kernel) ha hg (by decide) (by decide) he rfl
end
end CF
end
section
set_option maxRecDepth 100000
set_option maxHeartbeats 1000000
/-! The end of a law; repr, str. -/
namespace CF
open PySem PySem.Spec PyProof.Rows L2

/-! ### the law's own call -/
section
variable {P : Program} {w : World} {K : PySem.W.Frag} {mg mb : Str → Option Value} {k : Nat} {fa a : Addr} {fd : FuncData} {x : Str} {s₁ : Shared} {vs : List Value} {ns : List Int} {F : List D → GH → R D}
/-- nothing is there but the script -/
theorem hr_only {H : Hp} {us : List V} (h : H a = none ∨ ∃ o, H a = some (.frz o (.lst us))) (rest : ∀ b, b ≠ a → H b = none) : HR K ⟨H, [], fun _ => none⟩ [] H where
  z := fun p o e => .inl e
  len := rfl
  cell := fun n a c e => by simp at e
  inj := fun n m a e => by simp at e
  dis := fun n a e => by simp at e
  fr := fun p o e => by cases e
  fd := fun n a e => by simp at e
  fz := fun p o e => by cases e
theorem reps_ints {Z : Hp} {r : List Addr} : ∀ ns : List Int, Reps K Z r (ns.map D.int) (ns.map V.int)
  | [] => .nil
  | n :: ns => .cons (.int n) (reps_ints ns)
/-- the promise of the law's def at the script, from the heap H in which only the script is told -/
theorem law_at {H : Hp} (KI : K.In s₁.heap) (nsM : s₁.heap.Ns mainGlobals mg) (nsB : s₁.heap.Ns builtinsNs mb) (mbB : ∀ y : Str, y ≠ "__name__" → mb y = bootBuiltins y) (NL : s₁.heap.NoLimit) (gn : s₁.gens = #[])
    (ha : s₁.heap.get? a = some { cls := .type "list", data := .seq vs.toArray }) (rv : Vals (ns.map V.int) vs) (room : Room k callerA)
    (Fn : ∀ base : Heap, K.In base → base.Ns mainGlobals mg → FnD P w K mg base k fa fd [x] F) (bnd : ∀ (s : Shared) (u : Value), BindsTo s fd ⟨[u], []⟩ [(x, u)])
    (hF : ∃ G', F [.scr (ns.map D.int)] [] = .ok (.bl true) G')
    (only : ∀ b, b ≠ a → H b = none) (atA : (H a = none ∧ ScrAt K H a (ns.map V.int)) ∨ ((∃ o, H a = some (.frz o (.lst (ns.map V.int)))) ∧ K.lookup a = none)) (ok : HOk P w H s₁.heap)
    (same : ∀ (H' : Hp) (h' : Heap), HOk P w H' h' → (∀ b o u, H b = some (.frz o u) → H' b = some (.frz o u)) → ∀ b o, H b ≠ none → s₁.heap.get? b = some o → h'.get? b = some o) :
    codeAny (model P w) callerA (.call (.ref fa) ⟨[.ref a], []⟩) (fun r s' => r = .ok (.ret (.bool true)) ∧ OldK s₁.heap s'.heap ∧ s'.os = s₁.os ∧ AllBare s'.gens) s₁ := by
  have hs : ScrAt K H a (ns.map V.int) := atA.elim (·.2) fun ⟨⟨o, e⟩, _⟩ => .inl ⟨o, e⟩
  have keepB : ∀ {b : Addr} {o : Obj}, s₁.heap.get? b = some o → H b = none → (hidT s₁.heap H).get? b = some o := fun e n => hidT_get e n
  have notA : ∀ {b : Addr} {o : Obj} {es : Array DictEntry} {ep : Nat}, s₁.heap.get? b = some o → o.data = .dict es ep → H b = none := fun {b o es ep} e d => by
    by_cases hb : b = a
    · subst hb
      rw [ha] at e
      cases e
      exact absurd (show Data.seq vs.toArray _ = Data.dict es ep from d) (by simp)
    · exact only b hb
  have nsH : ∀ {b : Addr} {m : Str → Option Value}, s₁.heap.Ns b m → (hidT s₁.heap H).Ns b m := fun ⟨o, es, ep, e, d, r⟩ => ⟨o, es, ep, keepB e (notA e d), d, r⟩
  have KB : K.In (hidT s₁.heap H) := fun b o e => keepB (KI b o e) (by
    by_cases hb : b = a
    · subst hb
      rcases atA with z | ⟨_, z⟩
      · exact z.1
      · rw [z] at e; cases e
    · exact only b hb)
  have M : Mod K mg (hidT s₁.heap H) := ⟨KB, nsH nsM, ⟨mb, nsH nsB, mbB⟩, let ⟨mc, z1, z2⟩ := NL; ⟨mc, nsH z1, z2⟩⟩
  have e0 : Env0 P w K mg (hidT s₁.heap H) callerA [] s₁ H := ⟨rfl, M, fun b o e => of_hidT e, Nat.le_of_eq (hidT_size _ _), trivial, (fun b z => by cases z), ok, .of_eq gn⟩
  obtain ⟨G', eF⟩ := hF
  refine codeAny_mono ((Fn _ KB (nsH nsM)).go callerA [] s₁ H ⟨[.ref a], []⟩ [.ref a] [.ref a] (fun v _ => v = .bl true) (fun _ _ _ => False) room rfl e0 (bnd s₁ (.ref a)) (.cons rfl .nil)
    ⟨rfl, ⟨H, [], fun _ => none⟩, [.scr (ns.map D.int)], [], hr_only (us := ns.map V.int) (atA.imp (·.1) (·.1)) only, .cons (.scr hs (reps_ints ns)) .nil, by
      rw [eF]
      intro L' H' v le hr rv
      have rv' : Rep K L'.Z L'.r (.bl true) v := rv
      cases rv'
      rfl⟩) fun r s' z => ?_
  match r, z with
  | .error e, z =>
    obtain ⟨_, _, _, _, _, _, _, _, _, _, _, _, z⟩ := z
    exact z.elim
  | .ok .next, z => exact False.elim z
  | .ok .brk, z => exact False.elim z
  | .ok .cont, z => exact False.elim z
  | .ok (.ret u), z =>
    obtain ⟨v, H', os, bare, un, ok', rl, q⟩ := z
    have q' : v = .bl true := q
    subst q'
    cases (show u = Value.bool true from rl)
    refine ⟨rfl, OldK.of_keep fun b o e => ?_, os, bare⟩
    by_cases n : H b = none
    · exact un.keep b o e n (by intro z; cases z) (by simp)
    · exact same H' s'.heap ok' (fun b o u z => un.frzs b o u z) b o n e
theorem law_runs (KI : K.In s₁.heap) (nsM : s₁.heap.Ns mainGlobals mg) (nsB : s₁.heap.Ns builtinsNs mb) (mbB : ∀ y : Str, y ≠ "__name__" → mb y = bootBuiltins y) (NL : s₁.heap.NoLimit) (gn : s₁.gens = #[])
    (ha : s₁.heap.get? a = some { cls := .type "list", data := .seq vs.toArray }) (hi : IntsAre vs ns) (hl : ns.length ≤ sizeLine) (room : Room k callerA)
    (Fn : ∀ base : Heap, K.In base → base.Ns mainGlobals mg → FnD P w K mg base k fa fd [x] F) (bnd : ∀ (s : Shared) (u : Value), BindsTo s fd ⟨[u], []⟩ [(x, u)])
    (hF : ∃ G', F [.scr (ns.map D.int)] [] = .ok (.bl true) G') :
    codeAny (model P w) callerA (.call (.ref fa) ⟨[.ref a], []⟩) (fun r s' => r = .ok (.ret (.bool true)) ∧ OldK s₁.heap s'.heap ∧ s'.os = s₁.os ∧ AllBare s'.gens) s₁ := by
  have rv := L2.vals_ints hi
  have ln := hi.length
  cases hk : K.lookup a with
  | some o =>
    have e := KI a o hk
    rw [ha] at e
    cases e
    exact law_at (H := fun _ => none) KI nsM nsB mbB NL gn ha rv room Fn bnd hF (fun _ _ => rfl) (.inl ⟨rfl, .inr ⟨_, vs.toArray, _, hk, rfl, rfl, rfl, by rw [List.size_toArray, ln]; exact hl, by simpa using rv⟩⟩)
      (fun b u z => by cases z) fun _ _ _ _ b o n => absurd rfl n
  | none =>
    have hA : ∀ {b : Addr} {u : HO}, (if b = a then some (HO.frz { cls := .type "list", data := .seq vs.toArray } (.lst (ns.map V.int))) else none) = some u → b = a ∧ u = HO.frz { cls := .type "list", data := .seq vs.toArray } (.lst (ns.map V.int)) := fun {b u} z => by
      by_cases hb : b = a
      · rw [if_pos hb] at z; cases z; exact ⟨hb, rfl⟩
      · rw [if_neg hb] at z; cases z
    refine law_at (H := fun b => if b = a then some (.frz { cls := .type "list", data := .seq vs.toArray } (.lst (ns.map V.int))) else none) KI nsM nsB mbB NL gn ha rv room Fn bnd hF (fun b hb => if_neg hb) (.inr ⟨⟨_, if_pos rfl⟩, hk⟩) (fun b u z => ?_) fun H' h' ok' kp b o n e => ?_
    · obtain ⟨rfl, rfl⟩ := hA z
      exact ⟨ha, by rw [List.length_map]; exact hl, vs, _, rv, ha⟩
    · by_cases hb : b = a
      · subst hb
        have z := kp b _ _ (if_pos rfl)
        obtain ⟨z1, _⟩ := ok' b _ z
        rw [ha] at e; cases e
        exact z1
      · exact absurd (if_neg hb) n
end
/-- THE END of a law: F gives the law's def's promise; hF: what it computes is True at every script -/
theorem law_end {l : PySem.W.OpenLaw} {n k : Nat} {q : Program} {loose : List Str} {XP : (Str → Option Value) → Heap → Prop} {YP : World → Heap → Prop} {d : DefRec} {K : Params → PySem.W.Frag} {F : World → List D → GH → R D} {x : Str}
    (hn : l.most = some n) (hn2 : n ≤ sizeLine) (hdf : d.params.defaults = []) (room : Room k callerA) (hY : ∀ (w : World) (h : Heap), YP w h → (K w.params).In h)
    (Fn : ∀ (w : World) (mg : Str → Option Value) (fa : Addr) (h : Heap), (K w.params).In h → h.Ns mainGlobals mg → mg d.name = some (.ref fa) →
      ∃ fd : FuncData, (∀ (s : Shared) (u : Value), BindsTo s fd ⟨[u], []⟩ [(x, u)]) ∧ ∀ base : Heap, (K w.params).In base → base.Ns mainGlobals mg → FnD l.prog w (K w.params) mg base k fa fd [x] (F w))
    (hF : ∀ (w : World) (ns : List Int), ns.length ≤ n → (∀ i ∈ ns, Builtin.Int.intBits i ≤ 1048576) → ∃ G', F w [.scr (ns.map D.int)] [] = .ok (.bl true) G') :
    PySem.W.WalkO q loose XP YP l.row.toRowW d [] (fun f vs => PySem.call f vs) := by
  refine Att.attach_callB hn hdf fun w s₀ s₁ mg mb fa o pm cd doc a vs ns G Y ho hd hcd hmg hobj hints hlen hbits hg => ?_
  obtain ⟨fd, b, f⟩ := Fn w mg fa _ (hY w _ Y) G.T.g hmg
  exact law_runs (hY w _ Y) G.T.g G.T.b G.T.builtins G.T.nolimit hg hobj hints (Nat.le_trans hlen hn2) room f b (hF w ns hlen hbits)
end CF
end
section
set_option maxRecDepth 100000
set_option maxHeartbeats 1000000
/-! repr, str. -/
namespace CF
open PySem PySem.Spec PyProof.Rows L2
def rRepr (K : PySem.W.Frag) : List V → Hp → VK → Prop := fun xs H Q => ∃ x d, xs = [x] ∧ Dp K H x d ∧ d.showable = true ∧ d.hasDict = false ∧ d.depth ≤ 60 ∧ d.shown.length ≤ sizeLine ∧ Q (.str d.shown) H
section
variable {X : Cx} {W : WX} {pos p : Pos} {e : Expr} {g : FA}
theorem cr_repr (hg : X.A.guards = some []) (hu : X.A.units + 64 < cLine) : CallR X (.builtin "repr") (rRepr X.K) := by
  intro pins s σ H xs us Q I r ⟨x, d, ex, hd, h1, h2, h3, h4, q⟩
  subst ex
  obtain ⟨u, eu, rx⟩ := vals1 r
  subst eu
  obtain ⟨as, rd⟩ := Dp.reads I d x u hd rx
  have fin : ∀ (z : Str) (k : Nat), z = d.shown → EP X pins σ Q (.str z s.toks) { s with toks := k } := fun z k e => ⟨.str z, H, I.tok _, ⟨_, rfl⟩, by rw [e]; exact q⟩
  have cont : ∀ a, u = .ref a → wpAny (model X.prog X.w) X.A (call (.builtin "repr") [u]) (EP X pins σ Q) X.xe s := fun a ea => by
    subst ea
    exact repr_of_reads' rd h1 (PyData.noDict_hsm h2) hg (by omega) (fun _ _ e => e) (fun h' u' tk hk => ⟨.str d.shown, H, I.kept hk, ⟨_, rfl⟩, q⟩) h4
  cases rd with
  | none => exact PySem.P.repr_of_none (fin _ _ (by rw [PyData.shown]))
  | bool b => exact PySem.P.repr_of_bool (fin _ _ (by rw [PyData.shown]))
  | int i t => exact PySem.P.repr_of_int (by simpa [PyData.showable] using h1) (fin _ _ (by rw [PyData.shown]))
  | str z t => exact PySem.P.repr_of_str (fin _ _ (by rw [PyData.shown])) (by rw [PyData.shown] at h4; exact h4)
  | list _ _ _ _ => exact cont _ rfl
  | tuple _ _ _ _ => exact cont _ rfl
  | dict _ _ _ _ _ => exact cont _ rfl
def dRepr : D → GH → R D := fun d G => match (res G d).py with
  | some q => if q.showable = true ∧ q.depth ≤ 60 ∧ q.shown.length ≤ sizeLine then .ok (.str q.shown) G else .no
  | none => .no
theorem cb_repr {K : PySem.W.Frag} : CbD K (one dRepr) (rRepr K) := cb_one fun L G H d v W σ Q hr rd q => by
  unfold dRepr at q
  cases e : (res G d).py with
  | none => rw [e] at q; exact q.elim
  | some x =>
    rw [e] at q
    dsimp only at q
    by_cases c : x.showable = true ∧ x.depth ≤ 60 ∧ x.shown.length ≤ sizeLine
    · rw [if_pos c] at q
      obtain ⟨a, b⟩ := res_rep hr rd e
      exact ⟨v, x, rfl, a, c.1, PyData.hasDict_of_canLay _ b, c.2.1, c.2.2, q L H _ (.refl L) hr (.str _)⟩
    · rw [if_neg c] at q; exact q.elim
theorem xe_repr (hgd : X.A.guards = some []) (hu : X.A.units + 64 < cLine) (hm : X.mg "repr" = none) (ha : xA X W [e] g) (hg : Gl X "repr" := by rfl) (he : starEach [e] X.env = (false, eval e X.env) :: starEach [] X.env := by rfl) : xE X W (.Call (.Name "repr" p) [e] [] pos) (eCB (one dRepr) g) :=
  xe_cb (cr_repr hgd hu) cb_repr hm PyProof.Rows.boot_repr ha hg (by decide) (by decide) he rfl
/-! str -/
def dStr : D → GH → R D := fun d G => match d with
  | .int i => if i.natAbs.log2 < 1920 then .ok (.str (toString i)) G else .no
  | .str x => .ok (.str x) G
  | _ => .no
theorem cb_str {K : PySem.W.Frag} : CbD K (one dStr) (fun xs H Q => (∃ i, xs = [.int i] ∧ i.natAbs.log2 < 1920 ∧ Q (.str (toString i)) H) ∨ ∃ a, xs = [.str a] ∧ Q (.str a) H) := cb_one fun L G H d v W σ Q hr rd q => by
  cases rd with
  | int i =>
    have q' : Sat K W L σ (repD K) (if i.natAbs.log2 < 1920 then .ok (.str (toString i)) G else .no) Q := q
    by_cases c : i.natAbs.log2 < 1920
    · rw [if_pos c] at q'
      exact .inl ⟨i, rfl, c, q' L H _ (.refl L) hr (.str _)⟩
    · rw [if_neg c] at q'; exact q'.elim
  | str x => exact .inr ⟨x, rfl, q L H _ (.refl L) hr (.str _)⟩
  | _ => exact q.elim
theorem xe_str1 (hm : X.mg "str" = none) (ha : xA X W [e] g) (hg : Gl X "str" := by rfl) (he : starEach [e] X.env = (false, eval e X.env) :: starEach [] X.env := by rfl) : xE X W (.Call (.Name "str" p) [e] [] pos) (eCB (one dStr) g) :=
  xe_cty (call_str_int.or SkE.call_str_str) cb_str hm (by decide +kernel) ha hg (by decide) (by decide) he rfl
/-! list -/
def dList (mk : List D → GH → R D) : D → GH → R D := fun d G => match d with
  | .tup xs => mk xs G
  | .pt xs => mk xs G
  | d => match lstOf G d with
    | some xs => mk xs G
    | none => .no
theorem cb_list {K : PySem.W.Frag} {mk : List D → GH → R D} (m : Mk mk) : CbD K (one (dList mk)) (fun xs H Q => ∃ p ys, xs = [.ref p] ∧ (SqL K H p ys ∨ SqT K H p ys) ∧ ∀ l, H l = none → Q (.ref l) (upd H l (.lst ys))) := cb_one fun L G H d v W σ Q hr rd q => by
  have gen : Sat K W L σ (repD K) (match lstOf G d with | some xs => mk xs G | none => .no) Q → ∃ p ys, [v] = [.ref p] ∧ (SqL K H p ys ∨ SqT K H p ys) ∧ ∀ l, H l = none → Q (.ref l) (upd H l (.lst ys)) := fun q => by
    cases e : lstOf G d with
    | none => rw [e] at q; exact q.elim
    | some xs =>
      rw [e] at q
      obtain ⟨p, vs, rfl, s, t⟩ := lst_rep hr rd e
      exact ⟨p, vs, rfl, .inl s, fun l hl => m K L G H _ _ l W σ Q hr t hl q⟩
  cases d with
  | tup xs =>
    obtain ⟨p, vs, rfl, s, t⟩ := tup_rep hr rd
    exact ⟨p, vs, rfl, .inr s, fun l hl => m K L G H _ _ l W σ Q hr t hl q⟩
  | pt xs =>
    obtain ⟨p, vs, rfl, s, t⟩ := tupOf_rep (ds := xs) hr rd rfl
    exact ⟨p, vs, rfl, .inr s, fun l hl => m K L G H _ _ l W σ Q hr t hl q⟩
  | _ => exact gen q
theorem xe_list1 {mk : List D → GH → R D} (m : Mk mk) (hm : X.mg "list" = none) (ha : xA X W [e] g) (hg : Gl X "list" := by rfl) (he : starEach [e] X.env = (false, eval e X.env) :: starEach [] X.env := by rfl) : xE X W (.Call (.Name "list" p) [e] [] pos) (eCB (one (dList mk)) g) :=
  xe_cty call_list_of (cb_list m) hm (by decide +kernel) ha hg (by decide) (by decide) he rfl
end

/-! sorted(d): the keys of a dict, texts -/
theorem each_strs : ∀ {us : List Value} {ks : List Str}, PyProof.Rows.StrsAre us ks → PySem.W.EachIs (fun u (k : Str) => ∃ t, u = .str k t) us ks
  | _, _, .nil => .nil
  | _, _, .cons x t h => .cons ⟨t, rfl⟩ (each_strs h)
theorem vals_eachS : ∀ {us : List Value} {ks : List Str}, PySem.W.EachIs (fun u (k : Str) => ∃ t, u = .str k t) us ks → Vals (ks.map V.str) us
  | _, _, .nil => .nil
  | _, _, .cons ⟨t, e⟩ h => by subst e; exact .cons ⟨t, rfl⟩ (vals_eachS h)
theorem strs_alike (ks : List Str) : PySem.W.AllAlike (ks.map PyData.str) := fun d h d' h' => by
  obtain ⟨k, _, rfl⟩ := List.mem_map.mp h
  obtain ⟨k', _, rfl⟩ := List.mem_map.mp h'
  simp [PySem.W.alike]
def rSortedKeys : List V → Hp → VK → Prop := fun xs H Q => ∃ (a : Addr) (kvs : List (Key × V)) (ks : List Str), xs = [.ref a] ∧ Rd H a (.dK kvs) ∧ kvs.map (·.1) = ks.map Sum.inr ∧
    ∀ p, H p = none → Q (.ref p) (upd H p (.lst ((ks.mergeSort (PySem.W.dataLe false PyData.str)).map V.str)))
theorem cr_sortedKeys {X : Cx} (hcalm : X.calm = true) (hu : X.A.units + 64 < cLine) : CallR X (.builtin "sorted") rSortedKeys := by
  intro pins s σ H xs us Q I r ⟨a, kvs, ks, ex, hd, hks, q⟩
  subst ex
  obtain ⟨u, eu, rx⟩ := vals1 r
  subst eu
  cases rx
  obtain ⟨z, lo, vs, rel, dd⟩ := dk_rd I.hok hd
  obtain ⟨ep, hat⟩ := dd.dictAt
  have hkeys : vs.map (·.1) = ks.map Sum.inr := rel.keys.symm.trans hks
  have hl : vs.length = ks.length := by simpa using congrArg List.length hkeys
  have hz : vs.length ≤ sizeLine := by rw [← rel.length]; exact z
  refine Calls.call_function_entry PyProof.Rows.kind_sorted PyProof.Rows.plain_sorted PyProof.Rows.entry_sorted (PyProof.Rows.args_sorted1 _) ?_
  unfold Builtin.«sorted»
  refine wpAny_bind (m := checkCount "sorted" 1 1 _) (wpAny_pure ?_)
  refine wpAny_bind (PySem.W.kdu_collect (A := X.A.in1) (PySem.W.kdl_dict (knd := mixKind X.prog X.w) (kvs := vs) (ep := ep) lo) (I.ok.hd hcalm) hat hz fun h' tk acc hk hacc => ?_)
  have al : acc.toList.length = ks.length := by rw [Array.length_toList, hacc.1, hl]
  have S := each_strs (strs_at al fun j v e => by
    obtain ⟨k, x, e1, e2⟩ := hacc.2 j v (by rw [← Array.getElem?_toList]; exact e)
    have e3 : (vs.map (·.1))[j]? = some k := by rw [List.getElem?_map, e1]; rfl
    rw [hkeys, List.getElem?_map] at e3
    cases e4 : ks[j]? with
    | none => rw [e4] at e3; cases e3
    | some y =>
      rw [e4] at e3
      cases e3
      obtain ⟨t, ev⟩ := Value.isStrOf_shape (x := y) (v := v) e2
      exact ⟨y, t, rfl, ev⟩)
  have I1 : Inv X pins σ H { s with heap := h', toks := tk } := I.kept hk
  refine wpAny_bind (wpAny_newList ?_ (by rw [al, ← hl]; exact hz))
  have hoL : (h'.push (seqObj "list" acc.toList.toArray 0)).get? h'.objs.size = some (seqObj "list" acc.toList.toArray 0) := Heap.get?_push_size _ rfl
  show wpAny _ _ _ _ _ { s with heap := h'.push (seqObj "list" acc.toList.toArray 0), toks := tk }
  have er : ∀ h : Heap, PySem.W.EachIs (fun v d => ∃ as, Reads h v d as) acc.toList (ks.map PyData.str) := fun h => PySem.W.each_map PyData.str (S.mono fun v k ⟨t, e⟩ => ⟨[], by rw [e]; exact Reads.str k t⟩)
  refine wpAny_bind (wpAny_holding (wpAny_call_entry PyProof.Rows.slot_list_sort ⟨_, hoL, rfl⟩ PyProof.Rows.entry_list_sort
    (PySem.W.list_sort_vals (s := { s with heap := h'.push (seqObj "list" acc.toList.toArray 0), toks := tk }) (κ := PySem.W.dataKind (PySem.W.sortingHeap (h'.push (seqObj "list" acc.toList.toArray 0)) h'.objs.size acc.toList) (ks.map PyData.str)) hoL
      (PySem.W.SortsAt.data (er _) (strs_alike ks) (.others fun k => ⟨by simp, by simp⟩) fun d hd => by
        obtain ⟨k, _, rfl⟩ := List.mem_map.mp hd
        simp only [PyData.depth]
        show X.A.units + 1 + 1 + 0 < cLine
        omega) (by rw [al, ← hl]; exact hz) ⟨_, rfl, ?_⟩)
    (PyProof.Rows.args_list_sort _)))
  have V2 : Vals ((ks.mergeSort (PySem.W.dataLe false PyData.str)).map V.str) (PySem.W.sortVals (PySem.W.dataKind (PySem.W.sortingHeap (h'.push (seqObj "list" acc.toList.toArray 0)) h'.objs.size acc.toList) (ks.map PyData.str)) false acc.toList acc.toList) :=
    vals_eachS (PySem.W.sortVals_data (enc := PyData.str) false S (S.mono fun v k ⟨t, e⟩ => ⟨[], by rw [e]; exact Reads.str k t⟩) (strs_alike ks))
  obtain ⟨e', he'⟩ := PyProof.Rows.sortedHeap_at (vs := acc.toList) (out := (PySem.W.sortVals (PySem.W.dataKind (PySem.W.sortingHeap (h'.push (seqObj "list" acc.toList.toArray 0)) h'.objs.size acc.toList) (ks.map PyData.str)) false acc.toList acc.toList).toArray) hoL
  have hlen : ((ks.mergeSort (PySem.W.dataLe false PyData.str)).map V.str).length ≤ sizeLine := by
    rw [List.length_map, List.length_mergeSort, ← hl]; exact hz
  refine wpAny_pure ⟨_, rfl, .ref h'.objs.size, upd H h'.objs.size (.lst ((ks.mergeSort (PySem.W.dataLe false PyData.str)).map V.str)), I1.laid (t' := tk) (fun b u e => ?_) (Nat.le_refl _)
    (show ObjOk X.prog X.w _ _ _ (.lst _) from ⟨hlen, _, e', V2, he'⟩), rfl, q _ (I1.hok.fresh (Nat.le_refl _))⟩
  have hb : b < h'.objs.size := Heap.lt_size e
  rw [PyProof.Rows.sortedHeap_old (Nat.ne_of_lt hb) (by rw [size_push']; exact Nat.lt_succ_of_lt hb)]
  exact Heap.get?_push_of_some _ e
open Classical in
/-- sorted(x) of a list or a dict of texts -/
noncomputable def dSorted2 (mk : List D → GH → R D) : D → GH → R D := fun d G => match dKOf G d with
  | some kds => (match (kds.mapM fun kd => match kd.1 with | .inr k => some k | .inl _ => none) with
    | some ks => mk ((ks.mergeSort (PySem.W.dataLe false PyData.str)).map D.str) G
    | none => .no)
  | none => dSorted mk d G
theorem inr_keys {α : Type} : ∀ {kds : List (Key × α)} {ks : List Str}, (kds.mapM fun kd => match kd.1 with | .inr k => some k | .inl _ => none) = some ks → kds.map (·.1) = ks.map Sum.inr
  | [], ks, e => by simp at e; subst e; rfl
  | (k, x) :: r, ks, e => by
    rw [List.mapM_cons] at e
    cases k with
    | inl i => simp at e
    | inr k =>
      cases e2 : (r.mapM fun kd => match kd.1 with | .inr k => some k | .inl _ => none) with
      | none => rw [e2] at e; simp at e
      | some ks2 =>
        rw [e2] at e
        simp at e
        subst e
        rw [List.map_cons, List.map_cons, inr_keys e2]
theorem reps_strs {K : PySem.W.Frag} {Z : Hp} {r : List Addr} : ∀ ks : List Str, Reps K Z r (ks.map D.str) (ks.map V.str)
  | [] => .nil
  | k :: ks => .cons (.str k) (reps_strs ks)
theorem cb_sorted2 {K : PySem.W.Frag} {mk : List D → GH → R D} (m : Mk mk) : CbD K (one (dSorted2 mk)) (fun xs H Q => rSortedDat K xs H Q ∨ rSortedKeys xs H Q) := cb_one fun L G H d v W σ Q hr rd q => by
  unfold dSorted2 at q
  cases e : dKOf G d with
  | none => rw [e] at q; exact .inl (cb_sorted m L G H [d] [v] W σ Q hr (.cons rd .nil) q)
  | some kds =>
    rw [e] at q
    dsimp only at q
    cases e2 : (kds.mapM fun kd => match kd.1 with | .inr k => some k | .inl _ => none) with
    | none => rw [e2] at q; exact q.elim
    | some ks =>
      rw [e2] at q
      obtain ⟨p, kvs, rfl, h, hk, t⟩ := dK_rep hr rd e
      exact .inr ⟨p, kvs, ks, rfl, h, hk.symm.trans (inr_keys e2), fun l hl => m K L G H _ _ l W σ Q hr (reps_strs _) hl q⟩
section
variable {X : Cx} {W : WX} {pos p : Pos} {e : Expr} {g : FA}
theorem xe_sorted2 {mk : List D → GH → R D} (m : Mk mk) (hc : X.calm = true) (hu : X.A.units + 64 < cLine) (hm : X.mg "sorted" = none) (ha : xA X W [e] g) (hg : Gl X "sorted" := by rfl) (he : starEach [e] X.env = (false, eval e X.env) :: starEach [] X.env := by rfl) : xE X W (.Call (.Name "sorted" p) [e] [] pos) (eCB (one (dSorted2 mk)) g) :=
  xe_cb ((cr_sortedDat hu).or (cr_sortedKeys hc hu)) (cb_sorted2 m) hm (by decide +kernel) ha hg (by decide) (by decide) he rfl
end
end CF
end
section
set_option maxRecDepth 100000
set_option maxHeartbeats 1000000
/-! dict(..) of a tuple of pairs. -/
namespace CF
open PySem PySem.Spec PyProof.Rows L2

def rDictP (K : PySem.W.Frag) : List V → Hp → VK → Prop := fun xs H Q => ∃ (a : Addr) (o : Obj) (ps : List Addr) (kvs : List (Key × V)), xs = [.ref a] ∧ H a = some (.frz o (.tup (ps.map V.ref))) ∧ o.dict = none ∧ Paired (fun p kv => SqT K H p [kV kv.1, kv.2]) ps kvs ∧
    ∀ p, H p = none → Q (.ref p) (upd H p (.dK (mergeK [] kvs)))
section
variable {X : Cx} {W : WX} {pos p : Pos} {e : Expr} {g : FA}
theorem call_dictT (hcalm : X.calm = true) : CallR X (.type "dict") (rDictP X.K) := by
  intro pins s σ H xs us Q I r ⟨a, o, ps, kvs, ex, hq, od, hp, q⟩
  subst ex
  obtain ⟨u, eu, rx⟩ := vals1 r
  subst eu
  cases rx
  obtain ⟨its, rv, tu, hz⟩ := I.tuple (xs := ps.map V.ref) (.inl (.inr ⟨o, hq⟩))
  have ei := refs_at rv
  subst ei
  rw [List.length_map] at hz
  obtain ⟨prs, rel, hl, hpr⟩ := pairs_of I hp
  have g := (I.hok a _ hq).1
  obtain ⟨o', ho', hc, n, hdat⟩ := tu
  rw [g] at ho'; cases ho'
  refine dict_of_tup (prs := prs) (I.ok.hd hcalm) g hc od hdat (by simp [hl]) (by rw [hl]; exact hz) (fun j q' e => ?_) fun h' tk hd' k => ?_
  · obtain ⟨b, u, e1, e2, e3⟩ := hpr j q' e
    exact ⟨b, u, by simp [e1], e2, e3⟩
  · have hm : (s.heap.objs.size == sysModules) = false := beq_eq_false_iff_ne.mpr (Nat.ne_of_gt I.big)
    have hlen : (mergeK [] kvs).length ≤ sizeLine := by
      refine Nat.le_trans (length_mergeK kvs []) ?_
      rw [List.length_nil, Nat.zero_add, rel.length, hl]
      exact hz
    exact ⟨.ref s.heap.objs.size, upd H s.heap.objs.size (.dK (mergeK [] kvs)), I.laid (t' := tk) k (Nat.le_refl _) (show ObjOk X.prog X.w _ _ _ (.dK (mergeK [] kvs)) from ⟨hlen, hm, merged [] prs, KV.merge rel .nil, hd'⟩), rfl, q _ (I.hok.fresh (Nat.le_refl _))⟩
end
end CF
end
section
set_option maxRecDepth 100000
set_option maxHeartbeats 1000000
/-! dicts by data; what is never run. -/
namespace CF
open PySem PySem.Spec PyProof.Rows L2
def putD {κ : Type} [DecidableEq κ] (kds : List (κ × D)) (k : κ) (d : D) : List (κ × D) := if (kds.any fun p => decide (p.1 = k)) = true then kds.map (fun p => if p.1 = k then (p.1, d) else p) else kds ++ [(k, d)]
def mergeD {κ : Type} [DecidableEq κ] (kds more : List (κ × D)) : List (κ × D) := more.foldl (fun acc p => putD acc p.1 p.2) kds
/-- a table of data stands for a table of values -/
inductive KR {κ : Type} (K : PySem.W.Frag) (Z : Hp) (r : List Addr) : List (κ × D) → List (κ × V) → Prop where
  | nil : KR K Z r [] []
  | cons {k d v ds vs} : Rep K Z r d v → KR K Z r ds vs → KR K Z r ((k, d) :: ds) ((k, v) :: vs)
section
variable {κ : Type} [DecidableEq κ] {K : PySem.W.Frag} {Z : Hp} {r : List Addr}
theorem KR.to {kds : List (κ × D)} {kvs : List (κ × V)} (h : KR K Z r kds kvs) : kds.map (·.1) = kvs.map (·.1) ∧ Reps K Z r (kds.map (·.2)) (kvs.map (·.2)) := by
  induction h with
  | nil => exact ⟨rfl, .nil⟩
  | cons x t ih => exact ⟨by simp [ih.1], .cons x ih.2⟩
theorem KR.of : ∀ {kds : List (κ × D)} {kvs : List (κ × V)}, kds.map (·.1) = kvs.map (·.1) → Reps K Z r (kds.map (·.2)) (kvs.map (·.2)) → KR K Z r kds kvs
  | [], [], _, _ => .nil
  | [], _ :: _, e, _ => by simp at e
  | _ :: _, [], e, _ => by simp at e
  | (k1, d1) :: r1, (k2, v2) :: r2, e, t => by
    simp only [List.map_cons, List.cons.injEq] at e
    obtain ⟨e1, e2⟩ := e
    subst e1
    cases t with
    | cons h t => exact .cons h (KR.of e2 t)
theorem KR.append {a b : List (κ × D)} {c d : List (κ × V)} (h : KR K Z r a c) (k : KR K Z r b d) : KR K Z r (a ++ b) (c ++ d) := by
  induction h with
  | nil => exact k
  | cons x t ih => exact .cons x ih
theorem KR.any {kds : List (κ × D)} {kvs : List (κ × V)} (h : KR K Z r kds kvs) (k : κ) : (kds.any fun p => decide (p.1 = k)) = kvs.any fun p => decide (p.1 = k) := by
  induction h with
  | nil => rfl
  | cons x t ih => rw [List.any_cons, List.any_cons, ih]
theorem KR.put {kds : List (κ × D)} {kvs : List (κ × V)} (h : KR K Z r kds kvs) (k : κ) {d : D} {v : V} (x : Rep K Z r d v) : KR K Z r (putD kds k d) (putK kvs k v) := by
  unfold putD putK
  rw [h.any k]
  by_cases c : (kvs.any fun p => decide (p.1 = k)) = true
  · rw [if_pos c, if_pos c]
    clear c
    induction h with
    | nil => exact .nil
    | @cons k1 d1 v1 ds vs y t ih =>
      rw [List.map_cons, List.map_cons]
      by_cases e : k1 = k
      · rw [if_pos e, if_pos e]; exact .cons x ih
      · rw [if_neg e, if_neg e]; exact .cons y ih
  · rw [if_neg c, if_neg c]
    exact h.append (.cons x .nil)
end
theorem KR.merge {K : PySem.W.Frag} {Z : Hp} {r : List Addr} {more : List (Key × D)} {mv : List (Key × V)} (m : KR K Z r more mv) : ∀ {kds : List (Key × D)} {kvs : List (Key × V)}, KR K Z r kds kvs → KR K Z r (mergeD kds more) (mergeK kvs mv) := by
  induction m with
  | nil => intro kds kvs h; exact h
  | cons x t ih => intro kds kvs h; exact ih (h.put _ x)
/-- the pairs (key, value) of a tuple -/
def pairD : D → Option (Key × D)
  | .tup [k, d] => (keyD k).map fun k => (k, d)
  | .pt [k, d] => (keyD k).map fun k => (k, d)
  | _ => none
def pairsD : List D → Option (List (Key × D))
  | [] => some []
  | x :: r => match pairD x, pairsD r with
    | some p, some ps => some (p :: ps)
    | _, _ => none
section
variable {K : PySem.W.Frag} {L : Lk} {G : GH} {H : Hp}
theorem pairD_rep (hr : HR K L G H) {x : D} {v : V} {k : Key} {d : D} (rx : Rep K L.Z L.r x v) (e : pairD x = some (k, d)) : ∃ p u, v = .ref p ∧ SqT K H p [kV k, u] ∧ Rep K L.Z L.r d u := by
  have go : ∀ ds, tupOf x = some ds → (∃ a, ds = [a, d] ∧ keyD a = some k) → ∃ p u, v = .ref p ∧ SqT K H p [kV k, u] ∧ Rep K L.Z L.r d u := fun ds e1 ⟨a, e2, e3⟩ => by
    subst e2
    obtain ⟨p, vs, rfl, s, t⟩ := tupOf_rep hr rx e1
    cases t with
    | cons ra t =>
      cases t with
      | cons rd t =>
        cases t
        rw [keyD_rep ra e3] at s
        exact ⟨p, _, rfl, s, rd⟩
  unfold pairD at e
  split at e
  · rename_i k0 d0
    cases q : keyD k0 with
    | none => rw [q] at e; cases e
    | some k' =>
      rw [q] at e
      cases e
      exact go _ rfl ⟨k0, rfl, q⟩
  · rename_i k0 d0
    cases q : keyD k0 with
    | none => rw [q] at e; cases e
    | some k' =>
      rw [q] at e
      cases e
      exact go _ rfl ⟨k0, rfl, q⟩
  · cases e
theorem pairsD_rep (hr : HR K L G H) : ∀ {xs : List D} {vs : List V} {kds : List (Key × D)}, Reps K L.Z L.r xs vs → pairsD xs = some kds → ∃ ps kvs, vs = ps.map V.ref ∧ Paired (fun p (kv : Key × V) => SqT K H p [kV kv.1, kv.2]) ps kvs ∧ KR K L.Z L.r kds kvs
  | [], _, kds, .nil, e => by
    cases e
    exact ⟨[], [], rfl, .nil, .nil⟩
  | x :: xs, _, kds, .cons rx t, e => by
    rw [pairsD] at e
    cases e1 : pairD x with
    | none => rw [e1] at e; cases e
    | some kd =>
      cases e2 : pairsD xs with
      | none => rw [e1, e2] at e; cases e
      | some rest =>
        rw [e1, e2] at e
        cases e
        obtain ⟨p, u, rfl, s, rd⟩ := pairD_rep hr rx e1
        obtain ⟨ps, kvs, rfl, pp, kk⟩ := pairsD_rep hr t e2
        exact ⟨p :: ps, (kd.1, u) :: kvs, rfl, .cons s pp, .cons rd kk⟩
/-- how a new dict is told -/
def MkK (mk : List (Key × D) → GH → R D) : Prop := ∀ (K : PySem.W.Frag) (L : Lk) (G : GH) (H : Hp) (ds : List (Key × D)) (vs : List (Key × V)) (p : Addr) (W : WX) (σ : St) (Q : VK), HR K L G H → KR K L.Z L.r ds vs → H p = none → Sat K W L σ (repD K) (mk ds G) Q → Q (.ref p) (upd H p (.dK vs))
def mkKF : List (Key × D) → GH → R D := fun ds G => .ok (.dK ds) G
def mkKM : List (Key × D) → GH → R D := fun ds G => .ok (.ref G.length) (G ++ [.dK ds])
theorem mkKF_ok : MkK mkKF := fun K L G H ds vs p W σ Q hr r hp q => by
  have le := Lk.le_put (o := HO.dK vs) (hr.zfree hp)
  exact q _ _ _ le (hr.put hp) (.dK (by show upd L.Z p _ p = _; exact upd_same) r.to.1 (r.to.2.mono le))
theorem mkKM_ok : MkK mkKM := fun K L G H ds vs p W σ Q hr r hp q => by
  have le : L.le (L.add p) := Lk.le_add
  exact q _ _ _ le (hr.add hp (.dK upd_same r.to.1 (r.to.2.mono le))) (.ref (by
    show (L.r ++ [p])[G.length]? = some p
    rw [← hr.len, List.getElem?_append_right (Nat.le_refl _), Nat.sub_self]; rfl))
/-- dict(x): of a dict, of a list or a tuple of pairs -/
def dDict (mk : List (Key × D) → GH → R D) : D → GH → R D := fun x G => match x with
  | .pt xs => (match pairsD xs with
    | some kds => mk (mergeD [] kds) G
    | none => .no)
  | x => match dKOf G x with
    | some kds => mk kds G
    | none => match (lstOf G x).bind pairsD with
      | some kds => mk (mergeD [] kds) G
      | none => .no
def rDictC (K : PySem.W.Frag) : List V → Hp → VK → Prop := fun xs H Q => (rDictP K xs H Q ∨ (∃ (a : Addr) (kvs : List (Key × V)), xs = [.ref a] ∧ Rd H a (.dK kvs) ∧ ∀ p, H p = none → Q (.ref p) (upd H p (.dK kvs)))) ∨
  ∃ (a : Addr) (ps : List Addr) (kvs : List (Key × V)), xs = [.ref a] ∧ SqL K H a (ps.map V.ref) ∧ Paired (fun p kv => SqT K H p [kV kv.1, kv.2]) ps kvs ∧ ∀ p, H p = none → Q (.ref p) (upd H p (.dK (mergeK [] kvs)))
theorem cb_dict {mk : List (Key × D) → GH → R D} (m : MkK mk) : CbD K (one (dDict mk)) (rDictC K) := cb_one fun L G H d v W σ Q hr rd q => by
  have gen : Sat K W L σ (repD K) (match dKOf G d with | some kds => mk kds G | none => match (lstOf G d).bind pairsD with | some kds => mk (mergeD [] kds) G | none => .no) Q → rDictC K [v] H Q := fun q => by
    cases e : dKOf G d with
    | some kds =>
      rw [e] at q
      obtain ⟨p, kvs, rfl, h, hk, t⟩ := dK_rep hr rd e
      exact .inl (.inr ⟨p, kvs, rfl, h, fun l hl => m K L G H _ _ l W σ Q hr (.of hk t) hl q⟩)
    | none =>
      rw [e] at q
      dsimp only at q
      cases e1 : lstOf G d with
      | none => rw [e1] at q; exact q.elim
      | some xs =>
        rw [e1, Option.bind_some] at q
        cases e2 : pairsD xs with
        | none => rw [e2] at q; exact q.elim
        | some kds =>
          rw [e2] at q
          obtain ⟨p, vs, rfl, s, t⟩ := lst_rep hr rd e1
          obtain ⟨ps, kvs, rfl, pp, kk⟩ := pairsD_rep hr t e2
          exact .inr ⟨p, ps, kvs, rfl, s, pp, fun l hl => m K L G H _ _ l W σ Q hr (kk.merge .nil) hl q⟩
  cases d with
  | pt xs =>
    have q' : Sat K W L σ (repD K) (match pairsD xs with | some kds => mk (mergeD [] kds) G | none => .no) Q := q
    cases e2 : pairsD xs with
    | none => rw [e2] at q'; exact q'.elim
    | some kds =>
      rw [e2] at q'
      have rd' : Rep K L.Z L.r (.pt xs) v := rd
      cases rd' with
      | @pt p o vs _ z k t =>
        obtain ⟨ps, kvs, rfl, pp, kk⟩ := pairsD_rep hr t e2
        exact .inl (.inl ⟨p, o, ps, kvs, rfl, (hr.z _ _ z).frz, k, pp, fun l hl => m K L G H _ _ l W σ Q hr (kk.merge .nil) hl q'⟩)
  | _ => exact gen q
end
section
variable {X : Cx} {W : WX} {pos p p2 q : Pos} {e : Expr} {g : FA} {f : FE}
theorem xe_dict1 {mk : List (Key × D) → GH → R D} (m : MkK mk) (hc : X.calm = true) (hm : X.mg "dict" = none) (ha : xA X W [e] g) (hg : Gl X "dict" := by rfl) (he : starEach [e] X.env = (false, eval e X.env) :: starEach [] X.env := by rfl) : xE X W (.Call (.Name "dict" p) [e] [] pos) (eCB (one (dDict mk)) g) :=
  xe_cty (((call_dictT hc).or call_dictD).or (call_dictP hc)) (cb_dict m) hm (by decide +kernel) ha hg (by decide) (by decide) he rfl
/-- what is never run -/
def sDead : FS := fun _ _ => .no
theorem xs_dead {st : Stmt} : xS X W st sDead := ⟨fun pins s σ H D I ⟨L, δ, G, hr, er, q⟩ => q.elim⟩
theorem xss_dead {st : List Stmt} : xSs X W st sDead := ⟨fun pins s σ H D I ⟨L, δ, G, hr, er, q⟩ => q.elim⟩
def eDead : FE := fun _ _ => .no
theorem xe_dead {e : Expr} : xE X W e eDead := ⟨fun pins s σ H D I ⟨L, δ, G, hr, er, q⟩ => q.elim⟩
end
end CF
end
section
set_option maxRecDepth 100000
set_option maxHeartbeats 1000000
/-! len(set(xs)) by data. -/
namespace CF
open PySem PySem.Spec PyProof.Rows L2
def strsOf : List D → Option (List Str)
  | [] => some []
  | .str x :: r => (strsOf r).map (x :: ·)
  | _ => none
@[simp] theorem strsOf_map (xs : List Str) : strsOf (xs.map D.str) = some xs := by induction xs with | nil => rfl | cons x r ih => simp [strsOf, ih]
theorem strs_rep {K : PySem.W.Frag} {Z : Hp} {r : List Addr} : ∀ {ds : List D} {vs : List V} {xs : List Str}, Reps K Z r ds vs → strsOf ds = some xs → vs = xs.map V.str
  | _, _, _, .nil, e => by cases e; rfl
  | d :: ds, _, xs, .cons h t, e => by
    cases h with
    | str x =>
      rw [strsOf] at e
      cases q : strsOf ds with
      | none => rw [q] at e; cases e
      | some ys => rw [q] at e; cases e; rw [strs_rep t q]; rfl
    | _ => simp [strsOf] at e
def eLenSet (f : FE) : FE := fun δ G => (f δ G).bind fun d G1 => match (lstOf G1 d).bind strsOf with
  | some xs => if xs.length < 4000 then .ok (.int (met xs).length) G1 else .no
  | none => .no
section
variable {X : Cx} {W : WX} {pos p p2 q : Pos} {a : Expr} {f : FE}
theorem xe_lenSet (hc : X.calm = true) (hm : X.mg "len" = none) (hm2 : X.mg "set" = none) (ha : xE X W a f) (hg : Gl X "len" := by rfl) (hg2 : Gl X "set" := by rfl) (na : starEach [a] X.env = (false, eval a X.env) :: starEach [] X.env := by rfl) :
    xE X W (.Call (.Name "len" p) [.Call (.Name "set" p2) [a] [] q] [] pos) (eLenSet f) := by
  refine ⟨fun pins s σ H Q I ⟨L, δ, G, hr, er, h⟩ => Call_ (ld_blt I hg hm boot_len (PyProof.Rows.callWith_builtin1 (PyProof.Rows.args_cons (Call_ (ld_blt I hg2 hm2 boot_set
    (PyProof.Rows.callWith_type1 (PyProof.Rows.args_cons (thn (ha.run pins s σ H (fun v H1 => ∃ (l : Addr) (xs : List Str), v = .ref l ∧ SqL X.K H1 l (xs.map V.str) ∧ xs.length < 4000 ∧ Q (.int (met xs).length) H1) I ?_)
      fun v s1 ⟨x, H1, I1, r1, q1⟩ => PyProof.Rows.args_nil ?_) na) na rfl))) rfl) rfl rfl))⟩
  · exact Sat.bind (rep' := repD X.K) hr er h fun L1 G1 H1 d v le hr1 er1 rd q1 => by
      cases e : lstOf G1 d with
      | none => rw [e] at q1; exact q1.elim
      | some ds =>
        rw [e, Option.bind_some] at q1
        cases e2 : strsOf ds with
        | none => rw [e2] at q1; exact q1.elim
        | some xs =>
          rw [e2] at q1
          dsimp only at q1
          by_cases hl : xs.length < 4000
          · rw [if_pos hl] at q1
            obtain ⟨p, vs, rfl, s, t⟩ := lst_rep hr1 rd e
            exact ⟨p, xs, rfl, by rw [← strs_rep t e2]; exact s, hl, q1 L1 H1 _ (.refl _) hr1 (.int _)⟩
          · rw [if_neg hl] at q1; exact q1.elim
  · obtain ⟨l, xs, rfl, hq, hl, q1⟩ := q1
    cases r1
    obtain ⟨its, r, pl, hz⟩ := I1.list hq
    have hlen : its.toArray.size = xs.length := by rw [List.size_toArray, ← r.length, List.length_map]
    refine set_of_strs (I1.ok.hd hc) pl.isList (by simpa using L2.strsAre_of r) (by rw [hlen]; unfold scanBound; omega) fun h' tk hS hk => PyProof.Rows.args_nil ?_
    obtain ⟨o, es, ep, t, ho, hex, hd, _, _, _, hf, hn⟩ := hS
    have I2 : Inv X pins σ H1 { s1 with heap := h', toks := tk } := I1.kept fun b o e => hk b o (Heap.lt_size e) e
    have hm : (met xs).length ≤ xs.length := by have := met_le xs xs.length; rwa [List.take_length] at this
    exact call_len_set ho hex hd hf (by rw [hn] <;> omega) ⟨.int (met xs).length, H1, I2.tok _, ⟨_, by rw [hn]⟩, q1⟩
end
end CF
end
section
set_option maxRecDepth 100000
set_option maxHeartbeats 1000000
/-! Calls of the text's own defs, in short. -/
namespace CF
open PySem PySem.Spec PyProof.Rows L2
/-- a def as its callers see it: dvs, the values of the parameters that they leave out -/
structure Tx (K : PySem.W.Frag) (mg : Str → Option Value) (x : Str) (ps : List Str) (dvs : List V) (f : Addr) (fd : FuncData) : Prop where
  g : mg x = some (.ref f)
  k : PySem.W.keepIn K (.ref f) = true
  b : ∃ ds, Vals dvs ds ∧ Binds K fd ps ds
theorem Tx.all {K : PySem.W.Frag} {mg : Str → Option Value} {x qual : Str} {st : Stmt} {ps : List Str} {f : Addr} {fd : FuncData} (F : Fun K x qual st f fd) (g : mg x = some (.ref f)) (b : Binds K fd ps []) : Tx K mg x ps [] f fd := ⟨g, F.kp, [], .nil, b⟩
theorem FnD.mono {P : Program} {w : World} {K : PySem.W.Frag} {mg : Str → Option Value} {base : Heap} {j k : Nat} {f : Addr} {fd : FuncData} {ps : List Str} {F : List D → GH → R D} (h : FnD P w K mg base j f fd ps F) (i : j ≤ k) : FnD P w K mg base k f fd ps F :=
  ⟨fun B up s H ar us vs Q E room gd e0 bnd rel pr => h.go B up s H ar us vs Q E (room.mono i) gd e0 bnd rel pr⟩
/-- no promise -/
def fNo : List D → GH → R D := fun _ _ => .no
theorem FnD.no {P : Program} {w : World} {K : PySem.W.Frag} {mg : Str → Option Value} {base : Heap} {k : Nat} {f : Addr} {fd : FuncData} {ps : List Str} : FnD P w K mg base k f fd ps fNo :=
  ⟨fun _ _ _ _ _ _ _ _ _ _ _ _ _ _ ⟨_, _, _, _, _, _, q⟩ => q.elim⟩
section
variable {P : Program} {w : World} {K : PySem.W.Frag} {mg : Str → Option Value} {base : Heap} {N : List Str} {qual : Str} {sc : Scope} {f : Addr} {cd : Value} {A : Around} {outer : List Env} {s : Shared} {H : Hp} {E : XK}
theorem tkB : Takes (cxOf (L2.CX P w) P w K mg base N qual sc f cd A outer s H E) (wE E) := takes_of rfl rfl rfl rfl
theorem psB : PassesOwn (model P w) (cxOf (L2.CX P w) P w K mg base N qual sc f cd A outer s H E).A (cxOf (L2.CX P w) P w K mg base N qual sc f cd A outer s H E).env (cxOf (L2.CX P w) P w K mg base N qual sc f cd A outer s H E).xe := passes_of rfl
end
section
variable {X : Cx} {W : WX} {pos p : Pos}
theorem xe_call {k : Nat} {f : Addr} {fd : FuncData} {ps : List Str} {F : List D → GH → R D} {dvs : List V} {dds : List D} {x : Str} {e : Expr} {es : List Expr} {g : FA} (tk : Takes X W) (hr : Room k X.A) (hgd : X.A.guards = some [])
    {n : Nat} (t : Tx X.K X.mg x ps dvs f fd) (Fn : FnD X.prog X.w X.K X.mg X.base k f fd ps F) (rd : ∀ L : Lk, Reps X.K L.Z L.r dds dvs) (hn : ps.length = n)
    (ha : xA X W (e :: es) g) (hg : Gl X x := by rfl) (hdb : (x == ("__debug__" : Str)) = false := by decide) (he : starEach (e :: es) X.env = (false, eval e X.env) :: starEach es X.env := by rfl) (hpl : (backTo pos (starEach es X.env)).any (·.1) = false := by rfl) :
    xE X W (.Call (.Name x p) (e :: es) [] pos) (eCall n F dds g) :=
  hn ▸ let ⟨ds, hd, hb⟩ := t.b
  xe_callD tk Fn hr hgd t.g t.k hb hd rd ha hg hdb he hpl
end
end CF
end
section
set_option maxRecDepth 100000
set_option maxHeartbeats 1000000
/-! Running the functions: rules for simp. -/
namespace CF
open PySem PySem.Spec PyProof.Rows L2
theorem R.bind_cg {α β : Type} {r r' : R α} {k : α → GH → R β} (h : r = r') : r.bind k = r'.bind k := by rw [h]
theorem R.thn_cg {α : Type} {r r' : R α} {δ : DEnv} {k : α → GH → RS} (h : r = r') : r.thn δ k = r'.thn δ k := by rw [h]
theorem RS.seq_cg {r r' : RS} {k : DEnv → GH → RS} (h : r = r') : r.seq k = r'.seq k := by rw [h]
section
variable (δ : DEnv) (G : GH)
@[simp] theorem ap_eC (d : D) : eC d δ G = .ok d G := rfl
@[simp] theorem ap_eVar (i : Nat) : eVar i δ G = match δ[i]? with | some (some d) => .ok d G | _ => .no := rfl
@[simp] theorem ap_aNil : aNil δ G = .ok [] G := rfl
@[simp] theorem ap_aCons (f : FE) (g : FA) : aCons f g δ G = (f δ G).bind fun d G1 => (g δ G1).bind fun ds G2 => .ok (d :: ds) G2 := rfl
@[simp] theorem ap_eTup (g : FA) : eTup g δ G = (g δ G).bind fun ds G1 => if ds.length ≤ sizeLine then .ok (.tup ds) G1 else .no := rfl
@[simp] theorem ap_eTupP (g : FA) : eTupP g δ G = (g δ G).bind fun ds G1 => if ds.length ≤ sizeLine then .ok (.pt ds) G1 else .no := rfl
@[simp] theorem ap_eLst (g : FA) : eLst g δ G = (g δ G).bind fun ds G1 => if ds.length ≤ sizeLine then .ok (.lst ds) G1 else .no := rfl
@[simp] theorem ap_eLstM (g : FA) : eLstM g δ G = (g δ G).bind fun ds G1 => if ds.length ≤ sizeLine then .ok (.ref G1.length) (G1 ++ [.lst ds]) else .no := rfl
@[simp] theorem ap_eOp (f : F2) (a b : FE) : eOp f a b δ G = (a δ G).bind fun x G1 => (b δ G1).bind fun y G2 => f x y G2 := rfl
@[simp] theorem ap_eChain (f f' : F2) (a b c : FE) : eChain f f' a b c δ G = (a δ G).bind fun x G1 => (b δ G1).bind fun y G2 => (f x y G2).bind fun k G3 => match k with
  | .bl true => (c δ G3).bind fun z G4 => f' y z G4
  | .bl false => .ok (.bl false) G3
  | _ => .no := rfl
@[simp] theorem ap_asB (f : FE) : asB f δ G = (f δ G).bind fun d G1 => match d with | .bl b => .ok b G1 | _ => .no := rfl
@[simp] theorem ap_tAnd (f g : FT) : tAndD f g δ G = (f δ G).bind fun k G1 => if k then g δ G1 else .ok false G1 := rfl
@[simp] theorem ap_tOr (f g : FT) : tOrD f g δ G = (f δ G).bind fun k G1 => if k then .ok true G1 else g δ G1 := rfl
@[simp] theorem ap_tNot (f : FT) : tNotD f δ G = (f δ G).bind fun k G1 => .ok (!k) G1 := rfl
@[simp] theorem ap_eTru (f : FE) : eTru f δ G = (f δ G).bind fun d G1 => match truD G1 d with | some b => .ok b G1 | none => .no := rfl
@[simp] theorem ap_eIf (t : FT) (f g : FE) : eIf t f g δ G = (t δ G).bind fun k G1 => if k then f δ G1 else g δ G1 := rfl
@[simp] theorem ap_sNext : sNext δ G = .nx δ G := rfl
@[simp] theorem ap_sSeq (f g : FS) : sSeq f g δ G = (f δ G).seq g := rfl
@[simp] theorem ap_sRet (f : FE) : sRet f δ G = (f δ G).thn δ fun d G1 => .rt d G1 := rfl
@[simp] theorem ap_sRetN : sRetN δ G = .rt .non G := rfl
@[simp] theorem ap_sIf (t : FT) (f g : FS) : sIf t f g δ G = (t δ G).thn δ fun k G1 => if k then f δ G1 else g δ G1 := rfl
@[simp] theorem ap_sSet (i : Nat) (f : FE) : sSet i f δ G = (f δ G).thn δ fun d G1 => .nx (δ.set i (some d)) G1 := rfl
@[simp] theorem ap_sDrop (f : FE) : sDrop f δ G = (f δ G).thn δ fun _ G1 => .nx δ G1 := rfl
@[simp] theorem ap_sBreak : sBreak δ G = .bk δ G := rfl
@[simp] theorem ap_sCont : sCont δ G = .ct δ G := rfl
@[simp] theorem ap_gNm (i : Nat) (d : D) : gNm i d δ G = .nx (δ.set i (some d)) G := rfl
@[simp] theorem ap_gsNil : gsNil [] δ G = .nx δ G := rfl
@[simp] theorem ap_gsCons (g : FG) (k : FGs) (d : D) (r : List D) : gsCons g k (d :: r) δ G = (g d δ G).seq (k r) := rfl
@[simp] theorem ap_gTp (n : Nat) (k : FGs) (ds : List D) : gTp n k (.tup ds) δ G = if ds.length = n then k ds δ G else .no := rfl
@[simp] theorem ap_sAsg (f : FE) (g : FG) : sAsg f g δ G = (f δ G).thn δ fun d G1 => match g d δ G1 with | .nx δ' G' => .nx δ' G' | _ => .no := rfl
@[simp] theorem ap_eOne (f : FE) (k : D → GH → R D) : eOne f k δ G = (f δ G).bind k := rfl
@[simp] theorem ap_eUn (f : D → GH → R D) (a : FE) : eUn f a δ G = (a δ G).bind f := rfl
@[simp] theorem ap_eCB (f : List D → GH → R D) (g : FA) : eCB f g δ G = (g δ G).bind f := rfl
@[simp] theorem ap_one (f : D → GH → R D) (d : D) : one f [d] G = f d G := rfl
@[simp] theorem ap_eCall (n : Nat) (F : List D → GH → R D) (dds : List D) (g : FA) : eCall n F dds g δ G = (g δ G).bind fun ds G1 => if (ds ++ dds).length = n then F (ds ++ dds) G1 else .no := rfl
@[simp] theorem ap_eAnd (f g : FE) : eAnd f g δ G = (f δ G).bind fun d G1 => match truD G1 d with | some true => g δ G1 | some false => .ok d G1 | none => .no := by
  unfold eAnd
  congr 1
@[simp] theorem ap_eOr (f g : FE) : eOr f g δ G = (f δ G).bind fun d G1 => match truD G1 d with | some true => .ok d G1 | some false => g δ G1 | none => .no := by
  unfold eOr
  congr 1
@[simp] theorem ap_eNot (t : FT) : eNot t δ G = (t δ G).bind fun k G1 => .ok (.bl (!k)) G1 := rfl
@[simp] theorem ap_iSeq (f : FE) : iSeq f δ G = (f δ G).bind fun x G1 => match itsD G1 x with | some it => .ok it G1 | none => .no := rfl
@[simp] theorem ap_eLc (mk : List D → GH → R D) (fi : FI) (g : FG) (t : FT) (f : FE) (vs : List Nat) : eLc mk fi g t f vs δ G = (fi δ G).bind fun it G1 => if it.chk G1 then (lcL it.chk g t f (wipeD δ vs) it.items [] G1).bind mk else .no := rfl
@[simp] theorem ap_sFor (fi : FI) (g : FG) (body : FS) : sFor fi g body δ G = (fi δ G).thn δ fun it G1 => if it.chk G1 then sForL it.chk g body it.items δ G1 else .no := rfl
@[simp] theorem ap_mkF (ds : List D) : mkF ds G = .ok (.lst ds) G := rfl
@[simp] theorem ap_mkM (ds : List D) : mkM ds G = .ok (.ref G.length) (G ++ [.lst ds]) := rfl
@[simp] theorem ap_tYes : tYesD δ G = .ok true G := rfl
@[simp] theorem wipeD_nil : wipeD δ [] = δ := rfl
@[simp] theorem wipeD_cons (v : Nat) (vs : List Nat) : wipeD δ (v :: vs) = (wipeD δ vs).set v none := rfl
@[simp] theorem truD_bl (b : Bool) : truD G (.bl b) = some b := rfl
@[simp] theorem truD_non : truD G .non = some false := rfl
@[simp] theorem truD_int (i : Int) : truD G (.int i) = some (i != 0) := rfl
@[simp] theorem dIB_ap (f : Int → Int → Bool) (i j : Int) : dIB f (.int i) (.int j) G = .ok (.bl (f i j)) G := rfl
@[simp] theorem dI_ap (c : Int → Int → Bool) (f : Int → Int → Int) (i j : Int) : dI c f (.int i) (.int j) G = if c i j then .ok (.int (f i j)) G else .no := rfl
@[simp] theorem dNeg_ap (i : Int) : dNeg (.int i) G = .ok (.int (-i)) G := rfl
@[simp] theorem dIsi_ap (T : String) (d : D) : dIsi T d G = match tyN G d with | some t => (match isiB t T with | some b => .ok (.bl b) G | none => .no) | none => .no := rfl
end
/-- a def's function at its arguments -/
theorem defF_ap (N : List Str) (fb : FS) (ds : List D) (G : GH) : defF N fb ds G = match fb (startD N ds) G with
  | .nx _ G' => .ok .non G'
  | .rt d G' => .ok d G'
  | .ex x _ G' => .ex x G'
  | _ => .no := rfl
section
variable (δ : DEnv) (G : GH)
theorem dIx_ref (n : Nat) (i : Int) {xs : List D} (h : G[n]? = some (.lst xs)) : dIx (.ref n) (.int i) G = match atI xs i with | some d => .ok d G | none => .no := by
  show (match lstOf G (.ref n) with | some xs => _ | none => _) = _
  rw [lstOf_ref, h] <;> rfl
@[simp] theorem dIx_tup (xs : List D) (i : Int) : dIx (.tup xs) (.int i) G = match atI xs i with | some d => .ok d G | none => .no := rfl
@[simp] theorem dIx_pt (xs : List D) (i : Int) : dIx (.pt xs) (.int i) G = match atI xs i with | some d => .ok d G | none => .no := rfl
@[simp] theorem dIx_lst (xs : List D) (i : Int) : dIx (.lst xs) (.int i) G = match atI xs i with | some d => .ok d G | none => .no := rfl
@[simp] theorem dIx_scr (xs : List D) (i : Int) : dIx (.scr xs) (.int i) G = match atI xs i with | some d => .ok d G | none => .no := rfl
@[simp] theorem atI_0 {α : Type} (x : α) (r : List α) : atI (x :: r) 0 = some x := by simp [atI, ixN]
@[simp] theorem atI_1 {α : Type} (x y : α) (r : List α) : atI (x :: y :: r) 1 = some y := by
  have h : (1 : Int) < ((x :: y :: r).length : Int) := by simp only [List.length_cons]; omega
  unfold atI ixN
  rw [if_pos (by decide), if_pos h]
  rfl
@[simp] theorem atI_2 {α : Type} (x y z : α) (r : List α) : atI (x :: y :: z :: r) 2 = some z := by
  have h : (2 : Int) < ((x :: y :: z :: r).length : Int) := by simp only [List.length_cons]; omega
  unfold atI ixN
  rw [if_pos (by decide), if_pos h]
  rfl
theorem atI_nat2 {α : Type} (xs : List α) (j : Nat) : atI xs (j : Int) = xs[j]? := by
  unfold atI ixN
  by_cases h : j < xs.length
  · have h2 : (j : Int) < (xs.length : Int) := by omega
    simp [h2]
  · have h2 : ¬ (j : Int) < (xs.length : Int) := by omega
    simp [h2, List.getElem?_eq_none (by omega : xs.length ≤ j)]
@[simp] theorem dAdd_int (mk : List D → GH → R D) (i j : Int) : dAdd mk (.int i) (.int j) G = .ok (.int (i + j)) G := rfl
@[simp] theorem dAdd_tup (mk : List D → GH → R D) (a b : List D) : dAdd mk (.tup a) (.tup b) G = if a.length + b.length ≤ sizeLine then .ok (.tup (a ++ b)) G else .no := rfl
@[simp] theorem dAdd_pt (mk : List D → GH → R D) (a b : List D) : dAdd mk (.pt a) (.pt b) G = if a.length + b.length ≤ sizeLine then .ok (.pt (a ++ b)) G else .no := rfl
@[simp] theorem dAdd_lst (mk : List D → GH → R D) (a b : List D) : dAdd mk (.lst a) (.lst b) G = if a.length + b.length ≤ sizeLine then mk (a ++ b) G else .no := rfl
@[simp] theorem dAdd_str (mk : List D → GH → R D) (a b : Str) : dAdd mk (.str a) (.str b) G = if a.length + b.length ≤ sizeLine then .ok (.str (a ++ b)) G else .no := rfl
@[simp] theorem dInt_int (i : Int) : dInt (.int i) G = .ok (.int i) G := rfl
@[simp] theorem dInt_bl (b : Bool) : dInt (.bl b) G = .ok (.int (if b then 1 else 0)) G := rfl
@[simp] theorem dStr_int (i : Int) : dStr (.int i) G = if i.natAbs.log2 < 1920 then .ok (.str (toString i)) G else .no := rfl
@[simp] theorem dStr_str (x : Str) : dStr (.str x) G = .ok (.str x) G := rfl
theorem ap_setI (fo fi f : FE) : sSetI fo fi f δ G = (f δ G).thn δ fun d G1 => (fo δ G1).thn δ fun o G2 => (fi δ G2).thn δ fun i G3 => match celL G3 o, i with
  | some (n, xs), .int z => (match ixN xs.length z with
    | some j => .nx δ (G3.set n (.lst (xs.set j d)))
    | none => .no)
  | _, _ => .no := rfl
theorem pyEq_int (i j : Int) : pyEq G (.int i) (.int j) = some (i == j) := by simp [pyEq, res, D.py, PyData.depth, PyData.eqv]
@[simp] theorem dEq_int (i j : Int) : dEq (.int i) (.int j) G = .ok (.bl (i == j)) G := by simp [dEq, pyEq_int]
@[simp] theorem dNe_int (i j : Int) : dNe (.int i) (.int j) G = .ok (.bl (!(i == j))) G := by simp [dNe, pyEq_int]
theorem pyEq_str {x y : Str} (hx : PyData.strOk x = true) (hy : PyData.strOk y = true) : pyEq G (.str x) (.str y) = some (x == y) := by simp [pyEq, res, D.py, hx, hy, PyData.depth, PyData.eqv]
theorem dEq_str {x y : Str} (hx : PyData.strOk x = true) (hy : PyData.strOk y = true) : dEq (.str x) (.str y) G = .ok (.bl (x == y)) G := by simp [dEq, pyEq_str G hx hy]
theorem dNe_str {x y : Str} (hx : PyData.strOk x = true) (hy : PyData.strOk y = true) : dNe (.str x) (.str y) G = .ok (.bl (!(x == y))) G := by simp [dNe, pyEq_str G hx hy]
@[simp] theorem dLen_lst (xs : List D) : dLen (.lst xs) G = .ok (.int xs.length) G := rfl
@[simp] theorem dLen_tup (xs : List D) : dLen (.tup xs) G = .ok (.int xs.length) G := rfl
@[simp] theorem dLen_pt (xs : List D) : dLen (.pt xs) G = .ok (.int xs.length) G := rfl
@[simp] theorem dLen_scr (xs : List D) : dLen (.scr xs) G = .ok (.int xs.length) G := rfl
theorem dLen_ref (n : Nat) {xs : List D} (h : G[n]? = some (.lst xs)) : dLen (.ref n) G = .ok (.int xs.length) G := by
  simp [dLen, lenO, h]
@[simp] theorem dIsN_non (x : D) : dIsN x .non G = .ok (.bl (isN x)) G := rfl
@[simp] theorem dNotN_non (x : D) : dNotN x .non G = .ok (.bl (!isN x)) G := rfl
end
@[simp] theorem ap_eMt (T : String) (f : FM) (o : FE) (g : FA) (δ : DEnv) (G : GH) : eMt T f o g δ G = (o δ G).bind fun d G1 => if tyM T G1 d then (g δ G1).bind fun ds G2 => f d ds G2 else .no := rfl
@[simp] theorem ap_eMt0 (T : String) (f : FM) (o : FE) (δ : DEnv) (G : GH) : eMt0 T f o δ G = (o δ G).bind fun d G1 => if tyM T G1 d then f d [] G1 else .no := rfl
theorem tyM_list {G : GH} {n : Nat} {xs : List D} (h : G[n]? = some (.lst xs)) : tyM "list" G (.ref n) = true := by simp [tyM, h]
theorem mPopAt_ap {G : GH} {n j : Nat} {xs : List D} {r : Int} (h : G[n]? = some (.lst xs)) (hr : r = (j : Int)) (hj : j < xs.length) (hl : xs.length < 1000000) : mPopAt (.ref n) [.int r] G = .ok xs[j] (G.set n (.lst (xs.eraseIdx j))) := by
  have e1 : ixN xs.length (j : Int) = some j := by
    unfold ixN
    rw [if_pos (by omega), if_pos (by omega)]
    simp
  have e2 : xs.length < 4611686018427387904 := by omega
  subst hr
  simp [mPopAt, h, e1, hj, e2]
theorem mAppend_ap {G : GH} {n : Nat} {xs : List D} {y : D} (h : G[n]? = some (.lst xs)) (hl : xs.length < sizeLine) : mAppend (.ref n) [y] G = .ok .non (G.set n (.lst (xs ++ [y]))) := by simp [mAppend, h, hl]
def rng1K : List D → GH → R Its := fun ds G1 => match ds with
  | [.int j] => if rngC j then .ok (rngIts 0 j.toNat) G1 else .no
  | _ => .no
@[simp] theorem ap_iRg1 (g : FA) (δ : DEnv) (G : GH) : iRg1 g δ G = (g δ G).bind rng1K := rfl
theorem rng1K_nat {n : Nat} {G : GH} (h : n < 1000000) : rng1K [.int n] G = .ok (rngIts 0 n) G := by
  have c := rngC_nat h
  simp [rng1K, c]
@[simp] theorem rngIts_items (lo : Int) (n : Nat) : (rngIts lo n).items = (List.range n).map fun i => .int (lo + (i : Nat)) := rfl
@[simp] theorem rngIts_chk (lo : Int) (n : Nat) : (rngIts lo n).chk = fun _ => true := rfl
/-- one more cell behind -/
theorem snoc_set {G : GH} {n : Nat} (h : n < G.length) (x c : Cell) : (G ++ [x]).set n c = G.set n c ++ [x] := by rw [List.set_append_left _ _ h]
theorem snoc_get {G : GH} {n : Nat} (h : n < G.length) (x : Cell) : (G ++ [x])[n]? = G[n]? := by rw [List.getElem?_append_left h]
theorem snoc_last (G : GH) (x : Cell) : (G ++ [x])[G.length]? = some x := by simp
theorem snoc_setl (G : GH) (x y : Cell) : (G ++ [x]).set G.length y = G ++ [y] := by rw [List.set_append_right _ _ (Nat.le_refl _)]; simp
theorem erase_map {α β : Type} (f : α → β) : ∀ (l : List α) (i : Nat), (l.map f).eraseIdx i = (l.eraseIdx i).map f
  | [], _ => rfl
  | _ :: _, 0 => rfl
  | x :: l, i + 1 => by
    rw [List.map_cons, List.eraseIdx_cons_succ, List.eraseIdx_cons_succ, List.map_cons, erase_map f l i]
theorem erase_perm {α : Type} : ∀ (l : List α) (i : Nat) (h : i < l.length), (l[i] :: l.eraseIdx i).Perm l
  | [], _, h => absurd h (Nat.not_lt_zero _)
  | x :: l, 0, _ => .refl _
  | x :: l, i + 1, h => by
    have h' : i < l.length := by simpa using h
    show (l[i] :: x :: l.eraseIdx i).Perm (x :: l)
    exact (List.Perm.swap _ _ _).trans ((erase_perm l i h').cons x)
/-- a comprehension whose turns change no cell -/
theorem lcL_map {g : FG} {f : FE} {δ : DEnv} {G : GH} (h : D → D) (δ' : D → DEnv) : ∀ {items acc : List D}, (∀ d ∈ items, g d δ G = .nx (δ' d) G) → (∀ d ∈ items, f (δ' d) G = .ok (h d) G) → acc.length + items.length ≤ sizeLine →
    lcL (fun _ => true) g tYesD f δ items acc G = .ok (acc ++ items.map h) G
  | [], acc, _, _, _ => by simp [lcL]
  | d :: items, acc, hg, hf, hl => by
    have l1 : acc.length < sizeLine := by rw [List.length_cons] at hl; omega
    have ih := lcL_map h δ' (items := items) (acc := acc ++ [h d]) (fun d hd => hg d (.tail _ hd)) (fun d hd => hf d (.tail _ hd)) (by rw [List.length_append, List.length_singleton]; rw [List.length_cons] at hl; omega)
    unfold lcL
    simp [hg d (.head _), hf d (.head _), l1, ih]
/-- .. with a test -/
theorem lcL_filt {g : FG} {t : FT} {f : FE} {δ : DEnv} {G : GH} (q : D → Bool) (h : D → D) (δ' : D → DEnv) : ∀ {items acc : List D}, (∀ d ∈ items, g d δ G = .nx (δ' d) G) → (∀ d ∈ items, t (δ' d) G = .ok (q d) G) → (∀ d ∈ items, q d = true → f (δ' d) G = .ok (h d) G) → acc.length + items.length ≤ sizeLine →
    lcL (fun _ => true) g t f δ items acc G = .ok (acc ++ (items.filter q).map h) G
  | [], acc, _, _, _, _ => by simp [lcL]
  | d :: items, acc, hg, ht, hf, hl => by
    rw [List.length_cons] at hl
    have l1 : acc.length < sizeLine := by omega
    unfold lcL
    cases e : q d with
    | true =>
      have ih := lcL_filt q h δ' (items := items) (acc := acc ++ [h d]) (fun d hd => hg d (.tail _ hd)) (fun d hd => ht d (.tail _ hd)) (fun d hd => hf d (.tail _ hd)) (by rw [List.length_append, List.length_singleton]; omega)
      simp [hg d (.head _), ht d (.head _), e, hf d (.head _) e, l1, ih]
    | false =>
      have ih := lcL_filt q h δ' (items := items) (acc := acc) (fun d hd => hg d (.tail _ hd)) (fun d hd => ht d (.tail _ hd)) (fun d hd => hf d (.tail _ hd)) (by omega)
      simp [hg d (.head _), ht d (.head _), e, ih]
@[simp] theorem itsD_chk_tup (G : GH) (xs : List D) : itsD G (.tup xs) = some ⟨xs, fun _ => true⟩ := rfl
@[simp] theorem lenO_str' (G : GH) (x : Str) : dLen (.str x) G = if x.length ≤ sizeLine then .ok (.int x.length) G else .no := by
  show (match (if x.length ≤ sizeLine then some x.length else none) with | some n => R.ok (D.int (n : Nat)) G | none => R.no) = _
  by_cases h : x.length ≤ sizeLine <;> simp [h]
@[simp] theorem dAll_lst (G : GH) (bs : List Bool) : dAll (.lst (bs.map D.bl)) G = .ok (.bl (bs.all id)) G := by simp [dAll]
theorem dAll_map {α : Type} (G : GH) (xs : List α) (f : α → Bool) : dAll (.lst (xs.map fun x => D.bl (f x))) G = .ok (.bl (xs.all f)) G := by
  have := dAll_lst G (xs.map f)
  rw [List.map_map] at this
  simpa [List.all_map, Function.comp_def] using this
@[simp] theorem dSum_ints (G : GH) (bs : List Int) : dSum (.lst (bs.map D.int)) G = .ok (.int bs.sum) G := by simp [dSum]
/-- local cells are frozen and dropped -/
theorem fzR_ok2 {G G' J : GH} {d d' : D} (hl : G'.length = G.length) (hk : ∀ (k : Nat) (c : Cell), k < G.length → G'[k]? = some c → G[k]? = some c ∨ closedC G.length c) (e : fzD (G' ++ J) G.length d = some d') : fzR G (.ok d (G' ++ J)) = .ok d' G' := by
  have kp : kept G (G' ++ J) := ⟨by simp [hl], fun k c h e1 => by
    rw [List.getElem?_append_left (by omega)] at e1
    exact hk k c h e1⟩
  unfold fzR
  dsimp only
  rw [if_pos kp, e]
  simp [← hl]
end CF
end
section
set_option maxRecDepth 100000
set_option maxHeartbeats 1000000
/-! What is wished of a result, step by step: `and_intros` runs the functions as far as it can (a word of our own for simp). -/
namespace CF
open PySem PySem.Spec PyProof.Rows L2
abbrev XP := Ex → GH → Prop
/-- the result is a value with Q, or an exception with E -/
structure Tag {α : Type} (Q : α → GH → Prop) (E : XP) : Type where
  mk ::
/-- (the tag keeps simp out of what follows) -/
def R.wp {α : Type} (r : R α) (Q : α → GH → Prop) (E : XP) (_t : Tag Q E := ⟨⟩) : Prop := match r with
  | .ok a G => Q a G
  | .ex x G => E x G
  | .no => False
abbrev noX : XP := fun _ _ => False
abbrev SP := DEnv → GH → Prop
structure TagS (nx : SP) (rt : D → GH → Prop) (bk ct : SP) (ex : Ex → DEnv → GH → Prop) : Type where
  mk ::
def RS.wp (r : RS) (nx : SP) (rt : D → GH → Prop) (bk ct : SP) (ex : Ex → DEnv → GH → Prop) (_t : TagS nx rt bk ct ex := ⟨⟩) : Prop := match r with
  | .nx δ G => nx δ G
  | .rt d G => rt d G
  | .bk δ G => bk δ G
  | .ct δ G => ct δ G
  | .ex x δ G => ex x δ G
  | .no => False
theorem R.wp_mono {α : Type} {r : R α} {Q Q' : α → GH → Prop} {E E' : XP} (h : r.wp Q E) (i : ∀ a G, Q a G → Q' a G) (j : ∀ x G, E x G → E' x G) : r.wp Q' E' := by
  cases r with
  | ok a G => exact i a G h
  | ex x G => exact j x G h
  | no => exact h
theorem RS.wp_mono {r : RS} {nx nx' : SP} {rt rt' : D → GH → Prop} {bk ct bk' ct' : SP} {ex ex' : Ex → DEnv → GH → Prop} (h : r.wp nx rt bk ct ex) (i1 : ∀ δ G, nx δ G → nx' δ G) (i2 : ∀ d G, rt d G → rt' d G) (i3 : ∀ δ G, bk δ G → bk' δ G) (i4 : ∀ δ G, ct δ G → ct' δ G) (i5 : ∀ x δ G, ex x δ G → ex' x δ G) : r.wp nx' rt' bk' ct' ex' := by
  cases r with
  | nx δ G => exact i1 δ G h
  | rt d G => exact i2 d G h
  | bk δ G => exact i3 δ G h
  | ct δ G => exact i4 δ G h
  | ex x δ G => exact i5 x δ G h
  | no => exact h
/-- a callee's promise is used -/
theorem R.use {α : Type} {r : R α} {Q Q' : α → GH → Prop} {E : XP} (h : r.wp Q noX) (i : ∀ a G, Q a G → Q' a G) : r.wp Q' E := R.wp_mono h i fun _ _ h => h.elim
theorem R.wp_ex_iff {α : Type} {r : R α} {Q : α → GH → Prop} : r.wp Q noX ↔ ∃ a G, r = .ok a G ∧ Q a G := by
  cases r with
  | ok a G => exact ⟨fun h => ⟨a, G, rfl, h⟩, fun ⟨_, _, e, h⟩ => by cases e; exact h⟩
  | ex x G => exact ⟨fun h => h.elim, fun ⟨_, _, e, _⟩ => by cases e⟩
  | no => exact ⟨fun h => h.elim, fun ⟨_, _, e, _⟩ => by cases e⟩
theorem R.wp_of {α : Type} {r : R α} {Q : α → GH → Prop} {E : XP} {a : α} {G : GH} (e : r = .ok a G) (h : Q a G) : r.wp Q E := by rw [e]; exact h
section
variable {α β : Type} {Q : β → GH → Prop} {E : XP} {nx : SP} {rt : D → GH → Prop} {bk ct : SP} {ex : Ex → DEnv → GH → Prop} (δ : DEnv) (G : GH)
theorem wp_ok (a : α) (Q : α → GH → Prop) : (R.ok a G).wp Q E = Q a G := rfl
theorem wp_ex (x : Ex) (Q : α → GH → Prop) : (R.ex x G : R α).wp Q E = E x G := rfl
theorem wp_no (Q : α → GH → Prop) : (R.no : R α).wp Q E = False := rfl
theorem wp_bind (r : R α) (k : α → GH → R β) : (r.bind k).wp Q E = r.wp (fun a G1 => (k a G1).wp Q E) E := by cases r <;> rfl
theorem wp_guard {c : Prop} [Decidable c] (r : R α) (Q : α → GH → Prop) : (if c then r else .no).wp Q E = (c ∧ r.wp Q E) := by
  by_cases h : c <;> simp [h, R.wp]
theorem wp_ite {c : Prop} [Decidable c] (r r' : R α) (Q : α → GH → Prop) : (if c then r else r').wp Q E = if c then r.wp Q E else r'.wp Q E := by
  by_cases h : c <;> simp [h]
theorem wp_nox (r : R α) (Q : α → GH → Prop) : r.nox.wp Q E = r.wp Q noX := by cases r <;> rfl
theorem sp_nx : (RS.nx δ G).wp nx rt bk ct ex = nx δ G := rfl
theorem sp_rt (d : D) : (RS.rt d G).wp nx rt bk ct ex = rt d G := rfl
theorem sp_bk : (RS.bk δ G).wp nx rt bk ct ex = bk δ G := rfl
theorem sp_ct : (RS.ct δ G).wp nx rt bk ct ex = ct δ G := rfl
theorem sp_ex (x : Ex) : (RS.ex x δ G).wp nx rt bk ct ex = ex x δ G := rfl
theorem sp_seq (r : RS) (k : DEnv → GH → RS) : (r.seq k).wp nx rt bk ct ex = r.wp (fun δ1 G1 => (k δ1 G1).wp nx rt bk ct ex) rt bk ct ex := by cases r <;> rfl
theorem sp_thn (r : R α) (k : α → GH → RS) : (r.thn δ k).wp nx rt bk ct ex = r.wp (fun a G1 => (k a G1).wp nx rt bk ct ex) (fun x G1 => ex x δ G1) := by cases r <;> rfl
theorem sp_guard {c : Prop} [Decidable c] (r : RS) : (if c then r else .no).wp nx rt bk ct ex = (c ∧ r.wp nx rt bk ct ex) := by
  by_cases h : c <;> simp [h, RS.wp]
theorem sp_ite {c : Prop} [Decidable c] (r r' : RS) : (if c then r else r').wp nx rt bk ct ex = if c then r.wp nx rt bk ct ex else r'.wp nx rt bk ct ex := by
  by_cases h : c <;> simp [h]
theorem wp_def (N : List Str) (fb : FS) (ds : List D) (Q : D → GH → Prop) : (defF N fb ds G).wp Q E = (fb (startD N ds) G).wp (fun _ G1 => Q .non G1) Q (fun _ _ => False) (fun _ _ => False) (fun x _ G1 => E x G1) := by
  rw [defF_ap]
  cases fb (startD N ds) G <;> rfl
end
section
variable {nx : SP} {rt : D → GH → Prop} {bk ct : SP} {ex : Ex → DEnv → GH → Prop} (δ : DEnv) (G : GH)
theorem w_sNext  : (sNext δ G).wp nx rt bk ct ex = (RS.nx δ G).wp nx rt bk ct ex := by rw [ap_sNext] <;> rfl
theorem w_sSeq (f g : FS) : (sSeq f g δ G).wp nx rt bk ct ex = ((f δ G).seq g).wp nx rt bk ct ex := by rw [ap_sSeq] <;> rfl
theorem w_sRet (f : FE) : (sRet f δ G).wp nx rt bk ct ex = ((f δ G).thn δ fun d G1 => .rt d G1).wp nx rt bk ct ex := by rw [ap_sRet] <;> rfl
theorem w_sRetN  : (sRetN δ G).wp nx rt bk ct ex = (RS.rt .non G).wp nx rt bk ct ex := by rw [ap_sRetN] <;> rfl
theorem w_sIf (t : FT) (f g : FS) : (sIf t f g δ G).wp nx rt bk ct ex = ((t δ G).thn δ fun k G1 => if k then f δ G1 else g δ G1).wp nx rt bk ct ex := by rw [ap_sIf] <;> rfl
theorem w_sSet (i : Nat) (f : FE) : (sSet i f δ G).wp nx rt bk ct ex = ((f δ G).thn δ fun d G1 => .nx (δ.set i (some d)) G1).wp nx rt bk ct ex := by rw [ap_sSet] <;> rfl
theorem w_sDrop (f : FE) : (sDrop f δ G).wp nx rt bk ct ex = ((f δ G).thn δ fun _ G1 => .nx δ G1).wp nx rt bk ct ex := by rw [ap_sDrop] <;> rfl
theorem w_sBreak  : (sBreak δ G).wp nx rt bk ct ex = (RS.bk δ G).wp nx rt bk ct ex := by rw [ap_sBreak] <;> rfl
theorem w_sCont  : (sCont δ G).wp nx rt bk ct ex = (RS.ct δ G).wp nx rt bk ct ex := by rw [ap_sCont] <;> rfl
theorem w_gNm (i : Nat) (d : D) : (gNm i d δ G).wp nx rt bk ct ex = (RS.nx (δ.set i (some d)) G).wp nx rt bk ct ex := by rw [ap_gNm] <;> rfl
theorem w_gsNil  : (gsNil [] δ G).wp nx rt bk ct ex = (RS.nx δ G).wp nx rt bk ct ex := by rw [ap_gsNil] <;> rfl
theorem w_gsCons (g : FG) (k : FGs) (d : D) (r : List D) : (gsCons g k (d :: r) δ G).wp nx rt bk ct ex = ((g d δ G).seq (k r)).wp nx rt bk ct ex := by rw [ap_gsCons] <;> rfl
theorem w_gTp (n : Nat) (k : FGs) (ds : List D) : (gTp n k (.tup ds) δ G).wp nx rt bk ct ex = (if ds.length = n then k ds δ G else RS.no).wp nx rt bk ct ex := by rw [ap_gTp] <;> rfl
theorem w_sAsg (f : FE) (g : FG) : (sAsg f g δ G).wp nx rt bk ct ex = (f δ G).wp (fun d G1 => (g d δ G1).wp nx (fun _ _ => False) (fun _ _ => False) (fun _ _ => False) (fun _ _ _ => False)) (fun x G1 => ex x δ G1) := by
  rw [ap_sAsg]
  cases f δ G with
  | ok d G1 => rw [R.thn_ok]; show _ = (g d δ G1).wp nx _ _ _ _; cases g d δ G1 <;> rfl
  | ex x G1 => rfl
  | no => rfl
theorem w_sFor (fi : FI) (g : FG) (body : FS) : (sFor fi g body δ G).wp nx rt bk ct ex = ((fi δ G).thn δ fun it G1 => if it.chk G1 then sForL it.chk g body it.items δ G1 else RS.no).wp nx rt bk ct ex := by rw [ap_sFor] <;> rfl
end
section
variable {E : XP} (δ : DEnv) (G : GH)
section
variable {Q : D → GH → Prop}
theorem w_eC (d : D) : (eC d δ G).wp Q E = (R.ok d G).wp Q E := by rw [ap_eC] <;> rfl
theorem w_eVar (i : Nat) : (eVar i δ G).wp Q E = (match δ[i]? with | some (some d) => R.ok d G | _ => R.no).wp Q E := by rw [ap_eVar] <;> rfl
theorem w_eTup (g : FA) : (eTup g δ G).wp Q E = ((g δ G).bind fun ds G1 => if ds.length ≤ sizeLine then .ok (.tup ds) G1 else .no).wp Q E := by rw [ap_eTup] <;> rfl
theorem w_eTupP (g : FA) : (eTupP g δ G).wp Q E = ((g δ G).bind fun ds G1 => if ds.length ≤ sizeLine then .ok (.pt ds) G1 else .no).wp Q E := by rw [ap_eTupP] <;> rfl
theorem w_eLst (g : FA) : (eLst g δ G).wp Q E = ((g δ G).bind fun ds G1 => if ds.length ≤ sizeLine then .ok (.lst ds) G1 else .no).wp Q E := by rw [ap_eLst] <;> rfl
theorem w_eLstM (g : FA) : (eLstM g δ G).wp Q E = ((g δ G).bind fun ds G1 => if ds.length ≤ sizeLine then .ok (.ref G1.length) (G1 ++ [.lst ds]) else .no).wp Q E := by rw [ap_eLstM] <;> rfl
theorem w_eOp (f : F2) (a b : FE) : (eOp f a b δ G).wp Q E = ((a δ G).bind fun x G1 => (b δ G1).bind fun y G2 => f x y G2).wp Q E := by rw [ap_eOp] <;> rfl
theorem w_eChain (f f' : F2) (a b c : FE) : (eChain f f' a b c δ G).wp Q E = ((a δ G).bind fun x G1 => (b δ G1).bind fun y G2 => (f x y G2).bind fun k G3 => match k with
  | .bl true => (c δ G3).bind fun z G4 => f' y z G4
  | .bl false => .ok (.bl false) G3
  | _ => .no).wp Q E := by rw [ap_eChain] <;> rfl
theorem w_eIf (t : FT) (f g : FE) : (eIf t f g δ G).wp Q E = ((t δ G).bind fun k G1 => if k then f δ G1 else g δ G1).wp Q E := by rw [ap_eIf] <;> rfl
theorem w_eOne (f : FE) (k : D → GH → R D) : (eOne f k δ G).wp Q E = ((f δ G).bind k).wp Q E := by rw [ap_eOne] <;> rfl
theorem w_eUn (f : D → GH → R D) (a : FE) : (eUn f a δ G).wp Q E = ((a δ G).bind f).wp Q E := by rw [ap_eUn] <;> rfl
theorem w_eCB (f : List D → GH → R D) (g : FA) : (eCB f g δ G).wp Q E = ((g δ G).bind f).wp Q E := by rw [ap_eCB] <;> rfl
theorem w_one (f : D → GH → R D) (d : D) : (one f [d] G).wp Q E = (f d G).wp Q E := by rw [ap_one] <;> rfl
theorem w_eCall (n : Nat) (F : List D → GH → R D) (dds : List D) (g : FA) : (eCall n F dds g δ G).wp Q E = ((g δ G).bind fun ds G1 => if (ds ++ dds).length = n then F (ds ++ dds) G1 else .no).wp Q E := by rw [ap_eCall] <;> rfl
theorem w_eAnd (f g : FE) : (eAnd f g δ G).wp Q E = ((f δ G).bind fun d G1 => match truD G1 d with | some true => g δ G1 | some false => .ok d G1 | none => .no).wp Q E := by rw [ap_eAnd] <;> rfl
theorem w_eOr (f g : FE) : (eOr f g δ G).wp Q E = ((f δ G).bind fun d G1 => match truD G1 d with | some true => .ok d G1 | some false => g δ G1 | none => .no).wp Q E := by rw [ap_eOr] <;> rfl
theorem w_eNot (t : FT) : (eNot t δ G).wp Q E = ((t δ G).bind fun k G1 => .ok (.bl (!k)) G1).wp Q E := by rw [ap_eNot] <;> rfl
theorem w_eLc (mk : List D → GH → R D) (fi : FI) (g : FG) (t : FT) (f : FE) (vs : List Nat) : (eLc mk fi g t f vs δ G).wp Q E = ((fi δ G).bind fun it G1 => if it.chk G1 then (lcL it.chk g t f (wipeD δ vs) it.items [] G1).bind mk else .no).wp Q E := by rw [ap_eLc] <;> rfl
theorem w_mkF (ds : List D) : (mkF ds G).wp Q E = (R.ok (.lst ds) G).wp Q E := by rw [ap_mkF] <;> rfl
theorem w_mkM (ds : List D) : (mkM ds G).wp Q E = (R.ok (.ref G.length) (G ++ [.lst ds])).wp Q E := by rw [ap_mkM] <;> rfl
theorem w_eMt (T : String) (f : FM) (o : FE) (g : FA) : (eMt T f o g δ G).wp Q E = ((o δ G).bind fun d G1 => if tyM T G1 d then (g δ G1).bind fun ds G2 => f d ds G2 else .no).wp Q E := by rw [ap_eMt] <;> rfl
theorem w_eMt0 (T : String) (f : FM) (o : FE) : (eMt0 T f o δ G).wp Q E = ((o δ G).bind fun d G1 => if tyM T G1 d then f d [] G1 else .no).wp Q E := by rw [ap_eMt0] <;> rfl
end
section
variable {Q : Bool → GH → Prop}
theorem w_asB (f : FE) : (asB f δ G).wp Q E = ((f δ G).bind fun d G1 => match d with | .bl b => .ok b G1 | _ => .no).wp Q E := by rw [ap_asB] <;> rfl
theorem w_tAnd (f g : FT) : (tAndD f g δ G).wp Q E = ((f δ G).bind fun k G1 => if k then g δ G1 else .ok false G1).wp Q E := by rw [ap_tAnd] <;> rfl
theorem w_tOr (f g : FT) : (tOrD f g δ G).wp Q E = ((f δ G).bind fun k G1 => if k then .ok true G1 else g δ G1).wp Q E := by rw [ap_tOr] <;> rfl
theorem w_tNot (f : FT) : (tNotD f δ G).wp Q E = ((f δ G).bind fun k G1 => .ok (!k) G1).wp Q E := by rw [ap_tNot] <;> rfl
theorem w_eTru (f : FE) : (eTru f δ G).wp Q E = ((f δ G).bind fun d G1 => match truD G1 d with | some b => .ok b G1 | none => .no).wp Q E := by rw [ap_eTru] <;> rfl
theorem w_tYes  : (tYesD δ G).wp Q E = (R.ok true G).wp Q E := by rw [ap_tYes] <;> rfl
end
section
variable {Q : List D → GH → Prop}
theorem w_aNil  : (aNil δ G).wp Q E = (R.ok ([] : List D) G).wp Q E := by rw [ap_aNil] <;> rfl
theorem w_aCons (f : FE) (g : FA) : (aCons f g δ G).wp Q E = ((f δ G).bind fun d G1 => (g δ G1).bind fun ds G2 => .ok (d :: ds) G2).wp Q E := by rw [ap_aCons] <;> rfl
end
section
variable {Q : Its → GH → Prop}
theorem w_iSeq (f : FE) : (iSeq f δ G).wp Q E = ((f δ G).bind fun x G1 => match itsD G1 x with | some it => .ok it G1 | none => .no).wp Q E := by rw [ap_iSeq] <;> rfl
theorem w_iRg1 (g : FA) : (iRg1 g δ G).wp Q E = ((g δ G).bind rng1K).wp Q E := by rw [ap_iRg1] <;> rfl
end
theorem sz_le {n : Nat} (h : n ≤ 100000) : (n ≤ sizeLine) = True := eq_true (Nat.le_trans h (by decide))
theorem sz_lt {n : Nat} (h : n < 100000) : (n < sizeLine) = True := eq_true (Nat.lt_of_lt_of_le h (by decide))
theorem nilL (P : Prop) : (P ∧ True ∧ True ∧ True) = P := by simp
end
section
variable {E : XP} {nx : SP} {rt : D → GH → Prop} {bk ct : SP} {ex : Ex → DEnv → GH → Prop} {chk : GH → Bool} {g : FG} {t : FT} {f : FE} {body : FS} {δ : DEnv} {G : GH}
abbrev fS : SP := fun _ _ => False
abbrev fX : Ex → DEnv → GH → Prop := fun _ _ _ => False
abbrev fR : D → GH → Prop := fun _ _ => False
/-- a loop by what holds behind the items done -/
theorem for_inv {α : Type} (enc : α → D) (xs : List α) (Inv : List α → DEnv → GH → Prop) (h0 : Inv [] δ G)
    (step : ∀ (pre : List α) (x : α) (post : List α) (δ : DEnv) (G : GH), xs = pre ++ x :: post → Inv pre δ G →
      (g (enc x) δ G).wp (fun δ1 G1 => (body δ1 G1).wp (fun δ2 G2 => chk G2 = true ∧ Inv (pre ++ [x]) δ2 G2) rt nx (fun δ2 G2 => chk G2 = true ∧ Inv (pre ++ [x]) δ2 G2) ex) fR fS fS fX)
    (fin : ∀ δ G, Inv xs δ G → nx δ G) : (sForL chk g body (xs.map enc) δ G).wp nx rt bk ct ex := by
  have key : ∀ (post pre : List α) (δ : DEnv) (G : GH), xs = pre ++ post → Inv pre δ G → (sForL chk g body (post.map enc) δ G).wp nx rt bk ct ex := by
    intro post
    induction post with
    | nil =>
      intro pre δ G e h
      rw [List.append_nil] at e
      subst e
      exact fin δ G h
    | cons x post ih =>
      intro pre δ G e h
      have s := step pre x post δ G e h
      rw [List.map_cons]
      unfold sForL
      cases e1 : g (enc x) δ G with
      | nx δ1 G1 =>
        rw [e1] at s
        have s1 : (body δ1 G1).wp (fun δ2 G2 => chk G2 = true ∧ Inv (pre ++ [x]) δ2 G2) rt nx (fun δ2 G2 => chk G2 = true ∧ Inv (pre ++ [x]) δ2 G2) ex := s
        dsimp only
        cases e2 : body δ1 G1 with
        | nx δ2 G2 => rw [e2] at s1; obtain ⟨c, i⟩ := s1; dsimp only; rw [if_pos c]; exact ih (pre ++ [x]) δ2 G2 (by rw [e]; simp) i
        | ct δ2 G2 => rw [e2] at s1; obtain ⟨c, i⟩ := s1; dsimp only; rw [if_pos c]; exact ih (pre ++ [x]) δ2 G2 (by rw [e]; simp) i
        | bk δ2 G2 => rw [e2] at s1; exact s1
        | rt d G2 => rw [e2] at s1; exact s1
        | ex x δ2 G2 => rw [e2] at s1; exact s1
        | no => rw [e2] at s1; exact s1
      | rt d G => rw [e1] at s; exact s.elim
      | bk δ1 G => rw [e1] at s; exact s.elim
      | ct δ1 G => rw [e1] at s; exact s.elim
      | ex x δ1 G => rw [e1] at s; exact s.elim
      | no => rw [e1] at s; exact s.elim
  exact key xs [] δ G rfl h0
/-- a comprehension by what holds behind the items done -/
theorem lc_inv {α : Type} {Q : List D → GH → Prop} (enc : α → D) (xs : List α) (Inv : List α → List D → GH → Prop) (h0 : Inv [] [] G) (hl : xs.length ≤ sizeLine)
    (step : ∀ (pre : List α) (x : α) (post : List α) (acc : List D) (G : GH), xs = pre ++ x :: post → Inv pre acc G →
      (g (enc x) δ G).wp (fun δ1 G1 => (t δ1 G1).wp (fun b G2 => if b = true then (f δ1 G2).wp (fun y G3 => chk G3 = true ∧ Inv (pre ++ [x]) (acc ++ [y]) G3) noX else chk G2 = true ∧ Inv (pre ++ [x]) acc G2) noX) fR fS fS fX)
    (fin : ∀ acc G, Inv xs acc G → Q acc G) : (lcL chk g t f δ (xs.map enc) [] G).wp Q E := by
  have key : ∀ (post pre : List α) (acc : List D) (G : GH), xs = pre ++ post → acc.length ≤ pre.length → Inv pre acc G → (lcL chk g t f δ (post.map enc) acc G).wp Q E := by
    intro post
    induction post with
    | nil =>
      intro pre acc G e _ h
      rw [List.append_nil] at e
      subst e
      exact fin acc G h
    | cons x post ih =>
      intro pre acc G e ha h
      have s := step pre x post acc G e h
      have lp : pre.length + (post.length + 1) ≤ sizeLine := by rw [e] at hl; simpa using hl
      rw [List.map_cons]
      unfold lcL
      cases e1 : g (enc x) δ G with
      | nx δ1 G1 =>
        rw [e1] at s
        have s1 : (t δ1 G1).wp (fun b G2 => if b = true then (f δ1 G2).wp (fun y G3 => chk G3 = true ∧ Inv (pre ++ [x]) (acc ++ [y]) G3) noX else chk G2 = true ∧ Inv (pre ++ [x]) acc G2) noX := s
        dsimp only
        rw [wp_bind, wp_nox]
        refine R.wp_mono s1 (fun b G2 s2 => ?_) (fun _ _ z => z)
        cases b with
        | true =>
          rw [if_pos rfl] at s2
          rw [if_pos rfl, wp_bind, wp_nox]
          refine R.wp_mono s2 (fun y G3 s3 => ?_) (fun _ _ z => z)
          obtain ⟨c, i⟩ := s3
          have la : acc.length < sizeLine := by omega
          rw [if_pos (by rw [c]; simpa using la)]
          exact ih (pre ++ [x]) (acc ++ [y]) G3 (by rw [e]; simp) (by simp; exact ha) i
        | false =>
          rw [if_neg Bool.false_ne_true] at s2
          obtain ⟨c, i⟩ := s2
          rw [if_neg Bool.false_ne_true, if_pos c]
          exact ih (pre ++ [x]) acc G2 (by rw [e]; simp) (by simp; omega) i
      | rt d G => rw [e1] at s; exact s.elim
      | bk δ1 G => rw [e1] at s; exact s.elim
      | ct δ1 G => rw [e1] at s; exact s.elim
      | ex x δ1 G => rw [e1] at s; exact s.elim
      | no => rw [e1] at s; exact s.elim
  exact key xs [] [] G rfl (Nat.le_refl _) h0
/-- .. that changes no cell: a filter and a map -/
theorem lc_pure {α : Type} {Q : List D → GH → Prop} (enc : α → D) (xs : List α) (q : α → Bool) (h : α → D) (hl : xs.length ≤ sizeLine) (hc : chk G = true)
    (step : ∀ x ∈ xs, (g (enc x) δ G).wp (fun δ1 G1 => (t δ1 G1).wp (fun b G2 => b = q x ∧ G2 = G ∧ (q x = true → (f δ1 G).wp (fun y G3 => y = h x ∧ G3 = G) noX)) noX) fR fS fS fX)
    (fin : Q ((xs.filter q).map h) G) : (lcL chk g t f δ (xs.map enc) [] G).wp Q E := by
  refine lc_inv enc xs (fun pre acc G' => G' = G ∧ acc = (pre.filter q).map h) ⟨rfl, rfl⟩ hl (fun pre x post acc G' e ⟨i1, i2⟩ => ?_) fun acc G' ⟨i1, i2⟩ => by rw [i1, i2]; exact fin
  subst i1 i2
  have s := step x (by rw [e]; simp)
  cases e1 : g (enc x) δ G' with
  | nx δ1 G1 =>
    rw [e1] at s
    have s1 : (t δ1 G1).wp (fun b G2 => b = q x ∧ G2 = G' ∧ (q x = true → (f δ1 G').wp (fun y G3 => y = h x ∧ G3 = G') noX)) noX := s
    refine R.wp_mono s1 (fun b G2 ⟨a1, a2, a3⟩ => ?_) fun _ _ z => z
    subst a1 a2
    cases hq : q x with
    | true =>
      rw [if_pos rfl]
      refine R.wp_mono (a3 hq) (fun y G3 ⟨b1, b2⟩ => ?_) fun _ _ z => z
      subst b1 b2
      exact ⟨hc, rfl, by simp [List.filter_append, hq]⟩
    | false =>
      rw [if_neg Bool.false_ne_true]
      exact ⟨hc, rfl, by simp [List.filter_append, hq]⟩
  | rt d G => rw [e1] at s; exact s.elim
  | bk δ1 G => rw [e1] at s; exact s.elim
  | ct δ1 G => rw [e1] at s; exact s.elim
  | ex x δ1 G => rw [e1] at s; exact s.elim
  | no => rw [e1] at s; exact s.elim
end
theorem isi_NoneType_int : isiB "NoneType" "int" = some false := by decide +kernel
theorem isi_NoneType_str : isiB "NoneType" "str" = some false := by decide +kernel
theorem isi_NoneType_bool : isiB "NoneType" "bool" = some false := by decide +kernel
theorem isi_NoneType_tuple : isiB "NoneType" "tuple" = some false := by decide +kernel
theorem isi_NoneType_list : isiB "NoneType" "list" = some false := by decide +kernel
theorem isi_NoneType_dict : isiB "NoneType" "dict" = some false := by decide +kernel
theorem isi_bool_int : isiB "bool" "int" = some true := by decide +kernel
theorem isi_bool_str : isiB "bool" "str" = some false := by decide +kernel
theorem isi_bool_bool : isiB "bool" "bool" = some true := by decide +kernel
theorem isi_bool_tuple : isiB "bool" "tuple" = some false := by decide +kernel
theorem isi_bool_list : isiB "bool" "list" = some false := by decide +kernel
theorem isi_bool_dict : isiB "bool" "dict" = some false := by decide +kernel
theorem isi_int_int : isiB "int" "int" = some true := by decide +kernel
theorem isi_int_str : isiB "int" "str" = some false := by decide +kernel
theorem isi_int_bool : isiB "int" "bool" = some false := by decide +kernel
theorem isi_int_tuple : isiB "int" "tuple" = some false := by decide +kernel
theorem isi_int_list : isiB "int" "list" = some false := by decide +kernel
theorem isi_int_dict : isiB "int" "dict" = some false := by decide +kernel
theorem isi_str_int : isiB "str" "int" = some false := by decide +kernel
theorem isi_str_str : isiB "str" "str" = some true := by decide +kernel
theorem isi_str_bool : isiB "str" "bool" = some false := by decide +kernel
theorem isi_str_tuple : isiB "str" "tuple" = some false := by decide +kernel
theorem isi_str_list : isiB "str" "list" = some false := by decide +kernel
theorem isi_str_dict : isiB "str" "dict" = some false := by decide +kernel
theorem isi_tuple_int : isiB "tuple" "int" = some false := by decide +kernel
theorem isi_tuple_str : isiB "tuple" "str" = some false := by decide +kernel
theorem isi_tuple_bool : isiB "tuple" "bool" = some false := by decide +kernel
theorem isi_tuple_tuple : isiB "tuple" "tuple" = some true := by decide +kernel
theorem isi_tuple_list : isiB "tuple" "list" = some false := by decide +kernel
theorem isi_tuple_dict : isiB "tuple" "dict" = some false := by decide +kernel
theorem isi_list_int : isiB "list" "int" = some false := by decide +kernel
theorem isi_list_str : isiB "list" "str" = some false := by decide +kernel
theorem isi_list_bool : isiB "list" "bool" = some false := by decide +kernel
theorem isi_list_tuple : isiB "list" "tuple" = some false := by decide +kernel
theorem isi_list_list : isiB "list" "list" = some true := by decide +kernel
theorem isi_list_dict : isiB "list" "dict" = some false := by decide +kernel
theorem isi_dict_int : isiB "dict" "int" = some false := by decide +kernel
theorem isi_dict_str : isiB "dict" "str" = some false := by decide +kernel
theorem isi_dict_bool : isiB "dict" "bool" = some false := by decide +kernel
theorem isi_dict_tuple : isiB "dict" "tuple" = some false := by decide +kernel
theorem isi_dict_list : isiB "dict" "list" = some false := by decide +kernel
theorem isi_dict_dict : isiB "dict" "dict" = some true := by decide +kernel
/-- what a slice asks -/
theorem eSl_ap (mk : List D → GH → R D) (f : FE) (lo hi : Option FE) (δ : DEnv) (G : GH) : eSl mk f lo hi δ G = (f δ G).bind fun x G1 => (eOpt lo δ G1).bind fun l G2 => (eOpt hi δ G2).bind fun h G3 => dSl mk x l h G3 := rfl
theorem eOpt_none (δ : DEnv) (G : GH) : eOpt none δ G = .ok none G := rfl
theorem eOpt_some (f : FE) (δ : DEnv) (G : GH) : eOpt (some f) δ G = (f δ G).bind fun d G1 => match d with | .int i => .ok (some i) G1 | _ => .no := rfl
theorem dSl_tup (mk : List D → GH → R D) (xs : List D) (lo hi : Option Int) (G : GH) : dSl mk (.tup xs) lo hi G = .ok (.tup (cutD xs lo hi)) G := rfl
theorem dSl_pt (mk : List D → GH → R D) (xs : List D) (lo hi : Option Int) (G : GH) : dSl mk (.pt xs) lo hi G = .ok (.pt (cutD xs lo hi)) G := rfl
theorem dSl_lst (mk : List D → GH → R D) (xs : List D) (lo hi : Option Int) (G : GH) : dSl mk (.lst xs) lo hi G = mk (cutD xs lo hi) G := rfl
theorem dSl_scr (mk : List D → GH → R D) (xs : List D) (lo hi : Option Int) (G : GH) : dSl mk (.scr xs) lo hi G = mk (cutD xs lo hi) G := rfl
theorem dTupP_ref (G : GH) (n : Nat) {xs : List D} (h : G[n]? = some (.lst xs)) : dTupP (.ref n) G = .ok (.pt xs) G := by unfold dTupP; rw [lstOf_ref, h]
/-! ### cells -/
theorem tyM_ref (T : String) (G : GH) (n : Nat) : tyM T G (.ref n) = match G[n]? with | some (.lst _) => T == "list" | some (.dK _) => T == "dict" | some (.dT _) => T == "dict" | _ => false := by
  unfold tyM
  simp only [lstOf_ref]
  cases h : G[n]? with
  | none => rfl
  | some c => cases c <;> rfl
theorem mAppend_ref (G : GH) (n : Nat) (y : D) : mAppend (.ref n) [y] G = match G[n]? with | some (.lst xs) => if xs.length < sizeLine then .ok .non (G.set n (.lst (xs ++ [y]))) else .no | _ => .no := by
  unfold mAppend
  rw [celL_ref]
  cases h : G[n]? with
  | none => rfl
  | some c => cases c <;> rfl
theorem mExtend_ref (G : GH) (n : Nat) (y : D) : mExtend (.ref n) [y] G = match G[n]? with | some (.lst xs) => (match lstX G y with | some zs => if xs.length + zs.length ≤ sizeLine then .ok .non (G.set n (.lst (xs ++ zs))) else .no | none => .no) | _ => .no := by
  unfold mExtend
  rw [celL_ref]
  cases h : G[n]? with
  | none => rfl
  | some c => cases c <;> rfl
theorem dLen_refm (G : GH) (n : Nat) : dLen (.ref n) G = match G[n]? with | some (.lst xs) => .ok (.int xs.length) G | some (.dK xs) => dLen (.ref n) G | some (.dT xs) => dLen (.ref n) G | some (.ins _ _) => dLen (.ref n) G | none => dLen (.ref n) G := by
  cases h : G[n]? with
  | none => rfl
  | some c => cases c <;> first | rfl | exact dLen_ref _ _ h
theorem dAdd_refl (mk : List D → GH → R D) (G : GH) {n : Nat} {xs : List D} (ys : List D) (h : G[n]? = some (.lst xs)) : dAdd mk (.ref n) (.lst ys) G = if xs.length + ys.length ≤ sizeLine then mk (xs ++ ys) G else .no := by
  show (match lstX G (.ref n), lstX G (.lst ys) with | some a, some b => if a.length + b.length ≤ sizeLine then mk (a ++ b) G else R.no | _, _ => R.no) = _
  rw [lstX_ref, h, lstX_lst]
theorem dAdd_lref (mk : List D → GH → R D) (G : GH) {n : Nat} {xs : List D} (ys : List D) (h : G[n]? = some (.lst xs)) : dAdd mk (.lst ys) (.ref n) G = if ys.length + xs.length ≤ sizeLine then mk (ys ++ xs) G else .no := by
  show (match lstX G (.lst ys), lstX G (.ref n) with | some a, some b => if a.length + b.length ≤ sizeLine then mk (a ++ b) G else R.no | _, _ => R.no) = _
  rw [lstX_ref, h, lstX_lst]
section
variable (G : GH) (a b c x : Cell)
theorem ge1 : (G ++ [a])[G.length]? = some a := by simp
theorem ge2a : (G ++ [a] ++ [b])[G.length]? = some a := by simp
theorem ge2b : (G ++ [a] ++ [b])[G.length + 1]? = some b := by simp
theorem ge3a : (G ++ [a] ++ [b] ++ [c])[G.length]? = some a := by simp
theorem ge3b : (G ++ [a] ++ [b] ++ [c])[G.length + 1]? = some b := by simp
theorem ge3d : (G ++ [a] ++ [b] ++ [c])[G.length + 2]? = some c := by simp
theorem ge3c : (G ++ [a] ++ [b] ++ [c])[G.length + 1 + 1]? = some c := ge3d G a b c
theorem st1 : (G ++ [a]).set G.length x = G ++ [x] := by simp
theorem st2a : (G ++ [a] ++ [b]).set G.length x = G ++ [x] ++ [b] := by simp
theorem st2b : (G ++ [a] ++ [b]).set (G.length + 1) x = G ++ [a] ++ [x] := by simp
theorem st3a : (G ++ [a] ++ [b] ++ [c]).set G.length x = G ++ [x] ++ [b] ++ [c] := by simp
theorem st3b : (G ++ [a] ++ [b] ++ [c]).set (G.length + 1) x = G ++ [a] ++ [x] ++ [c] := by simp
theorem st3d : (G ++ [a] ++ [b] ++ [c]).set (G.length + 2) x = G ++ [a] ++ [b] ++ [x] := by simp
theorem st3c : (G ++ [a] ++ [b] ++ [c]).set (G.length + 1 + 1) x = G ++ [a] ++ [b] ++ [x] := st3d G a b c x
end
end CF
end
section
set_option maxRecDepth 100000
set_option maxHeartbeats 1000000
/-! The end of a law, its top told by names. -/
namespace CF
open PySem PySem.Spec PyProof.Rows L2
theorem law_endE {l : PySem.W.OpenLaw} {n k : Nat} {q : Program} {loose : List Str} {XP : (Str → Option Value) → Heap → Prop} {YP : World → Heap → Prop} {d : DefRec} {F : List D → GH → R D} {x : Str}
    (hn : l.most = some n) (hn2 : n ≤ sizeLine) (hdf : d.params.defaults = []) (room : Room k callerA)
    (Fn : ∀ (w : World) (mg : Str → Option Value) (fa : Addr) (h : Heap), YP w h → h.Ns mainGlobals mg → mg d.name = some (.ref fa) →
      ∃ (K : PySem.W.Frag) (fd : FuncData), K.In h ∧ (∀ (s : Shared) (u : Value), BindsTo s fd ⟨[u], []⟩ [(x, u)]) ∧ ∀ base : Heap, K.In base → base.Ns mainGlobals mg → FnD l.prog w K mg base k fa fd [x] F)
    (hF : ∀ (ns : List Int), ns.length ≤ n → (∀ i ∈ ns, Builtin.Int.intBits i ≤ 1048576) → ∃ G', F [.scr (ns.map D.int)] [] = .ok (.bl true) G') :
    PySem.W.WalkO q loose XP YP l.row.toRowW d [] (fun f vs => PySem.call f vs) := by
  refine Att.attach_callB hn hdf fun w s₀ s₁ mg mb fa o pm cd doc a vs ns G Y ho hd hcd hmg hobj hints hlen hbits hg => ?_
  obtain ⟨K, fd, KX, b, f⟩ := Fn w mg fa _ Y G.T.g hmg
  exact law_runs KX G.T.g G.T.b G.T.builtins G.T.nolimit hg hobj hints (Nat.le_trans hlen hn2) room f b (hF ns hlen hbits)
section
variable {K : PySem.W.Frag} {x qual : Str} {st : Stmt} {dvs : List V} {f : Addr} {fd : FuncData} {mg : Str → Option Value}
theorem Tx.ofN {ps : List Str} (F : FunD K x qual (defArgs st) (defBody st) (defScope st) [] [] f fd) (g : mg x = some (.ref f))
    (h : ∀ (kV doc pm : Value) (an : Option Addr) (cdv ct : Value) (us : List Value), us.length = ps.length → bindArgs (PySem.W.fnOf x qual (defArgs st) (defBody st) (defScope st) .none kV doc pm an cdv ct) ⟨us, []⟩ = pure (ps.zip us)) : Tx K mg x ps [] f fd :=
  ⟨g, F.kp, [], .nil, FunD.bindsN F h⟩
theorem Tx.ofD {ps : List Str} (n j : Nat) (F : FunD K x qual (defArgs st) (defBody st) (defScope st) dvs [] f fd) (g : mg x = some (.ref f)) (hd : dvs ≠ []) (hn : n + (dvs.length - j) = ps.length)
    (h : ∀ (T : Addr) (kV doc pm : Value) (an : Option Addr) (cdv ct : Value) (us its : List Value), us.length = n → its.length = dvs.length →
      ∃ k, bindArgs (PySem.W.fnOf x qual (defArgs st) (defBody st) (defScope st) (.ref T) kV doc pm an cdv ct) ⟨us, []⟩ = seqItems? (.ref T) >>= k ∧ k (some its.toArray) = pure (ps.zip (us ++ its.drop j))) : Tx K mg x ps (dvs.drop j) f fd :=
  ⟨g, F.kp, FunD.binds1 F n j hd hn h⟩
end
end CF
end
section
set_option maxRecDepth 100000
set_option maxHeartbeats 4000000
/-! Trees of values, maps and lists, in plain Lean. -/
namespace CF
open PySem PySem.Spec PyProof.Rows L2
inductive Tr where
  | val (i : Int) | txt (x : Str) | node (m : Bool) (ps : List (Str × Tr))
/-- map or list -/
def kindS (m : Bool) : Str := if m then "map" else "list"
mutual
def encT : Tr → D
  | .val i => .tup [.str "value", .int i]
  | .txt x => .tup [.str "value", .str x]
  | .node m ps => .tup [.str (kindS m), .pt (encP ps)]
def encP : List (Str × Tr) → List D
  | [] => []
  | (n, t) :: r => .tup [.str n, encT t] :: encP r
end
def encPr (p : Str × Tr) : D := .tup [.str p.1, encT p.2]
theorem encP_map : ∀ ps : List (Str × Tr), encP ps = ps.map encPr
  | [] => by rw [encP]; rfl
  | (n, t) :: r => by rw [encP, encP_map r]; rfl
theorem encT_val (i : Int) : encT (.val i) = .tup [.str "value", .int i] := by rw [encT]
theorem encT_txt (i : Str) : encT (.txt i) = .tup [.str "value", .str i] := by rw [encT]
theorem encT_node (m : Bool) (ps : List (Str × Tr)) : encT (.node m ps) = .tup [.str (kindS m), .pt (ps.map encPr)] := by rw [encT, encP_map]
/-- texts go by their signs -/
def leS (a b : Str) : Bool := PySem.W.dataLe false PyData.str a b
theorem leS_def (a b : Str) : leS a b = decide (a.cps.toList ≤ b.cps.toList) := by
  unfold leS
  have e := PySem.W.dataLe_str (β := Str) id
  exact congrFun (congrFun e a) b
/-- a sign that repr shows as it is -/
def plainC (c : Nat) : Bool := decide (32 ≤ c) && decide (c < 127) && !(c == 39) && !(c == 92)
def okS (x : Str) : Bool := PyData.strOk x && decide (x.length ≤ 1000) && x.cps.toList.all plainC
/-- a tree that is at most r deep, its names out of ns -/
def okT (ns : List Str) : Nat → Tr → Prop
  | 0, _ => False
  | _ + 1, .val i => -(10 ^ 30) < i ∧ i < 10 ^ 30
  | _ + 1, .txt x => okS x = true
  | r + 1, .node m ps => (ps.map (·.1)).Nodup ∧ (∀ n ∈ ps.map (·.1), n ∈ ns) ∧ (m = true → (ps.map (·.1)).Pairwise fun a b => leS a b = true) ∧ ∀ p ∈ ps, okT ns r p.2
theorem okT_up (ns : List Str) : ∀ (r : Nat) (t : Tr), okT ns r t → okT ns (r + 1) t
  | 0, _, h => h.elim
  | _ + 1, .val _, h => h
  | _ + 1, .txt _, h => h
  | r + 1, .node m ps, ⟨h1, h2, h3, h4⟩ => ⟨h1, h2, h3, fun p hp => okT_up ns r p.2 (h4 p hp)⟩
theorem okT_mono (ns : List Str) {r s : Nat} (h : r ≤ s) {t : Tr} (k : okT ns r t) : okT ns s t := by
  induction h with
  | refl => exact k
  | step _ ih => exact okT_up ns _ t ih
mutual
/-- the nodes below the root -/
def szT : Tr → Nat
  | .val _ => 0
  | .txt _ => 0
  | .node _ ps => szP ps
def szP : List (Str × Tr) → Nat
  | [] => 0
  | (_, t) :: r => 1 + szT t + szP r
end
theorem szT_node (m : Bool) (ps : List (Str × Tr)) : szT (.node m ps) = (ps.map fun p => 1 + szT p.2).sum := by
  rw [szT]
  induction ps with
  | nil => rw [szP]; rfl
  | cons p r ih => obtain ⟨n, t⟩ := p; rw [szP, ih]; rfl
/-! ### sorted texts -/
def sortS (xs : List Str) : List Str := xs.mergeSort leS
theorem leS_total : PySem.W.TotalLe leS := by
  show PySem.W.TotalLe (PySem.W.dataLe false PyData.str)
  unfold PySem.W.dataLe
  exact PySem.W.sortLe_total _ _ _
theorem sortS_perm (xs : List Str) : (sortS xs).Perm xs := List.mergeSort_perm _ _
theorem sortS_sorted (xs : List Str) : (sortS xs).Pairwise fun a b => leS a b = true := PySem.W.sort_pairwise leS_total xs
theorem pyd_str {x : Str} (h : PyData.strOk x = true) : pyd (.str x) = .str x := by simp [pyd, D.py, h]
theorem pyAll_strs : ∀ {xs : List Str}, (∀ x ∈ xs, PyData.strOk x = true) → D.pyAll (xs.map D.str) = some (xs.map PyData.str)
  | [], _ => by simp [D.pyAll]
  | x :: xs, h => by
    have h1 := h x (.head _)
    have h2 := pyAll_strs (xs := xs) fun y hy => h y (.tail _ hy)
    rw [List.map_cons, D.pyAll, h2]
    simp [D.py, h1]
theorem sortOk_strs (xs : List Str) : SortOk (xs.map PyData.str) :=
  ⟨strs_alike xs, .inl (.others fun k => ⟨by simp, by simp⟩), fun d hd => by
    obtain ⟨k, _, rfl⟩ := List.mem_map.mp hd
    simp [PyData.depth]⟩
theorem sortD_strs {xs : List Str} (h : ∀ x ∈ xs, PyData.strOk x = true) : sortD (xs.map D.str) = (sortS xs).map D.str := by
  unfold sortD sortS
  rw [sort_fst D.str pyd xs]
  congr 1
  exact PySem.W.sort_congr fun a ha b hb => by
    show PySem.W.dataLe false (fun b => pyd (D.str b)) a b = PySem.W.dataLe false PyData.str a b
    rw [PySem.W.dataLe_eq, PySem.W.dataLe_eq]
    simp [pyd_str (h a ha), pyd_str (h b hb)]
theorem dSorted2_strs {xs : List Str} (h : ∀ x ∈ xs, PyData.strOk x = true) (G : GH) : dSorted2 mkF (.lst (xs.map D.str)) G = .ok (.lst ((sortS xs).map D.str)) G := by
  show dSorted mkF (.lst (xs.map D.str)) G = _
  unfold dSorted
  rw [lstOf_lst]
  dsimp only
  rw [pyAll_strs h]
  dsimp only
  rw [if_pos (sortOk_strs xs), sortD_strs h]
  rfl
theorem eqvAll_strs : ∀ xs ys : List Str, PyData.eqvAll (xs.map .str) (ys.map .str) = decide (xs = ys)
  | [], [] => by simp [PyData.eqvAll]
  | [], _ :: _ => by simp [PyData.eqvAll]
  | _ :: _, [] => by simp [PyData.eqvAll]
  | x :: xs, y :: ys => by
    rw [List.map_cons, List.map_cons, PyData.eqvAll, eqvAll_strs xs ys, PyData.eqv]
    by_cases h : x = y
    · subst h; simp
    · have : (x == y) = false := by
        cases q : x == y with
        | false => rfl
        | true => exact absurd (eq_of_beq q) h
      simp [this, h]
theorem depth_strs : ∀ xs : List Str, PyData.depthAll (xs.map .str) = 0
  | [] => by simp [PyData.depthAll]
  | x :: xs => by rw [List.map_cons, PyData.depthAll, depth_strs xs]; simp [PyData.depth]
theorem dEq_strs {xs ys : List Str} (hx : ∀ x ∈ xs, PyData.strOk x = true) (hy : ∀ x ∈ ys, PyData.strOk x = true) (G : GH) : dEq (.lst (xs.map D.str)) (.lst (ys.map D.str)) G = .ok (.bl (decide (xs = ys))) G := by
  have e1 : (D.lst (xs.map D.str)).py = some (.list (xs.map .str)) := by rw [D.py, pyAll_strs hx]
  have e2 : (D.lst (ys.map D.str)).py = some (.list (ys.map .str)) := by rw [D.py, pyAll_strs hy]
  unfold dEq pyEq
  rw [res_lst, res_lst, e1, e2]
  dsimp only
  rw [if_pos (by simp [PyData.depth, depth_strs]), PyData.eqv, eqvAll_strs]
theorem sortS_id {xs : List Str} (h : xs.Pairwise fun a b => leS a b = true) : sortS xs = xs := List.mergeSort_of_pairwise h
end CF
end
section
set_option maxRecDepth 100000
set_option maxHeartbeats 4000000
/-! Comprehensions of every kind, with any number of for parts, at once. -/
namespace CF
open PySem PySem.Spec PyProof.Rows L2
/-- one for part -/
structure Cl where
  tg : Expr
  it : Expr
  ifs : List Expr
def Cl.c (c : Cl) : Comprehension := ⟨c.tg, c.it, c.ifs, 0⟩
/-- what a turn does once its tests hold: the next part's own loop, or the item itself -/
def deepS (ce : Expr) (emit : Sem Unit) (acc : Value) (env : Env) (d : Nat) : List Cl → Sem Unit
  | [] => emit
  | c :: _ => do
    let x ← eval c.it env
    standAt c.it.pos
    let x ← foldedSetIterable c.it env x
    let _ ← runOwn (.compStart ce d (← holding [x] (pyIter x)) acc env) env
def turnS (ce : Expr) (d : Nat) (c : Cl) (it acc : Value) (env : Env) (rest : Sem Unit) : Sem Fin := do
  standAt c.it.pos
  match ← pyNext it with
  | none => pure (.done .next)
  | some v =>
    letOwnedTupleGo c.tg it v
    assign c.tg env v
    let mut ok := true
    for e in c.ifs do
      if ok then ok ← isTrue e env (eval e env)
    if ok then rest
    again (.compLoop ce d it acc env)
/-- a kind of comprehension -/
structure KOk (P : Program) (w : World) (ce : Expr) (cls : List Cl) (emit : Value → Env → Sem Unit) (acc : Value) : Prop where
  eqn : ∀ (d : Nat) (c : Cl) (rest : List Cl) (it : Value) (env : Env), cls.drop d = c :: rest → compTurn ce d it acc env = turnS ce d c it acc env (deepS ce (emit acc env) acc env (d + 1) rest)
  loop : ∀ (A : Around) (d : Nat) (it : Value) (env : Env), (Code.compLoop ce d it acc env).quiet = true ∧ A.under (.compLoop ce d it acc env) = A ∧ (model P w).den (.compLoop ce d it acc env) = (compTurn ce d it acc env).onRaise fun x => do noteFrame x env; theTreesLotGoes x
  start : ∀ (A : Around) (d : Nat) (it : Value) (env : Env), A.under (.compStart ce d it acc env) = A ∧ (model P w).den (.compStart ce d it acc env) = (compStart ce d it acc env).onRaise fun x => do noteFrame x env; standAt theWindowsPlace
  cl : clausesOf ce = cls.map Cl.c
  fold : ∀ c ∈ cls, ∀ env x, foldedSetIterable c.it env x = pure x
section
variable {P : Program} {w : World} {ce : Expr} {cls : List Cl} {emit : Value → Env → Sem Unit} {acc : Value} {A : Around} {R : Result → Shared → Prop} {s : Shared} {env : Env} {it : Value} {d : Nat} {c : Cl} {rest : List Cl}
theorem drop_get {α : Type} {l : List α} {n : Nat} {x : α} {r : List α} (h : l.drop n = x :: r) : l[n]? = some x := by
  have e := congrArg (fun q => q[0]?) h
  simpa using e
theorem kst (k : KOk P w ce cls emit acc) (hc : cls.drop d = c :: rest) (h0 : codeAny (model P w) A (.compLoop ce d it acc env) R s)
    (h : wpAny (model P w) A (pyIter it) (fun it' s' => codeAny (model P w) A (.compLoop ce d it' acc env) R s') (notedBy (model P w) A env fun x s' => R (.error x) s') s) :
    codeAny (model P w) A (.compStart ce d it acc env) R s := by
  refine codeAny_of_tree ?_
  rw [(k.start A d it env).1, (k.start A d it env).2]
  refine wpAny_notedAt ?_
  have e : (clausesOf ce)[d]? = some c.c := by rw [k.cl, List.getElem?_map, drop_get hc]; rfl
  have q : ∀ it', (Code.compLoop ce d it' acc env).quiet = true := fun it' => (k.loop A d it' env).1
  unfold compStart
  rw [e]
  show wpAny _ _ (ask >>= _) _ _ s
  refine wpAny_bind (wpAny_askSetting (wpAny_ite ?_))
  split
  · first
      | exact wpAny_bind (wpAny_pure (wpAny_pure ⟨q it, h0⟩))
      | exact wpAny_pure ⟨q it, h0⟩
  · refine wpAny_bind (wpAny_rule ?_)
    show wpAny _ _ (standAt c.it.pos >>= _) _ _ s
    exact wpAny_bind (wpAny_standAt (wpAny_bind (wpAny_mono h (fun it' s' h' => wpAny_pure ⟨q it', h'⟩) fun _ _ x => x)))
/-- the loop of one part: I its state by a measure -/
theorem klp (k : KOk P w ce cls emit acc) (hc : cls.drop d = c :: rest) (I : Nat → Shared → Prop)
    (turn : ∀ n s, I n s → wpAny (model P w) A (pyNext it) (fun r s1 => match r with
      | none => R (.ok .next) s1
      | some v => wpAny (model P w) A (letOwnedTupleGo c.tg it v) (fun _ s2 => wpAny (model P w) A (assign c.tg env v) (fun _ s3 =>
          wpAny (model P w) A (forIn c.ifs true fun e r => if r = true then do let ok ← isTrue e env (eval e env); pure (ForInStep.yield ok) else pure (ForInStep.yield r)) (fun ok s4 =>
            if ok = true then wpAny (model P w) A (deepS ce (emit acc env) acc env (d + 1) rest) (fun _ s5 => ∃ m, m < n ∧ I m s5) (fun _ _ => False) s4
            else ∃ m, m < n ∧ I m s4) (fun _ _ => False) s3) (fun _ _ => False) s2) (fun _ _ => False) s1) (fun _ _ => False) s)
    (n : Nat) (h : I n s) : codeAny (model P w) A (.compLoop ce d it acc env) R s := by
  have no : ∀ {E : Value → Shared → Prop} (x : Value) (s' : Shared), (fun _ _ => False : Value → Shared → Prop) x s' → E x s' := fun _ _ z => False.elim z
  refine codeAny_loop (k.loop A d it env).1 I (fun n s hI => ?_) n h
  rw [(k.loop A d it env).2.1, (k.loop A d it env).2.2]
  refine wpAny_noted ?_
  rw [k.eqn d c rest it env hc]
  unfold turnS
  refine wpAny_bind (wpAny_standAt (wpAny_bind (wpAny_mono (turn n s hI) (fun r s1 h1 => ?_) no)))
  cases r with
  | none => exact wpAny_pure h1
  | some v =>
    refine wpAny_bind (wpAny_mono h1 (fun _ s2 h2 => ?_) no)
    refine wpAny_bind (wpAny_mono h2 (fun _ s3 h3 => wpAny_bind (wpAny_mono h3 (fun ok s4 h4 => ?_) no)) no)
    cases ok with
    | false => exact wpAny_pure ⟨rfl, h4⟩
    | true => exact wpAny_bind (wpAny_mono h4 (fun _ s5 h5 => wpAny_pure ⟨rfl, h5⟩) no)
end
/-! ### what the parts ask -/
/-- one part, told: its source, target, tests; the names that it sets -/
structure Ct where
  c : Cl
  wi : TI
  g : TG
  tt : TT
  vs : List Nat
abbrev TM := St → Hp → (Hp → Prop) → Prop
/-- a part's loop, its source already at hand -/
def tLp (ct : Ct) (deep : TM) (J : It) (σ : St) (H : Hp) (N : Hp → Prop) : Prop := ∃ W : Nat → Nat → Hp → Prop, (∃ m, W 0 m H) ∧ ∀ i m H, W i m H →
  (J.stop i H ∧ N H) ∨ (J.go i H ∧ ∃ Nx : Hp → Prop, (∀ H', Nx H' → ∃ m', m' < m ∧ W (i + 1) m' H') ∧ ∀ x H', J.yld i H x H' → ct.g x (wipe σ ct.vs) H' fun σ2 H2 => wipe σ2 ct.vs = wipe σ ct.vs ∧ ct.tt σ2 H2 fun b H3 => if b = true then deep σ2 H3 Nx else Nx H3)
def tDp (em : TM) : List Ct → TM
  | [] => em
  | ct :: r => fun σ H N => ct.wi σ H fun J H4 => tLp ct (tDp em r) J σ H4 N
/-- the slots stay but for some names -/
def Kp (vs : List Nat) (σ σ' : St) : Prop := σ'.length = σ.length ∧ ∀ (j : Nat) (v : V), j ∉ vs → σ[j]? = some (some v) → σ'[j]? = some (some v)
theorem Kp.refl (vs : List Nat) (a : St) : Kp vs a a := ⟨rfl, fun _ _ _ e => e⟩
def vsH : List Ct → List Nat
  | [] => []
  | ct :: _ => ct.vs
def Chn : List Ct → Prop
  | [] => True
  | ct :: r => (∀ i ∈ vsH r, i ∈ ct.vs) ∧ Chn r
/-- a turn is over: what the part's loop knew at its start is known still -/
theorem Kp.turn {vs us : List Nat} (hu : ∀ i ∈ us, i ∈ vs) {σ σ2 σ3 : St} (h : wipe σ2 vs = wipe σ vs) (k : Kp us σ2 σ3) :
    Kp vs σ σ3 ∧ (wipe σ vs).length = σ3.length ∧ ∀ (j : Nat) (v : V), (wipe σ vs)[j]? = some (some v) → σ3[j]? = some (some v) := by
  have l : σ3.length = σ.length := by rw [k.1, ← wipe_length σ2 vs, h, wipe_length]
  have z : ∀ (j : Nat) (v : V), (wipe σ vs)[j]? = some (some v) → σ3[j]? = some (some v) := fun j v e => by
    rw [← h] at e
    obtain ⟨e1, e2⟩ := wipe_some e
    exact k.2 j v (fun m => e2 (hu j m)) e1
  exact ⟨⟨l, fun j v n e => z j v (by rw [wipe_out n]; exact e)⟩, by rw [wipe_length, l], z⟩
section
variable {X : Cx} {s3 : Shared} {H3 : Hp} {scope : Scope} {env : Env} {fp0 : List Addr} {ce : Expr} {cls : List Cl} {emit : Value → Env → Sem Unit} {acc : Value} {em : TM}
theorem thnO {α : Type} {t : Sem α} {Q Q' : α → Shared → Prop} {M : Model} {A : Around} {s : Shared} (h : wpAny M A t Q (fun _ _ => False) s) (hQ : ∀ a s', Q a s' → Q' a s') : wpAny M A t Q' (fun _ _ => False) s := wpAny_mono h hQ fun _ _ z => z
/-- one part's loop, its source at hand; deep: what a turn does -/
theorem loop_ok (hc : X.calm = true) (k : KOk X.prog X.w ce cls emit acc) {ct : Ct} {rest : List Cl} {d : Nat} {deep : TM} {us : List Nat} (hd : cls.drop d = ct.c :: rest) (hpg : PG (X.blk s3 H3 scope env fp0) ct.c.tg ct.g) (hpt : PTs (X.blk s3 H3 scope env fp0) ct.c.ifs ct.tt) (hus : ∀ i ∈ us, i ∈ ct.vs)
    (hdp : ∀ (pins : List (Addr × Obj)) (σ : St) (H : Hp) (s : Shared) (N : Hp → Prop), Inv (X.blk s3 H3 scope env fp0) pins σ H s → deep σ H N →
      wpAny (model X.prog X.w) X.A (deepS ce (emit acc env) acc env (d + 1) rest) (fun _ s' => ∃ σ' H', Inv (X.blk s3 H3 scope env fp0) pins σ' H' s' ∧ Kp us σ σ' ∧ N H') (fun _ _ => False) s)
    {pins : List (Addr × Obj)} {σ σ0 : St} {H5 : Hp} {s5 : Shared} {N : Hp → Prop} {it : Addr} {fp : List Addr} {tn : Nat → Heap → Prop} {J : It} (I5 : Inv (X.blk s3 H3 scope env fp0) pins σ0 H5 s5) (kp0 : Kp ct.vs σ σ0) (know0 : (wipe σ ct.vs).length = σ0.length ∧ ∀ (j : Nat) (v : V), (wipe σ ct.vs)[j]? = some (some v) → σ0[j]? = some (some v))
    (T : Turn X.prog X.w X.K ct.c.tg J fp it tn) (st5 : tn 0 s5.heap) (n5 : ∀ b ∈ fp, H5 b = none) (stat : ∀ {σ' : St} {H' : Hp} {s' : Shared}, Inv (X.blk s3 H3 scope env fp0) pins σ' H' s' → (∀ b ∈ fp, H' b = none) → ∀ b ∈ fp, FpOk (X.blk s3 H3 scope env fp0) pins H' b)
    (h : tLp ct deep J σ H5 N) : codeAny (model X.prog X.w) X.A (.compLoop ce d (.ref it) acc env) (fun r s' => match r with
        | .ok f => f = .next ∧ ∃ σ' H', Inv (X.blk s3 H3 scope env fp0) pins σ' H' s' ∧ Kp ct.vs σ σ' ∧ N H'
        | .error _ => False) s5 := by
  obtain ⟨W, ⟨m0, w0⟩, turn⟩ := h
  refine klp k hd (fun n s' => ∃ i σ1 H', Inv (X.blk s3 H3 scope env fp0) pins σ1 H' s' ∧ Kp ct.vs σ σ1 ∧ ((wipe σ ct.vs).length = σ1.length ∧ ∀ (j : Nat) (v : V), (wipe σ ct.vs)[j]? = some (some v) → σ1[j]? = some (some v)) ∧ tn i s'.heap ∧ (∀ b ∈ fp, H' b = none) ∧ W i n H') ?_ m0
    ⟨0, σ0, H5, I5, kp0, know0, st5, n5, w0⟩
  rintro n s6 ⟨i, σ1, H6, I6, kp6, know, st6, n6, w6⟩
  rcases turn i n H6 w6 with ⟨stop, hN⟩ | ⟨go, Nx, hNx, step⟩
  · refine thnO (T.done (X.blk s3 H3 scope env fp0) rfl rfl rfl hc i _ s6 _ H6 (fun _ _ => False) I6 (stat I6 n6) st6 stop) fun r s7 ⟨hr, I7⟩ => ?_
    subst hr
    exact ⟨rfl, σ1, H6, I7, kp6, hN⟩
  · have I6w := I6.weak know.1 know.2
    refine thnO (T.item (X.blk s3 H3 scope env fp0) rfl rfl rfl hc i _ s6 _ H6 (fun _ _ => False) I6w (stat I6 n6) st6 go) fun r s7 ⟨u, hr, h7⟩ => ?_
    subst hr
    refine thnO h7 fun _ s8 ⟨x, H8, I8, r8, y8, st8, n8⟩ => ?_
    have I8p := I8.pinned (stat I8 n8) (T.obj _ _ st8)
    refine thnO (hpg.run _ s8 _ H8 x u _ I8p r8 (step x H8 y8)) fun _ s9 ⟨σ9, H9, I9, hw9, q9⟩ => ?_
    refine thnO (hpt.run _ s9 σ9 H9 _ I9 q9) fun b s10 ⟨H10, I10, q10⟩ => ?_
    -- the turn is over
    have over : ∀ {σ' : St} {s' : Shared} {H' : Hp}, Inv (X.blk s3 H3 scope env fp0) (pins ++ pinsAt fp s8.heap) σ' H' s' → Kp us σ9 σ' → Nx H' →
        ∃ m, m < n ∧ ∃ i σ1 H', Inv (X.blk s3 H3 scope env fp0) pins σ1 H' s' ∧ Kp ct.vs σ σ1 ∧ ((wipe σ ct.vs).length = σ1.length ∧ ∀ (j : Nat) (v : V), (wipe σ ct.vs)[j]? = some (some v) → σ1[j]? = some (some v)) ∧ tn i s'.heap ∧ (∀ b ∈ fp, H' b = none) ∧ W i m H' := by
      intro σ' s' H' I' kp nx
      obtain ⟨m', hm, w'⟩ := hNx H' nx
      obtain ⟨a1, a2, a3⟩ := Kp.turn hus hw9 kp
      have held : ∀ b ∈ fp, ∀ o, s8.heap.get? b = some o → s'.heap.get? b = some o ∧ H' b = none := fun b hb o e => by
        have z := I'.pin (b, o) (List.mem_append_right _ (List.mem_append_right _ (mem_pinsAt hb e)))
        exact ⟨z.1, z.2.1⟩
      refine ⟨m', hm, i + 1, σ', H', I'.unpinned, a1, ⟨a2, a3⟩, T.keep _ _ _ st8 fun b hb o e => (held b hb o e).1, fun b hb => ?_, w'⟩
      obtain ⟨o, e, _⟩ := T.obj _ _ st8 b hb
      exact (held b hb o e).2
    cases b with
    | false =>
      rw [if_neg Bool.false_ne_true] at q10 ⊢
      exact over I10 (.refl _ _) q10
    | true =>
      rw [if_pos rfl] at q10 ⊢
      exact thnO (hdp _ σ9 H10 s10 Nx I10 q10) fun _ s11 ⟨σ', H', I', kp, nx⟩ => over I' kp nx
/-- the heart: the parts from d on, in the block's context -/
theorem deep_ok (hc : X.calm = true) (k : KOk X.prog X.w ce cls emit acc)
    (hem : ∀ (pins : List (Addr × Obj)) (σ : St) (H : Hp) (s : Shared) (N : Hp → Prop), Inv (X.blk s3 H3 scope env fp0) pins σ H s → em σ H N → wpAny (model X.prog X.w) X.A (emit acc env) (fun _ s' => ∃ H', Inv (X.blk s3 H3 scope env fp0) pins σ H' s' ∧ N H') (fun _ _ => False) s) :
    ∀ (cts : List Ct) (d : Nat) (pins : List (Addr × Obj)) (σ : St) (H : Hp) (s : Shared) (N : Hp → Prop), cls.drop d = cts.map (·.c) → Chn cts →
      (∀ ct ∈ cts, PI (X.blk s3 H3 scope env fp0) ct.c.tg ct.c.it ct.wi ∧ PG (X.blk s3 H3 scope env fp0) ct.c.tg ct.g ∧ PTs (X.blk s3 H3 scope env fp0) ct.c.ifs ct.tt) →
      Inv (X.blk s3 H3 scope env fp0) pins σ H s → tDp em cts σ H N →
      wpAny (model X.prog X.w) X.A (deepS ce (emit acc env) acc env d (cts.map (·.c))) (fun _ s' => ∃ σ' H', Inv (X.blk s3 H3 scope env fp0) pins σ' H' s' ∧ Kp (vsH cts) σ σ' ∧ N H') (fun _ _ => False) s := by
  intro cts
  induction cts with
  | nil =>
    intro d pins σ H s N hd ch hcs I h
    exact thnO (hem pins σ H s N I h) fun _ s' ⟨H', I', n⟩ => ⟨σ, H', I', .refl _ _, n⟩
  | cons ct cts ih =>
    intro d pins σ H s N hd ch hcs I h
    obtain ⟨hpi, hpg, hpt⟩ := hcs ct (.head _)
    rw [List.map_cons] at hd
    have hfold : ∀ env x, foldedSetIterable ct.c.it env x = pure x := k.fold ct.c (List.mem_of_getElem? (drop_get hd))
    have hd2 : cls.drop (d + 1) = cts.map (·.c) := by
      have e := congrArg (List.drop 1) hd
      rwa [List.drop_drop, List.drop_one, List.tail_cons] at e
    show wpAny _ _ (eval ct.c.it env >>= _) _ _ s
    refine wpAny_bind (thnO (hpi.run pins s σ H _ I h) fun xv s4 hx => ?_)
    refine wpAny_bind (wpAny_standAt (wpAny_bind (wpAny_of_eq (hfold env xv) ?_)))
    refine wpAny_bind (wpAny_holding (thnO hx fun itv s5 h5 => ?_))
    obtain ⟨it, fp, tn, J, H5, e5, I5, T, st5, f5, h5⟩ := h5
    subst e5
    have lp := loop_ok (s5 := s5) (N := N) (fp := fp) (tn := tn) hc k hd hpg hpt ch.1 (fun pins σ H s N I h => ih (d + 1) pins σ H s N hd2 ch.2 (fun c h => hcs c (.tail _ h)) I h) I5 (.refl _ _) ⟨wipe_length _ _, fun j v e => (wipe_some e).1⟩ T st5 (fun b hb => (f5 b hb).1)
      (fun _ hn b hb => ⟨hn b hb, (f5 b hb).2⟩) h5
    refine wpAny_bind (wpAny_runOwn ?_)
    rw [Around.mark_none]
    refine codeAny_mono (kst k hd lp (T.self X.A 0 _ _ _ st5 lp)) fun r s' hr => ?_
    cases r with
    | ok f =>
      first
        | exact wpAny_pure hr.2
        | exact hr.2
    | error e => exact hr.elim
end
/-! ### the whole -/
/-- what a comprehension asks: o0 the new thing, em what an item does to it -/
def tCm (ct : Ct) (cts : List Ct) (o0 : Addr → HO) (em : Addr → TM) : TE := fun σ H Q => ct.wi σ H fun J H1 => ∀ D, H1 D = none → tLp ct (tDp (em D) cts) J σ (upd H1 D (o0 D)) fun H2 => Q (.ref D) H2
section
variable {X : Cx} {pins : List (Addr × Obj)} {s : Shared} {σ : St} {H : Hp} {Q : VK} {ce : Expr} {scope : Scope} {own : List (Str × Nat)} {pos' : Pos} {ct : Ct} {cts : List Ct} {o0 : Addr → HO} {em : Addr → TM} {emit : Value → Env → Sem Unit} {newAcc : Sem Value} {use : Option (Value → Sem Unit)} {Qf : Value → Shared → Prop}
theorem cm_core (hc : X.calm = true) (hN : X.N.Nodup) (I : Inv X pins σ H s) (k : ∀ D : Addr, KOk X.prog X.w ce (ct.c :: cts.map (·.c)) emit (.ref D)) (hi : PI X ct.c.tg ct.c.it ct.wi) (ok : BlkOk X.N X.env.scope scope own) (hv : ct.vs = own.map (·.2)) (ch : Chn (ct :: cts))
    (hg : ∀ (s : Shared) (H : Hp) (C : Addr) (cl : List (Str × Addr)) (fp : List Addr), PG (X.blk s H scope (compEnvC scope cl C X.env) fp) ct.c.tg ct.g) (ht : ∀ (s : Shared) (H : Hp) (C : Addr) (cl : List (Str × Addr)) (fp : List Addr), PTs (X.blk s H scope (compEnvC scope cl C X.env) fp) ct.c.ifs ct.tt)
    (hr : ∀ (s : Shared) (H : Hp) (C : Addr) (cl : List (Str × Addr)) (fp : List Addr), ∀ c ∈ cts, PI (X.blk s H scope (compEnvC scope cl C X.env) fp) c.c.tg c.c.it c.wi ∧ PG (X.blk s H scope (compEnvC scope cl C X.env) fp) c.c.tg c.g ∧ PTs (X.blk s H scope (compEnvC scope cl C X.env) fp) c.c.ifs c.tt)
    (hem : ∀ (s : Shared) (H : Hp) (C : Addr) (cl : List (Str × Addr)) (fp : List Addr) (D : Addr) (pins : List (Addr × Obj)) (σ : St) (H1 : Hp) (s1 : Shared) (N : Hp → Prop), Inv (X.blk s H scope (compEnvC scope cl C X.env) fp) pins σ H1 s1 → em D σ H1 N →
      wpAny (model X.prog X.w) X.A (emit (.ref D) (compEnvC scope cl C X.env)) (fun _ s' => ∃ H', Inv (X.blk s H scope (compEnvC scope cl C X.env) fp) pins σ H' s' ∧ N H') (fun _ _ => False) s1)
    (hnew : ∀ (H : Hp) (s : Shared) (Q : Value → Shared → Prop), Inv X pins σ H s → (∀ s', Inv X pins σ (upd H s.heap.objs.size (o0 s.heap.objs.size)) s' → (∀ b o, s.heap.get? b = some o → s'.heap.get? b = some o) → s.heap.objs.size < s'.heap.objs.size → Q (.ref s.heap.objs.size) s') → wpAny (model X.prog X.w) X.A newAcc Q X.xe s)
    (h : tCm ct cts o0 em σ H Q)
    (hRR : ∀ D C s' m H', Inv X pins σ H' s' → Q (.ref D) H' → s'.heap.Ns C m → FpOk X pins H' C → compPost (model X.prog X.w) X.A X.xe use Qf (.ref D) C (.ok .next) s') :
    wpAny (model X.prog X.w) X.A (comprehension ce scope X.env pos' newAcc false (eval ct.c.it X.env) use) Qf X.xe s := by
  have hfree : ∀ y ∈ scope.names, y.2 = .free → ∃ c, X.env.cells.lookup y.1 = some c := fun y hy e => (ok.free y hy e).elim (fun k => I.ok.has _ (.inl k)) fun k => I.ok.has _ (.inr k)
  have hcl : clausesOf ce = ct.c.c :: (cts.map (·.c)).map Cl.c := (k 0).cl
  have hs : ∀ x, foldedSetIterable ct.c.c.iter X.env x = pure x := (k 0).fold ct.c (.head _) X.env
  refine wpAny_comprehension_free (use := use) hcl hs (closure_ok hfree) ok.kind (fun y hy e => by rw [ok.uniq y hy, e]) (wpAny_mono (hi.run pins s σ H _ I h) (fun xv s1 hx => wpAny_mono hx (fun itv s2 h2 => ?_) fun _ _ z => z) fun _ _ z => z)
  obtain ⟨it, fp, tn, J, H2, e, I2, T, st2, f2, q⟩ := h2
  subst e
  have hDn : H2 s2.heap.objs.size = none := I2.hok.fresh (Nat.le_refl _)
  have q2 := q _ hDn
  refine hnew H2 s2 _ I2 fun s3 I3 keep grow => newEnv_comp ?_
  generalize hD : s2.heap.objs.size = D at hDn q2 I3 grow
  have sz : ∀ b ∈ fp, b < D := fun b hb => by
    obtain ⟨o, e, _⟩ := T.obj _ _ st2 b hb
    rw [← hD]
    exact Heap.lt_size e
  have f3 : ∀ b ∈ fp, FpOk X pins (upd H2 D (o0 D)) b ∧ b < s3.heap.objs.size := fun b hb => by
    have hlt := sz b hb
    exact ⟨⟨by rw [upd_ne (Nat.ne_of_lt hlt)]; exact (f2 b hb).1, (f2 b hb).2⟩, Nat.lt_trans hlt grow⟩
  have st3 : tn 0 s3.heap := T.keep _ _ _ st2 fun b _ o e => keep b o e
  have I4 := block_start I3 ok hN f3
  rw [← hv] at I4
  generalize hcells : cellsFrom (s3.heap.objs.size + 1) scope.names (cloFrom X.env.cells scope.names []) = cells at I4
  have pg := hg s3 (upd H2 D (o0 D)) s3.heap.objs.size cells fp
  have pt := ht s3 (upd H2 D (o0 D)) s3.heap.objs.size cells fp
  have pr := hr s3 (upd H2 D (o0 D)) s3.heap.objs.size cells fp
  have pe := hem s3 (upd H2 D (o0 D)) s3.heap.objs.size cells fp D
  show codeAny _ _ (.compStart ce 0 (.ref it) (.ref D) (compEnvC scope cells s3.heap.objs.size X.env)) (compPost (model X.prog X.w) X.A X.xe use Qf (.ref D) s3.heap.objs.size) { s3 with heap := pushCells (s3.heap.push { cls := .type "dict", data := .dict #[] }) scope.names }
  have nfp : ∀ b ∈ fp, (upd H2 D (o0 D)) b = none := fun b hb => (f3 b hb).1.1
  have cL : (compEnvC scope cells s3.heap.objs.size X.env).locals = s3.heap.objs.size := rfl
  generalize compEnvC scope cells s3.heap.objs.size X.env = cenv at I4 pg pt pr pe cL ⊢
  generalize hH3 : upd H2 D (o0 D) = H3 at I3 I4 pg pt pr pe q2 nfp f3
  have st4 : tn 0 (pushCells (s3.heap.push { cls := .type "dict", data := .dict #[] }) scope.names) := T.keep _ _ _ st3 fun b _ o e => pushCells_keeps _ _ _ _ (Heap.get?_push_of_some _ e)
  have kp0 : Kp ct.vs σ (wipe σ ct.vs) := ⟨wipe_length _ _, fun j v n e => by rw [wipe_out n]; exact e⟩
  have hd0 : (ct.c :: cts.map (·.c)).drop 0 = ct.c :: cts.map (·.c) := rfl
  have lp := loop_ok (s5 := { s3 with heap := pushCells (s3.heap.push { cls := .type "dict", data := .dict #[] }) scope.names }) (σ := σ) (N := fun H2 => Q (.ref D) H2) (tn := tn) (deep := tDp (em D) cts) (us := vsH cts) hc (k D) hd0 pg pt ch.1
    (fun pins σ H s N I h => deep_ok hc (k D) pe cts 1 pins σ H s N rfl ch.2 pr I h) I4 kp0 ⟨rfl, fun j v e => e⟩ T st4 nfp
    (fun {σ' H' s'} I' hn b hb => ⟨hn b hb, (I'.ok.exf b hb).1, I'.ok.exfs b hb, .inl hb, fun x c e => (I'.ok.exf b hb).2 x c e, fun p hp => absurd (show p ∈ ([] : List (Addr × Obj)) ++ [] from hp) (by simp)⟩) q2
  refine codeAny_mono (kst (k D) hd0 lp (T.self X.A 0 _ _ _ st4 lp)) fun r s6 hr => ?_
  cases r with
  | error e => exact hr.elim
  | ok f =>
    obtain ⟨rfl, σ', H5, I6, _, qq⟩ := hr
    -- back in the def's context
    have I7 : Inv X pins σ H5 s6 := I3.call' (ch := fp) I6.os I6.base I6.hok I6.bare fun b hb => ⟨(f3 b hb).1.2.2.2.1, (f3 b hb).1.2.1, (f3 b hb).1.2.2.2.2.1, (f3 b hb).1.2.2.2.2.2⟩
    have nC : H5 s3.heap.objs.size = none := by
      have z : H5 cenv.locals = none := I6.free
      rwa [cL] at z
    obtain ⟨m, hn, _⟩ := I6.loc
    have hn : s6.heap.Ns cenv.locals m := hn
    rw [cL] at hn
    exact hRR D s3.heap.objs.size s6 m H5 I7 qq hn (I3.fpOk (Nat.le_refl _) nC)
end
end CF
end
section
set_option maxRecDepth 100000
set_option maxHeartbeats 1000000
/-! Comprehensions of every kind at the data level. -/
namespace CF
open PySem PySem.Spec PyProof.Rows L2
/-- one for part by data -/
structure CD where
  fi : FI
  g : FG
  t : FT
  vs : List Nat
section
variable {α : Type}
abbrev FM1 (α : Type) := DEnv → GH → α → R α
def cmL (chk : GH → Bool) (g : FG) (t : FT) (deep : FM1 α) (δ : DEnv) : List D → α → GH → R α
  | [], acc, G => .ok acc G
  | d :: r, acc, G => match g d δ G with
    | .nx δ1 G1 => (t δ1 G1).nox.bind fun b G2 => if b then (deep δ1 G2 acc).nox.bind fun acc' G3 => (if chk G3 then cmL chk g t deep δ r acc' G3 else .no) else (if chk G2 then cmL chk g t deep δ r acc G2 else .no)
    | _ => .no
def cmD (em : FM1 α) : List CD → FM1 α
  | [] => em
  | c :: r => fun δ G acc => (c.fi δ G).nox.bind fun it G1 => if it.chk G1 then cmL it.chk c.g c.t (cmD em r) (wipeD δ c.vs) it.items acc G1 else .no
/-- a comprehension: a0 at its start, em what an item does, mk what is handed back -/
def eCm (mk : α → GH → R D) (a0 : α) (em : FM1 α) (c : CD) (r : List CD) : FE := fun δ G => (c.fi δ G).bind fun it G1 => if it.chk G1 then (cmL it.chk c.g c.t (cmD em r) (wipeD δ c.vs) it.items a0 G1).nox.bind mk else .no
/-- how what has been gathered lies -/
structure AccOk (K : PySem.W.Frag) (AR : Lk → α → HO → Prop) : Prop where
  mono : ∀ (L L' : Lk) (a : α) (o : HO), L.cle L' → AR L a o → AR L' a o
  nofrz : ∀ (L : Lk) (a : α) (o : HO), AR L a o → ∀ od w, o ≠ .frz od w
/-- .. and what is wished of it -/
def AS (K : PySem.W.Frag) (AR : Lk → α → HO → Prop) (D : Addr) (L : Lk) (r : R α) (N : Hp → Prop) : Prop := match r with
  | .ok a G => ∀ L' H' o, L.cle L' → L'.F = L.F → HR K (L'.prv D o) G H' → AR L' a o → N H'
  | _ => False
theorem AS.mono {K : PySem.W.Frag} {AR : Lk → α → HO → Prop} {D : Addr} {L L1 : Lk} {r : R α} {N : Hp → Prop} (h : AS K AR D L r N) (c : L.cle L1) (f : L1.F = L.F) : AS K AR D L1 r N := by
  cases r with
  | ok a G => exact fun L' H' o c1 f1 => h L' H' o (c.trans c1) (f1.trans f)
  | ex x G => exact h
  | no => exact h
/-- a function over data does what a reading asks -/
def DeepR (K : PySem.W.Frag) (AR : Lk → α → HO → Prop) (D : Addr) (f : FM1 α) (deep : TM) : Prop := ∀ (L : Lk) (G : GH) (H : Hp) (δ : DEnv) (σ : St) (a : α) (o : HO) (N : Hp → Prop), L.F D = none → HR K (L.prv D o) G H → ER K L δ σ → AR L a o → AS K AR D L (f δ G a) N → deep σ H N
section
variable {K : PySem.W.Frag} {AR : Lk → α → HO → Prop} {Dl : Addr}
theorem prv_frm {L L5 : Lk} {o : HO} (le : (L.prv Dl o).le L5) : (L5.frm L.F).prv Dl o = L5 := by
  have e5 : L5.F = upd L.F Dl o := le.f
  show Lk.mk L5.Z L5.r (upd L.F Dl o) = L5
  rw [← e5]
/-- a bigger frame, seen without the private object -/
theorem AS.fmono (A : AccOk K AR) {L L1 : Lk} {r : R α} {N : Hp → Prop} (h : AS K AR Dl L r N) (c : L.fle L1) : AS K AR Dl L1 r N := by
  cases r with
  | ok a G => exact fun L' H' o c1 f1 hr ra => h (L'.frm L.F) H' o ⟨fun p o e => c1.z p o (c.z p o e), fun n x e => c1.r n x (c.r n x e)⟩ rfl (HR.shrink (L := L'.prv Dl o) hr fun p u e => by
      show upd L'.F Dl o p = some u
      by_cases hp : p = Dl
      · subst hp; rw [upd_same] at e ⊢; exact e
      · rw [upd_ne hp] at e ⊢
        rw [f1]; exact c.f p u e) (A.mono L' (L'.frm L.F) _ _ ⟨fun _ _ z => z, fun _ _ z => z⟩ ra)
  | ex x G => exact h
  | no => exact h
theorem prv_cle {L L5 : Lk} {o : HO} (le : (L.prv Dl o).le L5) : L.cle (L5.frm L.F) := ⟨le.z, le.r⟩
theorem lp_imp (A : AccOk K AR) {g : FG} {t : FT} {f : FM1 α} {deep : TM} {ct : Ct} {δ : DEnv} {σ : St} {L : Lk} {G : GH} {H : Hp} {a : α} {o : HO} {N : Hp → Prop} {it : Its} {J : It} (hg : ct.g = tGt K ct.vs g) (ht : ct.tt = tG K noW repB t) (hdp : DeepR K AR Dl f deep)
    (hF : L.F Dl = none) (hr : HR K (L.prv Dl o) G H) (er : ER K L δ σ) (ra : AR L a o) (sv : Srv K J L it.items it.chk) (hk : it.chk G = true) (q : AS K AR Dl L (cmL it.chk g t f (wipeD δ ct.vs) it.items a G) N) : tLp ct deep J σ H N := by
  generalize hδ : wipeD δ ct.vs = δw at q
  have erw : ∀ L', L.cle L' → ER K L' δw (wipe σ ct.vs) := fun L' c => by
    have e0 : ER K L' δ σ := ⟨er.1, fun i d e => let ⟨v, a, b⟩ := er.2 i d e; ⟨v, a, Rep.mono (a := L) (b := L'.frm L.F) ⟨c.z, c.r, rfl⟩ b⟩⟩
    rw [← hδ]
    exact e0.wipe _
  refine ⟨fun i n H => n = it.items.length - i ∧ i ≤ it.items.length ∧ ∃ L' G' a o, L.cle L' ∧ L'.F = L.F ∧ HR K (L'.prv Dl o) G' H ∧ AR L' a o ∧ it.chk G' = true ∧ AS K AR Dl L' (cmL it.chk g t f δw (it.items.drop i) a G') N,
    ⟨_, rfl, Nat.zero_le _, L, G, a, o, .refl _, rfl, hr, ra, hk, by rw [List.drop_zero]; exact q⟩, ?_⟩
  rintro i n H2 ⟨rfl, hi2, L2, G2, a2, o2, c2, f2, hr2, ra2, hk2, q2⟩
  have c2' : L.sle (L2.prv Dl o2) := ⟨c2.z, c2.r, fun p od u e => by
    have hp : p ≠ Dl := fun z => by rw [z, hF] at e; cases e
    show upd L2.F Dl _ p = _
    rw [upd_ne hp, f2]; exact e⟩
  by_cases hlt : i < it.items.length
  · have ed : it.items[i]? = some it.items[i] := by simp [hlt]
    obtain ⟨hgo, hy⟩ := sv.go _ G2 H2 i _ c2' hr2 hk2 ed
    refine .inr ⟨hgo, fun H3 => ∃ L' G' a o, L.cle L' ∧ L'.F = L.F ∧ HR K (L'.prv Dl o) G' H3 ∧ AR L' a o ∧ it.chk G' = true ∧ AS K AR Dl L' (cmL it.chk g t f δw (it.items.drop (i + 1)) a G') N,
      fun H3 n => ⟨it.items.length - (i + 1), by omega, rfl, hlt, n⟩, fun x H3 yd => ?_⟩
    obtain ⟨L3, le3, hr3, rd⟩ := hy x H3 yd
    rw [List.drop_eq_getElem_cons hlt] at q2
    unfold cmL at q2
    rw [hg, ht]
    refine ⟨L3, it.items[i], δw, G2, hr3, erw L3 (c2'.c.trans le3.c), rd, ?_⟩
    cases e1 : g it.items[i] δw G2 with
    | nx δ4 G4 =>
      rw [e1] at q2
      dsimp only at q2
      intro L4 σ4 H4 le4 hr4 er4 w4
      refine ⟨w4.trans (wipe_wipe _ _), ?_⟩
      have le34 := le3.trans le4
      refine ⟨L4, δ4, G4, hr4, er4, ?_⟩
      cases e3 : t δ4 G4 with
      | ex x G5 => rw [e3] at q2; exact q2.elim
      | no => rw [e3] at q2; exact q2.elim
      | ok b G5 =>
        rw [e3] at q2
        intro L5 H5 b' le5 hr5 rb
        have rb' : b = b' := rb
        subst rb'
        have le35 := le34.trans le5
        have q3 : AS K AR Dl L2 (if b = true then (f δ4 G5 a2).nox.bind fun acc' G3 => (if it.chk G3 = true then cmL it.chk g t f δw (it.items.drop (i + 1)) acc' G3 else .no) else (if it.chk G5 = true then cmL it.chk g t f δw (it.items.drop (i + 1)) a2 G5 else .no)) N := q2
        have hr5' : HR K ((L5.frm L2.F).prv Dl o2) G5 H5 := by rw [prv_frm le35]; exact hr5
        have c5 : L2.cle (L5.frm L2.F) := prv_cle le35
        cases b with
        | false =>
          rw [if_neg Bool.false_ne_true] at q3 ⊢
          by_cases hk5 : it.chk G5 = true
          · rw [if_pos hk5] at q3
            exact ⟨L5.frm L2.F, G5, a2, o2, c2.trans c5, f2, hr5', A.mono _ _ _ _ c5 ra2, hk5, q3.mono c5 rfl⟩
          · rw [if_neg hk5] at q3; exact q3.elim
        | true =>
          rw [if_pos rfl] at q3 ⊢
          have er5 : ER K (L5.frm L2.F) δ4 σ4 := (er4.mono le5 : ER K L5 δ4 σ4)
          refine hdp (L5.frm L2.F) G5 H5 δ4 σ4 a2 o2 _ (by show L2.F Dl = none; rw [f2]; exact hF) hr5' er5 (A.mono _ _ _ _ c5 ra2) ?_
          cases e6 : f δ4 G5 a2 with
          | ex x G6 => rw [e6] at q3; exact q3.elim
          | no => rw [e6] at q3; exact q3.elim
          | ok a6 G6 =>
            rw [e6] at q3
            have q4 : AS K AR Dl L2 (if it.chk G6 = true then cmL it.chk g t f δw (it.items.drop (i + 1)) a6 G6 else .no) N := q3
            intro L6 H6 o6 c6 f6 hr6 ra6
            by_cases hk6 : it.chk G6 = true
            · rw [if_pos hk6] at q4
              exact ⟨L6, G6, a6, o6, (c2.trans c5).trans c6, f6.trans f2, hr6, ra6, hk6, q4.mono (c5.trans c6) f6⟩
            · rw [if_neg hk6] at q4; exact q4.elim
    | _ => rw [e1] at q2; exact q2.elim
  · refine .inl ⟨sv.stop _ G2 H2 i c2' hr2 hk2 (by omega), ?_⟩
    rw [List.drop_eq_nil_of_le (by omega)] at q2
    exact q2 L2 H2 o2 (.refl _) rfl hr2 ra2
/-- a part told by data -/
def ctD (K : PySem.W.Frag) (W : WX) (c : Cl) (cd : CD) : Ct := ⟨c, tI K W cd.fi, tGt K cd.vs cd.g, tG K noW repB cd.t, cd.vs⟩
theorem deep_imp (A : AccOk K AR) {em : FM1 α} {emT : TM} (h : DeepR K AR Dl em emT) : ∀ (cs : List (Cl × CD)), DeepR K AR Dl (cmD em (cs.map (·.2))) (tDp emT (cs.map fun c => ctD K noW c.1 c.2))
  | [] => h
  | (c, cd) :: cs => by
    have ih := deep_imp A h cs
    intro L G H δ σ a o N hF hr er ra q
    have q : AS K AR Dl L ((cd.fi δ G).nox.bind fun it G1 => if it.chk G1 = true then cmL it.chk cd.g cd.t (cmD em (cs.map (·.2))) (wipeD δ cd.vs) it.items a G1 else .no) N := q
    refine ⟨L.prv Dl o, δ, G, hr, er, ?_⟩
    cases e1 : cd.fi δ G with
    | ex x G1 => rw [e1] at q; exact q.elim
    | no => rw [e1] at q; exact q.elim
    | ok it G1 =>
      rw [e1] at q
      have q1 : AS K AR Dl L (if it.chk G1 = true then cmL it.chk cd.g cd.t (cmD em (cs.map (·.2))) (wipeD δ cd.vs) it.items a G1 else .no) N := q
      intro L' H' J le hr' sv
      by_cases hk : it.chk G1 = true
      · rw [if_pos hk] at q1
        have eF : L'.F Dl = some o := le.f Dl o (by show upd L.F Dl o Dl = some o; rw [upd_same])
        have eL : (L'.frm fun b => if b = Dl then none else L'.F b).prv Dl o = L' := by
          show Lk.mk L'.Z L'.r (upd (fun b => if b = Dl then none else L'.F b) Dl o) = L'
          rw [upd_out eF]
        have hr2 : HR K ((L'.frm fun b => if b = Dl then none else L'.F b).prv Dl o) G1 H' := by rw [eL]; exact hr'
        have c2 : L.fle (L'.frm fun b => if b = Dl then none else L'.F b) := ⟨le.z, le.r, fun p u e => by
          have hp : p ≠ Dl := fun z => by rw [z, hF] at e; cases e
          show (if p = Dl then none else L'.F p) = some u
          rw [if_neg hp]
          exact le.f p u (by show upd L.F Dl o p = some u; rw [upd_ne hp]; exact e)⟩
        have sv2 : Srv K J (L'.frm fun b => if b = Dl then none else L'.F b) it.items it.chk := by
          have back : ∀ L2 : Lk, (L'.frm fun b => if b = Dl then none else L'.F b).sle L2 → L'.sle L2 := fun L2 c => ⟨c.z, c.r, fun p od u z => by
            by_cases hp : p = Dl
            · subst hp
              rw [eF] at z
              exact absurd (Option.some.inj z) (A.nofrz _ _ _ ra _ _)
            · exact c.f p od u (by show (if p = Dl then none else L'.F p) = _; rw [if_neg hp]; exact z)⟩
          exact ⟨fun L2 G H i d c => sv.go L2 G H i d (back L2 c), fun L2 G H i c => sv.stop L2 G H i (back L2 c)⟩
        exact lp_imp A (ct := ctD K noW c cd) rfl rfl ih (if_pos rfl) hr2 (er.fmono c2) (A.mono _ _ _ _ c2.c ra) sv2 hk (q1.fmono A c2)
      · rw [if_neg hk] at q1; exact q1.elim
/-- what is handed back; cv: what is done with it at once (sorted(..), len(..)) -/
def MkA (K : PySem.W.Frag) (AR : Addr → Lk → α → HO → Prop) (mk : α → GH → R D) (cv : VK → VK) : Prop := ∀ (L : Lk) (G : GH) (H : Hp) (a : α) (o : HO) (p : Addr) (W : WX) (σ : St) (Q : VK), HR K L G H → AR p L a o → H p = none → Sat K W L σ (repD K) (mk a G) Q → cv Q (.ref p) (upd H p o)
theorem cm_imp {AR : Addr → Lk → α → HO → Prop} (A : ∀ q, AccOk K (AR q)) {mk : α → GH → R D} {cv : VK → VK} {a0 : α} {o0 : Addr → HO} {em : FM1 α} {emT : Addr → TM} (m : MkA K AR mk cv) (h0 : ∀ (q : Addr) (L : Lk), AR q L a0 (o0 q)) (h : ∀ q, DeepR K (AR q) q em (emT q)) (W : WX) (c : Cl) (cd : CD) (cs : List (Cl × CD)) (σ : St) (H : Hp) (Q : VK)
    (q : tG K W (repD K) (eCm mk a0 em cd (cs.map (·.2))) σ H Q) : tCm (ctD K W c cd) (cs.map fun c => ctD K noW c.1 c.2) o0 emT σ H (cv Q) := by
  obtain ⟨L, δ, G, hr, er, q⟩ := q
  exact iBind (rep' := repD K) (fun _ _ _ _ z => z) hr er q fun L1 G1 H1 it J le hr1 er1 sv q1 => by
    by_cases hk : it.chk G1 = true
    · rw [if_pos hk] at q1
      intro Dl hD
      refine lp_imp (A Dl) (ct := ctD K W c cd) rfl rfl (deep_imp (A Dl) (h Dl) cs) (hr1.ffree hD) (hr1.prv hD) er1 (h0 Dl L1) sv hk ?_
      show AS K (AR Dl) Dl L1 (cmL it.chk cd.g cd.t (cmD em (cs.map (·.2))) (wipeD δ cd.vs) it.items a0 G1) _
      cases e : cmL it.chk cd.g cd.t (cmD em (cs.map (·.2))) (wipeD δ cd.vs) it.items a0 G1 with
      | ex x G2 => rw [e] at q1; exact q1.elim
      | no => rw [e] at q1; exact q1.elim
      | ok a G2 =>
        rw [e] at q1
        intro L2 H2 o c2 f2 hr2 ra
        have nf := (A Dl).nofrz _ _ _ ra
        have hF2 : L2.F Dl = none := by rw [f2]; exact hr1.ffree hD
        have out := hr2.prvOut nf hF2
        have fin := m L2 G2 (fun b => if b = Dl then none else H2 b) a o Dl W σ Q out ra (if_pos rfl) (Sat.mono (L := L1) (r := mk a G2) q1 (c2.le f2))
        rw [upd_out hr2.prvH] at fin
        exact fin
    · rw [if_neg hk] at q1; exact q1.elim
end
end
end CF
end
section
set_option maxRecDepth 100000
set_option maxHeartbeats 1000000
/-! The kinds: lists, dicts (one or two for parts). -/
namespace CF
open PySem PySem.Spec PyProof.Rows L2
/-! ### as a value, as what a name is set to -/
section
variable {X : Cx} {ce : Expr} {scope : Scope} {own : List (Str × Nat)} {ct : Ct} {cts : List Ct} {o0 : Addr → HO} {em : Addr → TM} {emit : Value → Env → Sem Unit} {newAcc : Sem Value}
/-- all that a comprehension needs of its parts -/
structure CmOk (X : Cx) (ce : Expr) (scope : Scope) (own : List (Str × Nat)) (ct : Ct) (cts : List Ct) (o0 : Addr → HO) (em : Addr → TM) (emit : Value → Env → Sem Unit) (newAcc : Sem Value) : Prop where
  hc : X.calm = true
  hN : X.N.Nodup
  k : ∀ D : Addr, KOk X.prog X.w ce (ct.c :: cts.map (·.c)) emit (.ref D)
  hi : PI X ct.c.tg ct.c.it ct.wi
  ok : BlkOk X.N X.env.scope scope own
  hv : ct.vs = own.map (·.2)
  ch : Chn (ct :: cts)
  hg : ∀ (s : Shared) (H : Hp) (C : Addr) (cl : List (Str × Addr)) (fp : List Addr), PG (X.blk s H scope (compEnvC scope cl C X.env) fp) ct.c.tg ct.g
  ht : ∀ (s : Shared) (H : Hp) (C : Addr) (cl : List (Str × Addr)) (fp : List Addr), PTs (X.blk s H scope (compEnvC scope cl C X.env) fp) ct.c.ifs ct.tt
  hr : ∀ (s : Shared) (H : Hp) (C : Addr) (cl : List (Str × Addr)) (fp : List Addr), ∀ c ∈ cts, PI (X.blk s H scope (compEnvC scope cl C X.env) fp) c.c.tg c.c.it c.wi ∧ PG (X.blk s H scope (compEnvC scope cl C X.env) fp) c.c.tg c.g ∧ PTs (X.blk s H scope (compEnvC scope cl C X.env) fp) c.c.ifs c.tt
  hem : ∀ (s : Shared) (H : Hp) (C : Addr) (cl : List (Str × Addr)) (fp : List Addr) (D : Addr) (pins : List (Addr × Obj)) (σ : St) (H1 : Hp) (s1 : Shared) (N : Hp → Prop), Inv (X.blk s H scope (compEnvC scope cl C X.env) fp) pins σ H1 s1 → em D σ H1 N →
    wpAny (model X.prog X.w) X.A (emit (.ref D) (compEnvC scope cl C X.env)) (fun _ s' => ∃ H', Inv (X.blk s H scope (compEnvC scope cl C X.env) fp) pins σ H' s' ∧ N H') (fun _ _ => False) s1
  hnew : ∀ (pins : List (Addr × Obj)) (σ : St) (H : Hp) (s : Shared) (Q : Value → Shared → Prop), Inv X pins σ H s → (∀ s', Inv X pins σ (upd H s.heap.objs.size (o0 s.heap.objs.size)) s' → (∀ b o, s.heap.get? b = some o → s'.heap.get? b = some o) → s.heap.objs.size < s'.heap.objs.size → Q (.ref s.heap.objs.size) s') → wpAny (model X.prog X.w) X.A newAcc Q X.xe s
theorem pe_cm (c : CmOk X ce scope own ct cts o0 em emit newAcc) {p : Pos} (he : eval ce X.env = comprehension ce scope X.env p newAcc false (eval ct.c.it X.env)) : PE X ce (tCm ct cts o0 em) := ⟨fun pins s σ H Q I h => by
  rw [he]
  refine cm_core c.hc c.hN I c.k c.hi c.ok c.hv c.ch c.hg c.ht c.hr c.hem (c.hnew pins σ) h fun D C s1 m H1 I1 q hn f => ⟨m, hn, fun h2 sb => ?_⟩
  obtain ⟨g0, g1, g2, g3, g4, g5⟩ := f
  have J := I1.turned (t' := s1.toks) (h' := h2) (fun b o hb e => (sb.2 b hb).trans e) g0 g1 g3 g4 g5
  exact ⟨V.ref D, H1, J, rfl, q⟩⟩
theorem ps_setCm (c : CmOk X ce scope own ct cts o0 em emit newAcc) {i : Nat} {y : Str} {py spos p : Pos} (hy : X.N[i]? = some y) (hyl : X.env.scope.names.lookup y = some .local) (hsw : swapsWith ce (some (.Name y py)) spos.line X.env = pure true)
    (hu : ∀ use, evalThenUse ce X.env use = (do let _ ← comprehension ce scope X.env p newAcc false (eval ct.c.it X.env) (some use))) : PS X (.Assign [.Name y py] ce spos) (tAsg (tCm ct cts o0 em) (gName i)) := ⟨fun pins s σ H D I h => by
  rw [exec_Assign_Name_used _ _ _ _ hsw, hu]
  have h : tCm ct cts o0 em σ H (fun x H1 => gName i x σ H1 D.nx) := h
  refine wpAny_bind (wpAny_standAt (wpAny_bind (wpAny_bind ?_)))
  refine wpAny_mono (cm_core (use := some (assign (.Name y py) X.env)) (Qf := fun _ s2 => L2.SP X pins D .next s2) c.hc c.hN I c.k c.hi c.ok c.hv c.ch c.hg c.ht c.hr c.hem (c.hnew pins σ) h fun L C s1 m H1 I1 q hn f => ?_) (fun _ s2 z => wpAny_pure (wpAny_pure z)) fun _ _ z => z
  obtain ⟨g0, g1, g2, g3, g4, g5⟩ := f
  show wpAny _ _ (assign (.Name y py) X.env (.ref L)) _ _ _
  refine wpAny_assign_Name (store_ok2 (v := V.ref L) I1 c.hN hy (.inl hyl) rfl (fun s2 I2 ⟨a, sb, ha⟩ => ?_) (.inr hyl))
  have hCa : C ≠ a := ha.elim (fun z => by rw [z]; exact g1) fun z e => g4 y a z e.symm
  refine ⟨m, hn.sameBut sb hCa, fun h3 sb3 => ?_⟩
  have J := I2.turned (t' := s2.toks) (h' := h3) (fun b o hb e => (sb3.2 b hb).trans e) g0 g1 g3 g4 g5
  exact ⟨_, H1, J, q⟩⟩
end
/-! ### lists -/
section
variable {P : Program} {w : World}
def emL (elt : Expr) (acc : Value) (env : Env) : Sem Unit := do let _ ← call (.builtin "list.append") [acc, ← eval elt env]
theorem kL1 {elt tg it : Expr} {ifs : List Expr} {scope : Scope} {pos : Pos} (hs : ∀ env x, foldedSetIterable it env x = pure x) (D : Addr) : KOk P w (.ListComp elt [⟨tg, it, ifs, 0⟩] scope pos) [⟨tg, it, ifs⟩] (emL elt) (.ref D) where
  eqn := fun d c rest i env h => match d, h with
    | 0, h => by cases h; rfl
    | d + 1, h => by simp at h
  loop := fun A d i env => ⟨rfl, rfl, rfl⟩
  start := fun A d i env => ⟨rfl, rfl⟩
  cl := rfl
  fold := fun c hc => by simp at hc; subst hc; exact hs
theorem kL2 {elt tg it tg1 it1 : Expr} {ifs ifs1 : List Expr} {scope : Scope} {pos : Pos} (hs : ∀ env x, foldedSetIterable it env x = pure x) (hs1 : ∀ env x, foldedSetIterable it1 env x = pure x) (D : Addr) : KOk P w (.ListComp elt [⟨tg, it, ifs, 0⟩, ⟨tg1, it1, ifs1, 0⟩] scope pos) [⟨tg, it, ifs⟩, ⟨tg1, it1, ifs1⟩] (emL elt) (.ref D) where
  eqn := fun d c rest i env h => match d, h with
    | 0, h => by
      cases h
      unfold turnS deepS
      simp only [bind_assoc, pure_bind]
      rfl
    | 1, h => by cases h; rfl
    | d + 2, h => by simp at h
  loop := fun A d i env => ⟨rfl, rfl, rfl⟩
  start := fun A d i env => ⟨rfl, rfl⟩
  cl := rfl
  fold := fun c hc => by
    simp at hc
    rcases hc with rfl | rfl
    · exact hs
    · exact hs1
end
/-! ### dicts -/
section
variable {P : Program} {w : World}
def emD (kx vx : Expr) (acc : Value) (env : Env) : Sem Unit := do
  let kv ← eval kx env
  let vv ← holding [kv] (eval vx env)
  match acc with
  | .ref d => do
    standAt { kx.pos with endLine := vx.pos.endLine, endCol := vx.pos.endCol }
    holding [kv, vv] (dictSet d kv vv)
  | _ => unsupported "internal:dictcomp"
theorem kD1 {kx vx tg it : Expr} {ifs : List Expr} {scope : Scope} {pos : Pos} (hs : ∀ env x, foldedSetIterable it env x = pure x) (D : Addr) : KOk P w (.DictComp kx vx [⟨tg, it, ifs, 0⟩] scope pos) [⟨tg, it, ifs⟩] (emD kx vx) (.ref D) where
  eqn := fun d c rest i env h => match d, h with
    | 0, h => by cases h; rfl
    | d + 1, h => by simp at h
  loop := fun A d i env => ⟨rfl, rfl, rfl⟩
  start := fun A d i env => ⟨rfl, rfl⟩
  cl := rfl
  fold := fun c hc => by simp at hc; subst hc; exact hs
theorem kD2 {kx vx tg it tg1 it1 : Expr} {ifs ifs1 : List Expr} {scope : Scope} {pos : Pos} (hs : ∀ env x, foldedSetIterable it env x = pure x) (hs1 : ∀ env x, foldedSetIterable it1 env x = pure x) (D : Addr) : KOk P w (.DictComp kx vx [⟨tg, it, ifs, 0⟩, ⟨tg1, it1, ifs1, 0⟩] scope pos) [⟨tg, it, ifs⟩, ⟨tg1, it1, ifs1⟩] (emD kx vx) (.ref D) where
  eqn := fun d c rest i env h => match d, h with
    | 0, h => by
      cases h
      unfold turnS deepS
      simp only [bind_assoc, pure_bind]
      rfl
    | 1, h => by cases h; rfl
    | d + 2, h => by simp at h
  loop := fun A d i env => ⟨rfl, rfl, rfl⟩
  start := fun A d i env => ⟨rfl, rfl⟩
  cl := rfl
  fold := fun c hc => by
    simp at hc
    rcases hc with rfl | rfl
    · exact hs
    · exact hs1
end
end CF
end
section
set_option maxRecDepth 100000
set_option maxHeartbeats 1000000
/-! List and dict comprehensions at the data level. -/
namespace CF
open PySem PySem.Spec PyProof.Rows L2
/-! ### what is gathered: a list -/
def arL (K : PySem.W.Frag) (_ : Addr) (L : Lk) (a : List D) (o : HO) : Prop := ∃ av, o = .lst av ∧ Reps K L.Z L.r a av
def emLd (f : FE) : FM1 (List D) := fun δ G acc => (f δ G).nox.bind fun y G1 => if acc.length < sizeLine then .ok (acc ++ [y]) G1 else .no
def emLT (te : TE) (q : Addr) : TM := fun σ H N => te σ H fun y H1 => ∃ acc, H1 q = some (.lst acc) ∧ acc.length < sizeLine ∧ N (upd H1 q (.lst (acc ++ [y])))
/-! .. a dict -/
def arK (K : PySem.W.Frag) (_ : Addr) (L : Lk) (a : List (Key × D)) (o : HO) : Prop := ∃ av, o = .dK av ∧ KR K L.Z L.r a av
def emKd (fk fv : FE) : FM1 (List (Key × D)) := fun δ G acc => (fk δ G).nox.bind fun x G1 => (fv δ G1).nox.bind fun y G2 => match keyD x with
  | some k => if acc.length < sizeLine then .ok (putD acc k y) G2 else .no
  | none => .no
def emKT (tk tv : TE) (q : Addr) : TM := fun σ H N => tk σ H fun x H1 => tv σ H1 fun y H2 => ∃ kvs k, x = kV k ∧ H2 q = some (.dK kvs) ∧ kvs.length < sizeLine ∧ N (upd H2 q (.dK (putK kvs k y)))
section
variable {K : PySem.W.Frag}
theorem KR.len {Z : Hp} {r : List Addr} {κ : Type} {a : List (κ × D)} {b : List (κ × V)} (h : KR K Z r a b) : a.length = b.length := by
  induction h with
  | nil => rfl
  | cons _ _ ih => simp [ih]
theorem KR.cm {κ : Type} {L L' : Lk} (c : L.cle L') {a : List (κ × D)} {b : List (κ × V)} (h : KR K L.Z L.r a b) : KR K L'.Z L'.r a b := by
  induction h with
  | nil => exact .nil
  | cons r _ ih => exact .cons (Rep.cmono c r) ih
theorem accL (q : Addr) : AccOk K (arL K q) := ⟨fun L L' a o c ⟨av, e, r⟩ => ⟨av, e, Reps.cmono c r⟩, fun L a o ⟨av, e, r⟩ od w z => by subst e; cases z⟩
theorem accK (q : Addr) : AccOk K (arK K q) := ⟨fun L L' a o c ⟨av, e, r⟩ => ⟨av, e, KR.cm c r⟩, fun L a o ⟨av, e, r⟩ od w z => by subst e; cases z⟩
theorem deepL (f : FE) (q : Addr) : DeepR K (arL K q) q (emLd f) (emLT (tG K noW (repD K) f) q) := by
  intro L G H δ σ a o N _ hr er ⟨av, eo, ra⟩ h
  subst eo
  have h : AS K (arL K q) q L ((f δ G).nox.bind fun y G1 => if a.length < sizeLine then .ok (a ++ [y]) G1 else .no) N := h
  refine ⟨L.prv q (.lst av), δ, G, hr, er, ?_⟩
  cases e : f δ G with
  | ex x G1 => rw [e] at h; exact h.elim
  | no => rw [e] at h; exact h.elim
  | ok y G1 =>
    rw [e] at h
    have h : AS K (arL K q) q L (if a.length < sizeLine then .ok (a ++ [y]) G1 else .no) N := h
    intro L1 H1 v le hr1 ry
    by_cases hl : a.length < sizeLine
    · rw [if_pos hl] at h
      have hr2 : HR K ((L1.frm L.F).prv q (.lst av)) G1 H1 := by rw [prv_frm le]; exact hr1
      have c2 : L.cle (L1.frm L.F) := prv_cle le
      exact ⟨av, hr2.prvH, by rw [← ra.length]; exact hl, h (L1.frm L.F) _ _ c2 rfl (hr2.prvSet fun od w z => by cases z) ⟨_, rfl, (Reps.cmono c2 ra).append (.cons ry .nil)⟩⟩
    · rw [if_neg hl] at h; exact h.elim
theorem deepK (fk fv : FE) (q : Addr) : DeepR K (arK K q) q (emKd fk fv) (emKT (tG K noW (repD K) fk) (tG K noW (repD K) fv) q) := by
  intro L G H δ σ a o N _ hr er ⟨av, eo, ra⟩ h
  subst eo
  have h : AS K (arK K q) q L ((fk δ G).nox.bind fun x G1 => (fv δ G1).nox.bind fun y G2 => match keyD x with | some k => if a.length < sizeLine then .ok (putD a k y) G2 else .no | none => .no) N := h
  refine ⟨L.prv q (.dK av), δ, G, hr, er, ?_⟩
  cases e : fk δ G with
  | ex x G1 => rw [e] at h; exact h.elim
  | no => rw [e] at h; exact h.elim
  | ok x G1 =>
    rw [e] at h
    have h : AS K (arK K q) q L ((fv δ G1).nox.bind fun y G2 => match keyD x with | some k => if a.length < sizeLine then .ok (putD a k y) G2 else .no | none => .no) N := h
    intro L1 H1 v le hr1 rx
    refine ⟨L1, δ, G1, hr1, (show ER K (L.prv q (.dK av)) δ σ from er).mono le, ?_⟩
    cases e2 : fv δ G1 with
    | ex x G1 => rw [e2] at h; exact h.elim
    | no => rw [e2] at h; exact h.elim
    | ok y G2 =>
      rw [e2] at h
      have h : AS K (arK K q) q L (match keyD x with | some k => if a.length < sizeLine then .ok (putD a k y) G2 else .no | none => .no) N := h
      intro L2 H2 u le2 hr2 ry
      cases ek : keyD x with
      | none => rw [ek] at h; exact h.elim
      | some k =>
        rw [ek] at h
        have h : AS K (arK K q) q L (if a.length < sizeLine then .ok (putD a k y) G2 else .no) N := h
        by_cases hl : a.length < sizeLine
        · rw [if_pos hl] at h
          have le12 := le.trans le2
          have hr3 : HR K ((L2.frm L.F).prv q (.dK av)) G2 H2 := by rw [prv_frm le12]; exact hr2
          have c2 : L.cle (L2.frm L.F) := prv_cle le12
          exact ⟨av, k, keyD_rep rx ek, hr3.prvH, by rw [← ra.len]; exact hl, h (L2.frm L.F) _ _ c2 rfl (hr3.prvSet fun od w z => by cases z) ⟨_, rfl, (KR.cm c2 ra).put k ry⟩⟩
        · rw [if_neg hl] at h; exact h.elim
end
section
variable {X : Cx}
/-- the item's own work, in the model -/
theorem em_list {elt : Expr} {te : TE} {q : Addr} {pins : List (Addr × Obj)} {σ : St} {H : Hp} {s : Shared} {N : Hp → Prop} (hE : X.xe = fun _ _ => False) (he : PE X elt te) (I : Inv X pins σ H s) (h : emLT te q σ H N) :
    wpAny (model X.prog X.w) X.A (emL elt (.ref q) X.env) (fun _ s' => ∃ H', Inv X pins σ H' s' ∧ N H') (fun _ _ => False) s := by
  have r := he.run pins s σ H _ I h
  rw [hE] at r
  unfold emL
  refine wpAny_bind (thnO r fun u s1 ⟨v, H1, I1, rv, acc, ha, hl, n⟩ => ?_)
  refine wpAny_bind (app_ok I1 ha hl rv fun s2 I2 => ?_)
  exact wpAny_pure ⟨_, I2, n⟩
theorem em_dict {kx vx : Expr} {tk tv : TE} {q : Addr} {pins : List (Addr × Obj)} {σ : St} {H : Hp} {s : Shared} {N : Hp → Prop} (hE : X.xe = fun _ _ => False) (hk : PE X kx tk) (he : PE X vx tv) (I : Inv X pins σ H s) (h : emKT tk tv q σ H N) :
    wpAny (model X.prog X.w) X.A (emD kx vx (.ref q) X.env) (fun _ s' => ∃ H', Inv X pins σ H' s' ∧ N H') (fun _ _ => False) s := by
  have r := hk.run pins s σ H _ I h
  rw [hE] at r
  unfold emD
  refine wpAny_bind (thnO r fun u s1 ⟨x, H1, I1, rx, h1⟩ => ?_)
  have r1 := he.run pins s1 σ H1 _ I1 h1
  rw [hE] at r1
  refine wpAny_bind (wpAny_holding (thnO r1 fun u2 s2 ⟨y, H2, I2, ry, kvs, k, ek, hq, hl, n⟩ => ?_))
  subst ek
  exact wpAny_bind (wpAny_standAt (wpAny_holding (d_dictSet I2 hq hl rx ry fun s3 I3 => ⟨_, I3, n⟩)))
theorem new_list (pins : List (Addr × Obj)) (σ : St) (H : Hp) (s : Shared) (Q : Value → Shared → Prop) (I : Inv X pins σ H s) (h : ∀ s', Inv X pins σ (upd H s.heap.objs.size (.lst [])) s' → (∀ b o, s.heap.get? b = some o → s'.heap.get? b = some o) → s.heap.objs.size < s'.heap.objs.size → Q (.ref s.heap.objs.size) s') :
    wpAny (model X.prog X.w) X.A (newList []) Q X.xe s := by
  have kp : ∀ b o, s.heap.get? b = some o → (s.heap.push { cls := .type "list", data := .seq ([] : List Value).toArray }).get? b = some o := fun b o e => Heap.get?_push_of_some _ e
  refine wpAny_newObj_type (h _ (I.laid (t' := s.toks) kp (Nat.le_refl _) ⟨Nat.zero_le _, [], 0, .nil, Heap.get?_push_size _ rfl⟩) kp ?_) (by show 0 ≤ sizeLine; decide)
  rw [Heap.size_push]
  exact Nat.lt_succ_self _
theorem new_dict (pins : List (Addr × Obj)) (σ : St) (H : Hp) (s : Shared) (Q : Value → Shared → Prop) (I : Inv X pins σ H s) (h : ∀ s', Inv X pins σ (upd H s.heap.objs.size (.dK [])) s' → (∀ b o, s.heap.get? b = some o → s'.heap.get? b = some o) → s.heap.objs.size < s'.heap.objs.size → Q (.ref s.heap.objs.size) s') :
    wpAny (model X.prog X.w) X.A newDict Q X.xe s := by
  have kp : ∀ b o, s.heap.get? b = some o → (s.heap.push { cls := .type "dict", data := .dict #[] }).get? b = some o := fun b o e => Heap.get?_push_of_some _ e
  refine wpAny_newObj_type (h _ (I.laid (t' := s.toks) kp (Nat.le_refl _) (dk_empty s.heap I.big)) kp ?_)
  rw [Heap.size_push]
  exact Nat.lt_succ_self _
end
/-! ### the rules -/
section
variable {X : Cx} {W : WX} {pos : Pos} {scope : Scope} {own : List (Str × Nat)} {elt kx vx tg iter tg1 iter1 : Expr} {ifs ifs1 : List Expr} {fi fi1 : FI} {g g1 : FG} {t t1 : FT} {f fk fv : FE} {vs1 : List Nat}
abbrev BX (X : Cx) (scope : Scope) (p : Cx → Prop) : Prop := ∀ (s : Shared) (H : Hp) (C : Addr) (cl : List (Str × Addr)) (fp : List Addr), p (X.blk s H scope (compEnvC scope cl C X.env) fp)
theorem cmL2 (hc : X.calm = true) (hN : X.N.Nodup) (hi : xI X W tg iter fi) (ok : BlkOk X.N X.env.scope scope own) (hv : ∀ i ∈ vs1, i ∈ own.map (·.2)) (hg : BX X scope fun Y => xG Y (own.map (·.2)) tg g) (ht : BX X scope fun Y => xTs Y ifs t)
    (hi1 : BX X scope fun Y => xI Y noW tg1 iter1 fi1) (hg1 : BX X scope fun Y => xG Y vs1 tg1 g1) (ht1 : BX X scope fun Y => xTs Y ifs1 t1) (he : BX X scope fun Y => xE Y noW elt f) (hs : ∀ env x, foldedSetIterable iter env x = pure x) (hs1 : ∀ env x, foldedSetIterable iter1 env x = pure x) :
    CmOk X (.ListComp elt [⟨tg, iter, ifs, 0⟩, ⟨tg1, iter1, ifs1, 0⟩] scope pos) scope own (ctD X.K W ⟨tg, iter, ifs⟩ ⟨fi, g, t, own.map (·.2)⟩) [ctD X.K noW ⟨tg1, iter1, ifs1⟩ ⟨fi1, g1, t1, vs1⟩] (fun _ => .lst []) (emLT (tG X.K noW (repD X.K) f)) (emL elt) (newList []) where
  hc := hc
  hN := hN
  k := kL2 hs hs1
  hi := hi
  ok := ok
  hv := rfl
  ch := ⟨hv, ⟨(by intro i h; cases h), True.intro⟩⟩
  hg := hg
  ht := ht
  hr := fun s H C cl fp c hc => by
    simp at hc
    subst hc
    exact ⟨hi1 s H C cl fp, hg1 s H C cl fp, ht1 s H C cl fp⟩
  hem := fun s H C cl fp D pins σ H1 s1 N I h => em_list rfl (he s H C cl fp) I h
  hnew := new_list
theorem cmD1 (hc : X.calm = true) (hN : X.N.Nodup) (hi : xI X W tg iter fi) (ok : BlkOk X.N X.env.scope scope own) (hg : BX X scope fun Y => xG Y (own.map (·.2)) tg g) (ht : BX X scope fun Y => xTs Y ifs t)
    (hk : BX X scope fun Y => xE Y noW kx fk) (he : BX X scope fun Y => xE Y noW vx fv) (hs : ∀ env x, foldedSetIterable iter env x = pure x) :
    CmOk X (.DictComp kx vx [⟨tg, iter, ifs, 0⟩] scope pos) scope own (ctD X.K W ⟨tg, iter, ifs⟩ ⟨fi, g, t, own.map (·.2)⟩) [] (fun _ => .dK []) (emKT (tG X.K noW (repD X.K) fk) (tG X.K noW (repD X.K) fv)) (emD kx vx) newDict where
  hc := hc
  hN := hN
  k := kD1 hs
  hi := hi
  ok := ok
  hv := rfl
  ch := ⟨(by intro i h; cases h), True.intro⟩
  hg := hg
  ht := ht
  hr := fun s H C cl fp c hc => nomatch hc
  hem := fun s H C cl fp D pins σ H1 s1 N I h => em_dict rfl (hk s H C cl fp) (he s H C cl fp) I h
  hnew := new_dict
theorem cmD2 (hc : X.calm = true) (hN : X.N.Nodup) (hi : xI X W tg iter fi) (ok : BlkOk X.N X.env.scope scope own) (hv : ∀ i ∈ vs1, i ∈ own.map (·.2)) (hg : BX X scope fun Y => xG Y (own.map (·.2)) tg g) (ht : BX X scope fun Y => xTs Y ifs t)
    (hi1 : BX X scope fun Y => xI Y noW tg1 iter1 fi1) (hg1 : BX X scope fun Y => xG Y vs1 tg1 g1) (ht1 : BX X scope fun Y => xTs Y ifs1 t1) (hk : BX X scope fun Y => xE Y noW kx fk) (he : BX X scope fun Y => xE Y noW vx fv) (hs : ∀ env x, foldedSetIterable iter env x = pure x) (hs1 : ∀ env x, foldedSetIterable iter1 env x = pure x) :
    CmOk X (.DictComp kx vx [⟨tg, iter, ifs, 0⟩, ⟨tg1, iter1, ifs1, 0⟩] scope pos) scope own (ctD X.K W ⟨tg, iter, ifs⟩ ⟨fi, g, t, own.map (·.2)⟩) [ctD X.K noW ⟨tg1, iter1, ifs1⟩ ⟨fi1, g1, t1, vs1⟩] (fun _ => .dK []) (emKT (tG X.K noW (repD X.K) fk) (tG X.K noW (repD X.K) fv)) (emD kx vx) newDict where
  hc := hc
  hN := hN
  k := kD2 hs hs1
  hi := hi
  ok := ok
  hv := rfl
  ch := ⟨hv, ⟨(by intro i h; cases h), True.intro⟩⟩
  hg := hg
  ht := ht
  hr := fun s H C cl fp c hc => by
    simp at hc
    subst hc
    exact ⟨hi1 s H C cl fp, hg1 s H C cl fp, ht1 s H C cl fp⟩
  hem := fun s H C cl fp D pins σ H1 s1 N I h => em_dict rfl (hk s H C cl fp) (he s H C cl fp) I h
  hnew := new_dict
variable {mk : List D → GH → R D} {mkd : List (Key × D) → GH → R D}
theorem mkaL (m : Mk mk) : MkA X.K (arL X.K) mk id := fun L G H a o p W σ Q hr ⟨av, eo, ra⟩ hp q => by subst eo; exact m X.K L G H a av p W σ Q hr ra hp q
theorem mkaK (m : MkK mkd) : MkA X.K (arK X.K) mkd id := fun L G H a o p W σ Q hr ⟨av, eo, ra⟩ hp q => by subst eo; exact m X.K L G H a av p W σ Q hr ra hp q
theorem impL2 (m : Mk mk) (c1 c2 : Cl) (d1 d2 : CD) (σ : St) (H : Hp) (Q : VK) (q : tG X.K W (repD X.K) (eCm mk [] (emLd f) d1 [d2]) σ H Q) : tCm (ctD X.K W c1 d1) [ctD X.K noW c2 d2] (fun _ => .lst []) (emLT (tG X.K noW (repD X.K) f)) σ H Q :=
  cm_imp (cs := [(c2, d2)]) accL (mkaL m) (fun q L => ⟨[], rfl, .nil⟩) (deepL f) W c1 d1 σ H Q q
theorem impD1 (m : MkK mkd) (c1 : Cl) (d1 : CD) (σ : St) (H : Hp) (Q : VK) (q : tG X.K W (repD X.K) (eCm mkd [] (emKd fk fv) d1 []) σ H Q) : tCm (ctD X.K W c1 d1) [] (fun _ => .dK []) (emKT (tG X.K noW (repD X.K) fk) (tG X.K noW (repD X.K) fv)) σ H Q :=
  cm_imp (cs := []) accK (mkaK m) (fun q L => ⟨[], rfl, .nil⟩) (deepK fk fv) W c1 d1 σ H Q q
theorem impD2 (m : MkK mkd) (c1 c2 : Cl) (d1 d2 : CD) (σ : St) (H : Hp) (Q : VK) (q : tG X.K W (repD X.K) (eCm mkd [] (emKd fk fv) d1 [d2]) σ H Q) : tCm (ctD X.K W c1 d1) [ctD X.K noW c2 d2] (fun _ => .dK []) (emKT (tG X.K noW (repD X.K) fk) (tG X.K noW (repD X.K) fv)) σ H Q :=
  cm_imp (cs := [(c2, d2)]) accK (mkaK m) (fun q L => ⟨[], rfl, .nil⟩) (deepK fk fv) W c1 d1 σ H Q q
theorem xe_lc2 (m : Mk mk) (hc : X.calm = true) (hN : X.N.Nodup) (hi : xI X W tg iter fi) (ok : BlkOk X.N X.env.scope scope own) (hv : ∀ i ∈ vs1, i ∈ own.map (·.2)) (hg : BX X scope fun Y => xG Y (own.map (·.2)) tg g) (ht : BX X scope fun Y => xTs Y ifs t)
    (hi1 : BX X scope fun Y => xI Y noW tg1 iter1 fi1) (hg1 : BX X scope fun Y => xG Y vs1 tg1 g1) (ht1 : BX X scope fun Y => xTs Y ifs1 t1) (he : BX X scope fun Y => xE Y noW elt f) (hs : ∀ env x, foldedSetIterable iter env x = pure x := by intro _ _; rfl) (hs1 : ∀ env x, foldedSetIterable iter1 env x = pure x := by intro _ _; rfl) :
    xE X W (.ListComp elt [⟨tg, iter, ifs, 0⟩, ⟨tg1, iter1, ifs1, 0⟩] scope pos) (eCm mk [] (emLd f) ⟨fi, g, t, own.map (·.2)⟩ [⟨fi1, g1, t1, vs1⟩]) :=
  PEimp (pe_cm (cmL2 hc hN hi ok hv hg ht hi1 hg1 ht1 he hs hs1) (by rw [eval_ListComp] <;> rfl)) (impL2 m _ _ _ _)
theorem xe_dc1 (m : MkK mkd) (hc : X.calm = true) (hN : X.N.Nodup) (hi : xI X W tg iter fi) (ok : BlkOk X.N X.env.scope scope own) (hg : BX X scope fun Y => xG Y (own.map (·.2)) tg g) (ht : BX X scope fun Y => xTs Y ifs t)
    (hk : BX X scope fun Y => xE Y noW kx fk) (he : BX X scope fun Y => xE Y noW vx fv) (hs : ∀ env x, foldedSetIterable iter env x = pure x := by intro _ _; rfl) :
    xE X W (.DictComp kx vx [⟨tg, iter, ifs, 0⟩] scope pos) (eCm mkd [] (emKd fk fv) ⟨fi, g, t, own.map (·.2)⟩ []) :=
  PEimp (pe_cm (cmD1 hc hN hi ok hg ht hk he hs) (by rw [arm_eval_DictComp] <;> rfl)) (impD1 m _ _)
theorem xe_dc2 (m : MkK mkd) (hc : X.calm = true) (hN : X.N.Nodup) (hi : xI X W tg iter fi) (ok : BlkOk X.N X.env.scope scope own) (hv : ∀ i ∈ vs1, i ∈ own.map (·.2)) (hg : BX X scope fun Y => xG Y (own.map (·.2)) tg g) (ht : BX X scope fun Y => xTs Y ifs t)
    (hi1 : BX X scope fun Y => xI Y noW tg1 iter1 fi1) (hg1 : BX X scope fun Y => xG Y vs1 tg1 g1) (ht1 : BX X scope fun Y => xTs Y ifs1 t1) (hk : BX X scope fun Y => xE Y noW kx fk) (he : BX X scope fun Y => xE Y noW vx fv) (hs : ∀ env x, foldedSetIterable iter env x = pure x := by intro _ _; rfl) (hs1 : ∀ env x, foldedSetIterable iter1 env x = pure x := by intro _ _; rfl) :
    xE X W (.DictComp kx vx [⟨tg, iter, ifs, 0⟩, ⟨tg1, iter1, ifs1, 0⟩] scope pos) (eCm mkd [] (emKd fk fv) ⟨fi, g, t, own.map (·.2)⟩ [⟨fi1, g1, t1, vs1⟩]) :=
  PEimp (pe_cm (cmD2 hc hN hi ok hv hg ht hi1 hg1 ht1 hk he hs hs1) (by rw [arm_eval_DictComp] <;> rfl)) (impD2 m _ _ _ _)
/-- y = {..} -/
theorem set_imp {K : PySem.W.Frag} {te : TE} {fe : FE} {i : Nat} (imp : ∀ σ H Q, tG K W (repD K) fe σ H Q → te σ H Q) : ∀ E σ H, tS K W (sSet i fe) E σ H → tAsg te (gName i) E σ H := fun E σ H ⟨L, δ, G, hr, er, q⟩ => by
  refine imp σ H _ (Sat.thn hr er q fun L1 G1 H1 d v le hr1 er1 rd q1 => ?_)
  exact q1 L1 _ H1 (.refl _) hr1 (er1.set i rd)
theorem xs_setLc2 {i : Nat} {y : Str} {py spos : Pos} (m : Mk mk) (hc : X.calm = true) (hN : X.N.Nodup) (hy : X.N[i]? = some y) (hyl : X.env.scope.names.lookup y = some .local) (hsw : swapsWith (.ListComp elt [⟨tg, iter, ifs, 0⟩, ⟨tg1, iter1, ifs1, 0⟩] scope pos) (some (.Name y py)) spos.line X.env = pure true) (hi : xI X W tg iter fi) (ok : BlkOk X.N X.env.scope scope own) (hv : ∀ i ∈ vs1, i ∈ own.map (·.2)) (hg : BX X scope fun Y => xG Y (own.map (·.2)) tg g) (ht : BX X scope fun Y => xTs Y ifs t)
    (hi1 : BX X scope fun Y => xI Y noW tg1 iter1 fi1) (hg1 : BX X scope fun Y => xG Y vs1 tg1 g1) (ht1 : BX X scope fun Y => xTs Y ifs1 t1) (he : BX X scope fun Y => xE Y noW elt f) (hs : ∀ env x, foldedSetIterable iter env x = pure x := by intro _ _; rfl) (hs1 : ∀ env x, foldedSetIterable iter1 env x = pure x := by intro _ _; rfl) :
    xS X W (.Assign [.Name y py] (.ListComp elt [⟨tg, iter, ifs, 0⟩, ⟨tg1, iter1, ifs1, 0⟩] scope pos) spos) (sSet i (eCm mk [] (emLd f) ⟨fi, g, t, own.map (·.2)⟩ [⟨fi1, g1, t1, vs1⟩])) :=
  PSimp (ps_setCm (cmL2 hc hN hi ok hv hg ht hi1 hg1 ht1 he hs hs1) hy hyl hsw fun use => rfl) (set_imp (impL2 m _ _ _ _))
theorem xs_setDc1 {i : Nat} {y : Str} {py spos : Pos} (m : MkK mkd) (hc : X.calm = true) (hN : X.N.Nodup) (hy : X.N[i]? = some y) (hyl : X.env.scope.names.lookup y = some .local) (hsw : swapsWith (.DictComp kx vx [⟨tg, iter, ifs, 0⟩] scope pos) (some (.Name y py)) spos.line X.env = pure true) (hi : xI X W tg iter fi) (ok : BlkOk X.N X.env.scope scope own) (hg : BX X scope fun Y => xG Y (own.map (·.2)) tg g) (ht : BX X scope fun Y => xTs Y ifs t)
    (hk : BX X scope fun Y => xE Y noW kx fk) (he : BX X scope fun Y => xE Y noW vx fv) (hs : ∀ env x, foldedSetIterable iter env x = pure x := by intro _ _; rfl) :
    xS X W (.Assign [.Name y py] (.DictComp kx vx [⟨tg, iter, ifs, 0⟩] scope pos) spos) (sSet i (eCm mkd [] (emKd fk fv) ⟨fi, g, t, own.map (·.2)⟩ [])) :=
  PSimp (ps_setCm (cmD1 hc hN hi ok hg ht hk he hs) hy hyl hsw fun use => rfl) (set_imp (impD1 m _ _))
theorem xs_setDc2 {i : Nat} {y : Str} {py spos : Pos} (m : MkK mkd) (hc : X.calm = true) (hN : X.N.Nodup) (hy : X.N[i]? = some y) (hyl : X.env.scope.names.lookup y = some .local) (hsw : swapsWith (.DictComp kx vx [⟨tg, iter, ifs, 0⟩, ⟨tg1, iter1, ifs1, 0⟩] scope pos) (some (.Name y py)) spos.line X.env = pure true) (hi : xI X W tg iter fi) (ok : BlkOk X.N X.env.scope scope own) (hv : ∀ i ∈ vs1, i ∈ own.map (·.2)) (hg : BX X scope fun Y => xG Y (own.map (·.2)) tg g) (ht : BX X scope fun Y => xTs Y ifs t)
    (hi1 : BX X scope fun Y => xI Y noW tg1 iter1 fi1) (hg1 : BX X scope fun Y => xG Y vs1 tg1 g1) (ht1 : BX X scope fun Y => xTs Y ifs1 t1) (hk : BX X scope fun Y => xE Y noW kx fk) (he : BX X scope fun Y => xE Y noW vx fv) (hs : ∀ env x, foldedSetIterable iter env x = pure x := by intro _ _; rfl) (hs1 : ∀ env x, foldedSetIterable iter1 env x = pure x := by intro _ _; rfl) :
    xS X W (.Assign [.Name y py] (.DictComp kx vx [⟨tg, iter, ifs, 0⟩, ⟨tg1, iter1, ifs1, 0⟩] scope pos) spos) (sSet i (eCm mkd [] (emKd fk fv) ⟨fi, g, t, own.map (·.2)⟩ [⟨fi1, g1, t1, vs1⟩])) :=
  PSimp (ps_setCm (cmD2 hc hN hi ok hv hg ht hi1 hg1 ht1 hk he hs hs1) hy hyl hsw fun use => rfl) (set_imp (impD2 m _ _ _ _))
end
end CF
end
section
set_option maxRecDepth 100000
set_option maxHeartbeats 1000000
/-! while; dicts that change; stores by subscript; walks over dicts. -/
namespace CF
open PySem PySem.Spec PyProof.Rows L2
/-! ### while; n: more turns than it ever takes -/
def sWhile (t : FT) (b : FS) : Nat → FS
  | 0 => fun _ _ => .no
  | n + 1 => fun δ G => (t δ G).thn δ fun k G1 => if k then (match b δ G1 with
    | .nx δ2 G2 => sWhile t b n δ2 G2
    | .ct δ2 G2 => sWhile t b n δ2 G2
    | .bk δ2 G2 => .nx δ2 G2
    | .rt d G2 => .rt d G2
    | .ex x δ2 G2 => .ex x δ2 G2
    | .no => .no) else .nx δ G1
section
variable {X : Cx} {W : WX} {pos : Pos}
theorem xs_while (n : Nat) {c : Expr} {body : List Stmt} {t : FT} {fb : FS} (hp : PassesOwn (model X.prog X.w) X.A X.env X.xe) (hc : xT X W c t) (hb : xSs X W body fb) : xS X W (.While c body [] pos) (sWhile t fb n) :=
  PSimp (ps_while hp hc hb) fun E σ H ⟨L, δ, G, hr, er, q⟩ => by
    refine ⟨fun m σ H => ∃ L' δ' G', L.le L' ∧ HR X.K L' G' H ∧ ER X.K L' δ' σ ∧ SatS X.K W L' (sWhile t fb m δ' G') E, ⟨n, L, δ, G, .refl _, hr, er, q⟩, ?_⟩
    rintro m σ2 H2 ⟨L2, δ2, G2, le2, hr2, er2, q2⟩
    cases m with
    | zero => exact q2.elim
    | succ m =>
      refine Sat.thn hr2 er2 q2 fun L3 G3 H3 x v le3 hr3 er3 rx q3 => ?_
      obtain rfl : x = v := rx
      cases x with
      | false =>
        rw [if_neg Bool.false_ne_true] at q3 ⊢
        exact q3 L3 σ2 H3 (.refl _) hr3 er3
      | true =>
        rw [if_pos rfl] at q3 ⊢
        refine ⟨fun σ H => ∃ L' δ' G', L.le L' ∧ HR X.K L' G' H ∧ ER X.K L' δ' σ ∧ SatS X.K W L' (sWhile t fb m δ' G') E, fun σ' H' z => ⟨m, Nat.lt_succ_self _, z⟩, L3, δ2, G3, hr3, er3, ?_⟩
        have le23 := le2.trans le3
        cases e : fb δ2 G3 with
        | nx δ4 G4 => rw [e] at q3; exact fun L4 σ4 H4 le4 hr4 er4 => ⟨L4, δ4, G4, le23.trans le4, hr4, er4, SatS.mono (L := L3) (r := sWhile t fb m δ4 G4) q3 le4⟩
        | ct δ4 G4 => rw [e] at q3; exact fun L4 σ4 H4 le4 hr4 er4 => ⟨L4, δ4, G4, le23.trans le4, hr4, er4, SatS.mono (L := L3) (r := sWhile t fb m δ4 G4) q3 le4⟩
        | bk δ4 G4 => rw [e] at q3; exact q3
        | rt d G4 => rw [e] at q3; exact q3
        | ex x δ4 G4 => rw [e] at q3; exact q3
        | no => rw [e] at q3; exact q3
end
/-! ### dicts that change -/
def celD (G : GH) : D → Option (Nat × List (Key × D))
  | .ref n => match G[n]? with
    | some (.dK kvs) => some (n, kvs)
    | _ => none
  | _ => none
@[simp] theorem celD_ref (G : GH) (n : Nat) : celD G (.ref n) = match G[n]? with | some (.dK kvs) => some (n, kvs) | _ => none := rfl
section
variable {K : PySem.W.Frag} {L : Lk} {G : GH} {H : Hp} {v : V}
theorem celD_rep (hr : HR K L G H) {d : D} (h : Rep K L.Z L.r d v) {n : Nat} {xs : List (Key × D)} (e : celD G d = some (n, xs)) : ∃ a vs, v = .ref a ∧ L.r[n]? = some a ∧ H a = some (.dK vs) ∧ KR K L.Z L.r xs vs := by
  cases h with
  | @ref m a q =>
    have e' : (match G[m]? with | some (.dK xs) => some (m, xs) | _ => none) = some (n, xs) := e
    cases k : G[m]? with
    | none => rw [k] at e'; cases e'
    | some c =>
      rw [k] at e'
      cases c with
      | dK ys =>
        cases e'
        have c := hr.cell _ a _ q k
        cases c with
        | dK h k t => exact ⟨a, _, rfl, q, h, .of k t⟩
      | _ => cases e'
  | _ => cases e
theorem HR.setD (hr : HR K L G H) {n : Nat} {a : Addr} {ys : List (Key × D)} {us : List (Key × V)} (q : L.r[n]? = some a) (t : KR K L.Z L.r ys us) : HR K L (G.set n (.dK ys)) (upd H a (.dK us)) := hr.set q (.dK upd_same t.to.1 t.to.2)
end
/-- o[i] = d -/
def putO (G : GH) (o i d : D) : Option GH := match celL G o with
  | some (n, xs) => (match i with
    | .int z => (ixN xs.length z).map fun j => G.set n (.lst (xs.set j d))
    | _ => none)
  | none => match celD G o, keyD i with
    | some (n, kvs), some k => if kvs.length < sizeLine then some (G.set n (.dK (putD kvs k d))) else none
    | _, _ => none
def rSetD : V → V → V → Hp → (Hp → Prop) → Prop := fun o i v H Q => ∃ a H', o = .ref a ∧ DPut H a i v H' ∧ Q H'
def rSetA : V → V → V → Hp → (Hp → Prop) → Prop := fun o i v H Q => rSetL o i v H Q ∨ rSetD o i v H Q
theorem set_any {X : Cx} (hu : X.A.units + 1 < cLine) : PSet X rSetA := by
  intro pins s σ H o i v ov iv u Q I ro ri rv h
  rcases h with h | ⟨a, H', e, g, q⟩
  · exact set_list pins s σ H o i v ov iv u Q I ro ri rv h
  · subst e
    cases ro
    exact d_setItem hu I g ri rv fun s' I' => ⟨H', I', q⟩
theorem putO_rep {K : PySem.W.Frag} {L : Lk} {G G2 : GH} {H : Hp} {o i d : D} {u w v : V} (hr : HR K L G H) (ro : Rep K L.Z L.r o u) (ri : Rep K L.Z L.r i w) (rd : Rep K L.Z L.r d v) (e : putO G o i d = some G2) {Q : Hp → Prop} (h : ∀ H', HR K L G2 H' → Q H') : rSetA u w v H Q := by
  unfold putO at e
  cases e1 : celL G o with
  | some nx =>
    obtain ⟨n, xs⟩ := nx
    rw [e1] at e
    cases ri with
    | int z =>
      dsimp only at e
      cases e2 : ixN xs.length z with
      | none => rw [e2] at e; cases e
      | some j =>
        rw [e2] at e; cases e
        obtain ⟨a, us, rfl, r1, r2, r3⟩ := celL_rep hr ro e1
        exact .inl ⟨a, us, z, j, rfl, rfl, r2, by rw [← r3.length]; exact e2, h _ (hr.setL r1 (r3.set rd j))⟩
    | _ => cases e
  | none =>
    rw [e1] at e
    cases e2 : celD G o with
    | none => rw [e2] at e; cases e
    | some nx =>
      obtain ⟨n, kds⟩ := nx
      cases e3 : keyD i with
      | none => rw [e2, e3] at e; cases e
      | some k =>
        rw [e2, e3] at e
        dsimp only at e
        by_cases hl : kds.length < sizeLine
        · rw [if_pos hl] at e; cases e
          obtain ⟨a, us, rfl, r1, r2, r3⟩ := celD_rep hr ro e2
          exact .inr ⟨a, _, rfl, .inl ⟨us, k, r2, keyD_rep ri e3, by rw [← r3.len]; exact hl, rfl⟩, h _ (hr.setD r1 (r3.put k rd))⟩
        · rw [if_neg hl] at e; cases e
def sPut (fo fi f : FE) : FS := fun δ G => (f δ G).thn δ fun d G1 => (fo δ G1).thn δ fun o G2 => (fi δ G2).thn δ fun i G3 => match putO G3 o i d with
  | some G4 => .nx δ G4
  | none => .no
/-- a target a[i] -/
def gPut (fo fi : FE) : FG := fun d δ G => (fo δ G).thn δ fun o G2 => (fi δ G2).thn δ fun i G3 => match putO G3 o i d with
  | some G4 => .nx δ G4
  | none => .no
section
variable {X : Cx} {W : WX} {pos apos : Pos} {o i : Expr} {fo fi f : FE} {us : List Nat}
theorem xs_put {e : Expr} (hu : X.A.units + 1 < cLine) (he : xE X W e f) (ho : xE X W o fo) (hi : xE X W i fi) (ha : ∀ v, assign (.Subscript o i apos) X.env v = (do
      let ov ← holding [v] (eval o X.env)
      let iv ← holding [v, ov] (eval i X.env)
      standAt apos
      holding [v, ov, iv] (setItem ov iv v)
      release [v, ov, iv] []) := by intro _; rfl) (hs : swapsWithSole [.Subscript o i apos] e pos.line X.env = pure false := by rfl) (hw : swappedStores [.Subscript o i apos] e X.env = pure none := by rfl)
    (h1 : (assignEach [.Subscript o i apos] X.env).map (·.2) = [assign (.Subscript o i apos) X.env] := by rfl) : xS X W (.Assign [.Subscript o i apos] e pos) (sPut fo fi f) :=
  PSimp (ps_asg he (pg_sub ho hi (set_any hu) ha) hs hw h1) fun E σ H ⟨L, δ, G, hr, er, q⟩ => Sat.thn hr er q fun L1 G1 H1 d v le hr1 er1 rd q1 =>
    Sat.thn hr1 er1 q1 fun L2 G2 H2 od ov le2 hr2 er2 ro q2 => Sat.thn hr2 er2 q2 fun L3 G3 H3 id iv le3 hr3 er3 ri q3 => by
      cases e1 : putO G3 od id d with
      | none => rw [e1] at q3; exact q3.elim
      | some G4 =>
        rw [e1] at q3
        exact putO_rep hr3 (Rep.mono le3 ro) ri (Rep.mono le3 (Rep.mono le2 rd)) e1 fun H' hr4 => q3 L3 σ H' (.refl _) hr4 er3
/-- a step that must not raise, to a statement's end -/
theorem Sat.gt {α β : Type} {K : PySem.W.Frag} {L : Lk} {σ : St} {δ : DEnv} {G : GH} {H : Hp} {rep : Lk → α → β → Prop} {f : DEnv → GH → R α} {k : α → GH → RS} {P : DEnv → GH → Prop} {Q1 : β → Hp → Prop}
    (hr : HR K L G H) (er : ER K L δ σ) (h : match (f δ G).thn δ k with | .nx δ' G' => P δ' G' | _ => False)
    (nx : ∀ L1 G1 H1 a v, L.le L1 → HR K L1 G1 H1 → ER K L1 δ σ → rep L1 a v → (match k a G1 with | .nx δ' G' => P δ' G' | _ => False) → Q1 v H1) : tG K noW rep f σ H Q1 := by
  refine ⟨L, δ, G, hr, er, ?_⟩
  cases e : f δ G with
  | ok a G1 =>
    rw [e] at h
    exact fun L1 H1 v le hr1 ra => nx L1 G1 H1 a v le hr1 (er.mono le) ra h
  | ex x G1 => rw [e] at h; exact h.elim
  | no => rw [e] at h; exact h.elim
theorem xg_put (hu : X.A.units + 1 < cLine) (ho : xE X noW o fo) (hi : xE X noW i fi) (ha : ∀ v, assign (.Subscript o i pos) X.env v = (do
      let ov ← holding [v] (eval o X.env)
      let iv ← holding [v, ov] (eval i X.env)
      standAt pos
      holding [v, ov, iv] (setItem ov iv v)
      release [v, ov, iv] []) := by intro _; rfl) : xG X us (.Subscript o i pos) (gPut fo fi) :=
  PGimp (pg_sub ho hi (set_any hu) ha) fun v σ H Q ⟨L, d, δ, G, hr, er, rd, q⟩ => by
    refine Sat.gt hr er (P := fun δ' G' => ∀ L' σ' H', L.le L' → HR X.K L' G' H' → ER X.K L' δ' σ' → wipe σ' us = wipe σ us → Q σ' H') q fun L1 G1 H1 od ov le1 hr1 er1 ro q1 => ?_
    refine Sat.gt hr1 er1 (P := fun δ' G' => ∀ L' σ' H', L.le L' → HR X.K L' G' H' → ER X.K L' δ' σ' → wipe σ' us = wipe σ us → Q σ' H') q1 fun L2 G2 H2 id iv le2 hr2 er2 ri q2 => ?_
    cases e1 : putO G2 od id d with
    | none => rw [e1] at q2; exact q2.elim
    | some G4 =>
      rw [e1] at q2
      exact putO_rep hr2 (Rep.mono le2 ro) ri (Rep.mono le2 (Rep.mono le1 rd)) e1 fun H' hr4 => q2 L2 σ H' (le1.trans le2) hr4 er2 rfl
end
end CF
end
section
set_option maxRecDepth 100000
set_option maxHeartbeats 2000000
/-! enumerate(..) of a tuple, over the heap. -/
namespace CF
open PySem PySem.Spec PyProof.Rows L2
theorem enum_newT (q : Addr) (vs : Array Value) :
    Meets (Builtin.«enumerate.__new__» ⟨[.type "enumerate", .ref q], []⟩) (fun _ R st => st.heap.IsTuple q vs ∧
      R (.ok (.ret (.ref (st.heap.push { cls := .type "tuple_iterator", data := .fields #[.ref q, .int 0 0] }).objs.size)))
        { st with heap := (st.heap.push { cls := .type "tuple_iterator", data := .fields #[.ref q, .int 0 0] }).push { cls := .type "enumerate", data := .fields #[.none, .bool false, .ref st.heap.objs.size, rawInt 0, .none, .none] } }) :=
  .of_wp fun P w A R st hyp => by
    obtain ⟨hp, gs, dr, tks, os⟩ := st
    obtain ⟨ht, hyp⟩ := hyp
    have sub := sub_enumerate
    have it1 : ∀ {B : Around} {E Q : Value → Shared → Prop}, Q (.ref hp.objs.size) ⟨hp.push { cls := .type "tuple_iterator", data := .fields #[.ref q, .int 0 0] }, gs, dr, tks, os⟩ → wpAny (model P w) B (pyIter (.ref q)) Q E ⟨hp, gs, dr, tks, os⟩ :=
      fun z => wpAny_pyIter_tuple (s := ⟨hp, gs, dr, tks, os⟩) ht z
    wp_walk using it1
    refine wpAny_stack_any fun fr => wpAny_pure ?_
    split
    next c _ _ _ _ _ =>
      cases (c == Value.type "enumerate") <;> (wp_walk using it1; exact ⟨_, rfl, hyp⟩)
    next => wp_walk using it1; exact ⟨_, rfl, hyp⟩
theorem enum_callT {prog : Program} {w : World} {A : Around} {E : Value → Shared → Prop} {s : Shared} {q : Addr} {vs : Array Value} {Q : Value → Shared → Prop} (ht : s.heap.IsTuple q vs)
    (k : ∀ h2, IsEnum h2 (s.heap.objs.size + 1) s.heap.objs.size 0 .none → h2.IsTupleIter s.heap.objs.size q 0 → (∀ b o, s.heap.get? b = some o → h2.get? b = some o) → Q (.ref (s.heap.objs.size + 1)) { s with heap := h2 }) :
    wpAny (model prog w) A (call (.type "enumerate") [.ref q]) Q E s := by
  refine callType_new F.called_enumerate (by decide) (F.typeCall_enumerate_1 _) (F.newCall_enumerate_1 _) (fun ob => F.args_object_init_2 ob _) F.entry_enumerate_new (enum_newT q vs) ⟨ht, ?_⟩
  generalize ho : ({ cls := .type "tuple_iterator", data := .fields #[.ref q, .int 0 0] } : Obj) = io
  have free : io.isFreed = false := by subst ho; rfl
  have sz : (s.heap.push io).objs.size = s.heap.objs.size + 1 := Heap.size_push ..
  have at1 := Heap.get?_push_size (s.heap.push io) (o := { cls := .type "enumerate", data := .fields #[.none, .bool false, .ref s.heap.objs.size, rawInt 0, .none, .none] }) rfl
  rw [sz] at at1
  show _ ∧ _
  rw [sz]
  refine ⟨⟨_, at1, rfl⟩, k _ at1 ⟨io, Heap.get?_push_of_some _ (Heap.get?_push_size _ free), ?_, ?_⟩ fun b o z => Heap.get?_push_of_some _ (Heap.get?_push_of_some _ z)⟩
  · subst ho; rfl
  · subst ho; rfl
theorem enum_endT {prog : Program} {w : World} {A : Around} {E : Value → Shared → Prop} {s : Shared} {e it q : Addr} {i : Nat} {vs : Array Value} {was : Value} {Q : Option Value → Shared → Prop} (he : IsEnum s.heap e it i was) (hit : s.heap.IsTupleIter it q i) (ht : s.heap.IsTuple q vs) (hx : vs[i]? = none) (hh : A.handled = none)
    (k : ∀ h2, Heap.ExtBut it s.heap h2 → Q none { s with heap := h2 }) : wpAny (model prog w) A (pyNext (.ref e)) Q E s := by
  have ty : s.TypeIs (.ref e) "enumerate" := ⟨_, he, rfl⟩
  unfold pyNext
  refine wpAny_bind <| wpAny_attempt <| wpAny_callSpecial?_slot (name := Str.ofString "__next__") ty F.slot_enumerate_next ?_
  refine wpAny_call_entry F.slot_enumerate_next ty F.entry_enumerate_next ?_ <| F.args_enumerate_next_1 _
  · show wpAny _ _ (field (.ref e) 2 >>= _) _ _ _
    refine wpAny_bind (wpAny_field he rfl (x := .ref it) rfl (wpAny_bind (wpAny_nextOf_tuple_end hh hit ht hx fun h2 x ex cx => ?_)))
    obtain ⟨o, ho, hc⟩ := cx
    exact wpAny_bind (wpAny_isInstance (T := "StopIteration") (b := true) ⟨o, ho, hc⟩ isSubtype_stop (wpAny_pure (k _ ex)))
/-- the tuple at a, each item in a new pair with its number -/
def IteT (K : PySem.W.Frag) (a : Addr) : It where
  go := fun i H => ∃ (ys : List V) (y : V), SqT K H a ys ∧ ys[i]? = some y
  yld := fun i H v H2 => ∃ T y, v = .ref T ∧ H T = none ∧ H2 = upd H T (.tup [.int (i : Nat), y]) ∧ ∀ ys, SqT K H a ys → ys[i]? = some y
  stop := fun i H => ∃ ys : List V, SqT K H a ys ∧ ys.length ≤ i
theorem turn_enumT {P : Program} {w : World} {K : PySem.W.Frag} {tgs : List Expr} {c : Nat} {tp : Pos} (a e it : Addr) (hai : a ≠ it) (hae : e ≠ a) (hei : e ≠ it) :
    Turn P w K (.Tuple tgs c tp) (IteT K a) [e, it] e (fun i h => (∃ was, IsEnum h e it ((i : Nat) : Int) was) ∧ h.IsTupleIter it a i) where
  mem := by simp
  obj := fun i h st b hb => by
    obtain ⟨⟨was, he⟩, o, ho, hc, hd⟩ := st
    rcases (by simpa using hb : b = e ∨ b = it) with rfl | rfl
    · exact ⟨_, he, fun v q => nomatch q⟩
    · exact ⟨o, ho, fun v q => by rw [hd] at q; cases q⟩
  keep := fun i h h2 st k => ⟨let ⟨was, he⟩ := st.1; ⟨was, k e (by simp) _ he⟩, st.2.at fun o z => k it (by simp) o z⟩
  item := by
    intro X eP ew eK hc i pins s σ H E I hf st hg
    subst eP ew eK
    obtain ⟨⟨was, he⟩, hit⟩ := st
    obtain ⟨ys, y, hq, hy⟩ := hg
    obtain ⟨us, rv, tup, _⟩ := I.tuple hq
    obtain ⟨u, hu, ru⟩ := rv.get hy
    have lte : e < s.heap.objs.size := Heap.lt_size he
    have lti : it < s.heap.objs.size := let ⟨_, z, _⟩ := hit; Heap.lt_size z
    have hlt : i < us.toArray.size := by rw [List.size_toArray]; exact (List.getElem?_eq_some_iff.mp hu).1
    refine wpAny_pyNext_enum_itemD (Draws.tuple (A := X.A.in1) (I.ok.hd hc) it a hai us.toArray) he ⟨hit, tup⟩ hlt hei (by simp [hei, hae]) fun x h2 tk hx out st2 hT hsz hk => ?_
    obtain rfl : u = x := by
      have z : us.toArray[i]? = some x := hx
      rw [List.getElem?_toArray, hu] at z
      exact Option.some.inj z
    refine ⟨_, rfl, wpAny_letOwnedTupleGo_enum (s := { s with heap := h2, toks := tk + 1 }) out fun h3 he3 sb => ?_⟩
    have at3 : h3.get? s.heap.objs.size = some { cls := .type "tuple", data := .seq #[.int i tk, u] } := (sb.2 _ (Nat.ne_of_gt lte)).trans hT
    have ok3 : ObjOk X.prog X.w (upd H s.heap.objs.size (.tup [.int (i : Nat), y])) h3 s.heap.objs.size (.tup [.int (i : Nat), y]) := ⟨(by decide : 2 ≤ sizeLine), _, .cons ⟨_, rfl⟩ (.cons ru .nil), _, at3, rfl, _, rfl⟩
    have J := I.turnedNew (t' := tk + 1) (h' := h3) (ch := [e, it]) (fun b ob hb z => (sb.2 b fun k => hb (by simp [k])).trans (hk b ob (fun k => hb (by simp [k])) (fun k => hb (by simp [k])) z)) hf (Nat.le_refl _) ok3
    refine ⟨.ref s.heap.objs.size, _, J, rfl, ⟨_, y, rfl, I.hok.fresh (Nat.le_refl _), rfl, fun zs hz => by rw [I.tuple_inj hz hq]; exact hy⟩, ⟨⟨u, ?_⟩, st2.1.at fun o z => (sb.2 it (Ne.symm hei)).trans z⟩, fun b hb => ?_⟩
    · rw [show ((i + 1 : Nat) : Int) = (i : Int) + 1 by omega]; exact he3
    · have : b < s.heap.objs.size := by
        rcases (by simpa using hb : b = e ∨ b = it) with rfl | rfl
        · exact lte
        · exact lti
      rw [upd_ne (Nat.ne_of_lt this)]
      exact (hf b hb).1
  done := by
    intro X eP ew eK hc i pins s σ H E I hf st hg
    subst eP ew eK
    obtain ⟨⟨was, he⟩, hit⟩ := st
    obtain ⟨ys, hq, hy⟩ := hg
    obtain ⟨us, rv, tup, _⟩ := I.tuple hq
    obtain ⟨f0, f1, f2, f3, f4, f5⟩ := hf it (by simp)
    have hl := rv.length
    refine enum_endT he hit tup (by rw [List.getElem?_toArray]; exact List.getElem?_eq_none (by omega)) (I.ok.hd hc) fun h2 ex => ⟨rfl, I.turned (t' := s.toks) (fun b o hb z => ex b o hb z) f0 f1 f3 f4 f5⟩
  self := fun A i s Q E st h => let ⟨⟨_, he⟩, _⟩ := st; wpAny_pyIter_enum he h
end CF
end
section
set_option maxRecDepth 100000
set_option maxHeartbeats 1000000
/-! enumerate, zip; isinstance of several classes; remove, index of texts; more about dicts. -/
namespace CF
open PySem PySem.Spec PyProof.Rows L2
/-! ### enumerate, zip -/
def iEnT (K : PySem.W.Frag) (ta : TA) : TI := fun σ H R => ta σ H fun vs H1 => ∃ a xs, vs = [.ref a] ∧ SqT K H1 a xs ∧ R (IteT K a) H1
theorem pi_enT {X : Cx} {e : Expr} {ta : TA} {p pos tpos : Pos} {elts : List Expr} {kk : Nat} (hg : Gl X "enumerate") (hm : X.mg "enumerate" = none) (ha : PA X [e] ta) (hs : starEach [e] X.env = [(false, eval e X.env)] := by rfl) :
    PI X (.Tuple elts kk tpos) (.Call (.Name "enumerate" p) [e] [] pos) (iEnT X.K ta) := by
  refine ⟨fun pins s σ H R I h => Call_ (ld_blt I hg hm boot_enumerate (PyProof.Rows.callWith_type1 (thn (ha.run pos pins s σ H _ I h) fun us s1 ⟨vs, H1, I1, r1, a, xs, ex, hq, q⟩ => ?_) hs rfl))⟩
  subst ex
  obtain ⟨u, rfl, ru⟩ := vals1 r1
  cases ru
  obtain ⟨its, rv, tup, _⟩ := I1.tuple hq
  obtain ⟨ot, ht, _⟩ := id tup
  have lta : a < s1.heap.objs.size := Heap.lt_size ht
  refine enum_callT (show s1.heap.IsTuple a its.toArray from tup) fun h2 he hit hk => wpAny_pyIter_enum he ?_
  have J : Inv X pins σ H1 { s1 with heap := h2 } := I1.kept (t' := s1.toks) hk
  refine ⟨s1.heap.objs.size + 1, [s1.heap.objs.size + 1, s1.heap.objs.size], _, _, H1, rfl, J, turn_enumT a (s1.heap.objs.size + 1) s1.heap.objs.size (Nat.ne_of_lt lta) (Nat.ne_of_gt (Nat.lt_succ_of_lt lta)) (Nat.succ_ne_self _), ⟨⟨.none, he⟩, hit⟩, fun b hb => ?_, q⟩
  have z : s1.heap.objs.size ≤ b := by
    rcases (by simpa using hb : b = s1.heap.objs.size + 1 ∨ b = s1.heap.objs.size) with rfl | rfl <;> omega
  exact I1.fpOk z (I1.hok.fresh z)
/-- the items with their numbers -/
def enumD (n : Nat) : List D → List D
  | [] => []
  | d :: r => .tup [.int (n : Nat), d] :: enumD (n + 1) r
theorem enumD_get (xs : List D) : ∀ (n i : Nat), (enumD n xs)[i]? = xs[i]?.map fun d => D.tup [.int ((n + i : Nat) : Int), d] := by
  induction xs with
  | nil => intro n i; simp [enumD]
  | cons d r ih =>
    intro n i
    cases i with
    | zero => simp [enumD]
    | succ i => simp only [enumD, List.getElem?_cons_succ, ih]; congr 2; funext d; congr 4; omega
theorem enumD_len (xs : List D) : ∀ n, (enumD n xs).length = xs.length := by
  induction xs with
  | nil => intro n; rfl
  | cons d r ih => intro n; simp [enumD, ih]
def zipD (xs ys : List D) : List D := List.zipWith (fun a b => D.tup [a, b]) xs ys
section
variable {K : PySem.W.Frag} {L : Lk}
theorem srv_en {a : Addr} {ds : List D} {chk : GH → Bool} (s : Srv K (Itl K a) L ds chk) : Srv K (Ite K a) L (enumD 0 ds) chk where
  go := fun L' G H i d c hr hk e => by
    rw [enumD_get] at e
    cases q : ds[i]? with
    | none => rw [q] at e; cases e
    | some x =>
      rw [q] at e; cases e
      obtain ⟨g, y⟩ := s.go L' G H i x c hr hk q
      obtain ⟨vs, v, sq, ev⟩ := g
      refine ⟨⟨vs, v, sq, ev⟩, fun z H2 w => ?_⟩
      obtain ⟨T, y1, rfl, hT, rfl, f⟩ := w
      obtain ⟨L2, le, hr2, rd⟩ := y y1 H ⟨rfl, f⟩
      obtain ⟨h1, h2, h3⟩ := put_tup (.cons (.int ((0 + i : Nat) : Int)) (.cons rd .nil)) hr2 hT
      rw [Nat.zero_add] at h1 h2 h3 ⊢
      exact ⟨_, le.trans h2, h1, h3⟩
  stop := fun L' G H i c hr hk e => s.stop L' G H i c hr hk (by rwa [enumD_len] at e)
theorem srv_enT {a : Addr} {ds : List D} {chk : GH → Bool} (s : Srv K (Itt K a) L ds chk) : Srv K (IteT K a) L (enumD 0 ds) chk where
  go := fun L' G H i d c hr hk e => by
    rw [enumD_get] at e
    cases q : ds[i]? with
    | none => rw [q] at e; cases e
    | some x =>
      rw [q] at e; cases e
      obtain ⟨g, y⟩ := s.go L' G H i x c hr hk q
      obtain ⟨vs, v, sq, ev⟩ := g
      refine ⟨⟨vs, v, sq, ev⟩, fun z H2 w => ?_⟩
      obtain ⟨T, y1, rfl, hT, rfl, f⟩ := w
      obtain ⟨L2, le, hr2, rd⟩ := y y1 H ⟨rfl, f⟩
      obtain ⟨h1, h2, h3⟩ := put_tup (.cons (.int ((0 + i : Nat) : Int)) (.cons rd .nil)) hr2 hT
      rw [Nat.zero_add] at h1 h2 h3 ⊢
      exact ⟨_, le.trans h2, h1, h3⟩
  stop := fun L' G H i c hr hk e => s.stop L' G H i c hr hk (by rwa [enumD_len] at e)
theorem srv_zip {a b : Addr} {ds es : List D} {chk chk2 : GH → Bool} (s : Srv K (Itl K a) L ds chk) (t : Srv K (Itl K b) L es chk2) : Srv K (Itz K a b) L (zipD ds es) fun G => chk G && chk2 G where
  go := fun L' G H i d c hr hk e => by
    obtain ⟨k1, k2⟩ := Bool.and_eq_true_iff.mp hk
    unfold zipD at e
    rw [List.getElem?_zipWith] at e
    cases q : ds[i]? with
    | none => rw [q] at e; cases e
    | some x =>
      cases q2 : es[i]? with
      | none => rw [q, q2] at e; cases e
      | some x2 =>
        rw [q, q2] at e; cases e
        obtain ⟨⟨vs, v, sq, ev⟩, y⟩ := s.go L' G H i x c hr k1 q
        obtain ⟨⟨us, u, sq2, ev2⟩, y2⟩ := t.go L' G H i x2 c hr k2 q2
        refine ⟨⟨vs, us, v, u, sq, sq2, ev, ev2⟩, fun z H2 w => ?_⟩
        obtain ⟨T, w1, w2, rfl, hT, rfl, f, f2⟩ := w
        obtain ⟨L2, le, hr2, rd⟩ := y w1 H ⟨rfl, f⟩
        obtain ⟨⟨vs', v', sq', ev'⟩, y2⟩ := t.go L2 G H i x2 ⟨fun p o z => le.z p o (c.z p o z), fun n p z => le.r n p (c.r n p z), fun p od u z => by rw [le.f]; exact c.f p od u z⟩ hr2 k2 q2
        obtain ⟨L3, le3, hr3, rd3⟩ := y2 w2 H ⟨rfl, f2⟩
        obtain ⟨h1, h2, h3⟩ := put_tup (.cons (rd.mono le3) (.cons rd3 .nil)) hr3 hT
        exact ⟨_, (le.trans le3).trans h2, h1, h3⟩
  stop := fun L' G H i c hr hk e => by
    obtain ⟨k1, k2⟩ := Bool.and_eq_true_iff.mp hk
    have e : (List.zipWith (fun a b => D.tup [a, b]) ds es).length ≤ i := e
    rw [List.length_zipWith] at e
    have A : (∃ xs : List V, SqL K H a xs ∧ (i < ds.length ∨ xs.length ≤ i)) := by
      by_cases h : i < ds.length
      · obtain ⟨⟨vs, v, sq, ev⟩, _⟩ := s.go L' G H i ds[i] c hr k1 (by simp [h])
        exact ⟨vs, sq, .inl h⟩
      · obtain ⟨vs, sq, hl⟩ := s.stop L' G H i c hr k1 (by omega)
        exact ⟨vs, sq, .inr hl⟩
    have B : (∃ xs : List V, SqL K H b xs ∧ (i < es.length ∨ xs.length ≤ i)) := by
      by_cases h : i < es.length
      · obtain ⟨⟨vs, v, sq, ev⟩, _⟩ := t.go L' G H i es[i] c hr k2 (by simp [h])
        exact ⟨vs, sq, .inl h⟩
      · obtain ⟨vs, sq, hl⟩ := t.stop L' G H i c hr k2 (by omega)
        exact ⟨vs, sq, .inr hl⟩
    obtain ⟨xs, sq, hx⟩ := A
    obtain ⟨ys, sq2, hy⟩ := B
    refine ⟨xs, ys, sq, sq2, ?_⟩
    rcases hx with hx | hx
    · rcases hy with hy | hy
      · omega
      · exact .inr hy
    · exact .inl hx
theorem srv_zipT {a b : Addr} {ds es : List D} {chk chk2 : GH → Bool} (s : Srv K (Itt K a) L ds chk) (t : Srv K (Itt K b) L es chk2) : Srv K (RZ.ItzT K a b) L (zipD ds es) fun G => chk G && chk2 G where
  go := fun L' G H i d c hr hk e => by
    obtain ⟨k1, k2⟩ := Bool.and_eq_true_iff.mp hk
    unfold zipD at e
    rw [List.getElem?_zipWith] at e
    cases q : ds[i]? with
    | none => rw [q] at e; cases e
    | some x =>
      cases q2 : es[i]? with
      | none => rw [q, q2] at e; cases e
      | some x2 =>
        rw [q, q2] at e; cases e
        obtain ⟨⟨vs, v, sq, ev⟩, y⟩ := s.go L' G H i x c hr k1 q
        obtain ⟨⟨us, u, sq2, ev2⟩, y2⟩ := t.go L' G H i x2 c hr k2 q2
        refine ⟨⟨vs, us, v, u, sq, sq2, ev, ev2⟩, fun z H2 w => ?_⟩
        obtain ⟨T, w1, w2, rfl, hT, rfl, f, f2⟩ := w
        obtain ⟨L2, le, hr2, rd⟩ := y w1 H ⟨rfl, f⟩
        obtain ⟨⟨vs', v', sq', ev'⟩, y2⟩ := t.go L2 G H i x2 ⟨fun p o z => le.z p o (c.z p o z), fun n p z => le.r n p (c.r n p z), fun p od u z => by rw [le.f]; exact c.f p od u z⟩ hr2 k2 q2
        obtain ⟨L3, le3, hr3, rd3⟩ := y2 w2 H ⟨rfl, f2⟩
        obtain ⟨h1, h2, h3⟩ := put_tup (.cons (rd.mono le3) (.cons rd3 .nil)) hr3 hT
        exact ⟨_, (le.trans le3).trans h2, h1, h3⟩
  stop := fun L' G H i c hr hk e => by
    obtain ⟨k1, k2⟩ := Bool.and_eq_true_iff.mp hk
    have e : (List.zipWith (fun a b => D.tup [a, b]) ds es).length ≤ i := e
    rw [List.length_zipWith] at e
    have A : (∃ xs : List V, SqT K H a xs ∧ (i < ds.length ∨ xs.length ≤ i)) := by
      by_cases h : i < ds.length
      · obtain ⟨⟨vs, v, sq, ev⟩, _⟩ := s.go L' G H i ds[i] c hr k1 (by simp [h])
        exact ⟨vs, sq, .inl h⟩
      · obtain ⟨vs, sq, hl⟩ := s.stop L' G H i c hr k1 (by omega)
        exact ⟨vs, sq, .inr hl⟩
    have B : (∃ xs : List V, SqT K H b xs ∧ (i < es.length ∨ xs.length ≤ i)) := by
      by_cases h : i < es.length
      · obtain ⟨⟨vs, v, sq, ev⟩, _⟩ := t.go L' G H i es[i] c hr k2 (by simp [h])
        exact ⟨vs, sq, .inl h⟩
      · obtain ⟨vs, sq, hl⟩ := t.stop L' G H i c hr k2 (by omega)
        exact ⟨vs, sq, .inr hl⟩
    obtain ⟨xs, sq, hx⟩ := A
    obtain ⟨ys, sq2, hy⟩ := B
    refine ⟨xs, ys, sq, sq2, ?_⟩
    rcases hx with hx | hx
    · rcases hy with hy | hy
      · omega
      · exact .inr hy
    · exact .inl hx
end
/-- the items of a tuple -/
def tupIts : D → Option (List D)
  | .tup xs => some xs
  | .pt xs => some xs
  | _ => none
theorem walkT {K : PySem.W.Frag} {L : Lk} {G : GH} {H : Hp} {x : D} {v : V} {ds : List D} (hr : HR K L G H) (h : Rep K L.Z L.r x v) (e : tupIts x = some ds) : ∃ a xs, v = .ref a ∧ SqT K H a xs ∧ Srv K (Itt K a) L ds fun _ => true := by
  cases h with
  | tup z t => cases e; exact ⟨_, _, rfl, tupAt_sq hr z, srv_tup (fun L' G' H' c hr' => tupAt_sq hr' (z.mono c.z)) t⟩
  | @pt _ o _ _ z k t => cases e; exact ⟨_, _, rfl, .inl (.inr ⟨o, (hr.z _ _ z).frz⟩), srv_tup (fun L' G' H' c hr' => .inl (.inr ⟨o, (hr'.z _ _ (c.z _ _ z)).frz⟩)) t⟩
  | _ => cases e
noncomputable def iEn (g : FA) : FI := fun δ G => (g δ G).bind fun ds G1 => match ds with
  | [x] => (match tupIts x, lstIts G1 x with
    | some ys, _ => .ok ⟨enumD 0 ys, fun _ => true⟩ G1
    | none, some it => .ok ⟨enumD 0 it.items, it.chk⟩ G1
    | none, none => .no)
  | _ => .no
noncomputable def iZp (g : FA) : FI := fun δ G => (g δ G).bind fun ds G1 => match ds with
  | [x, y] => (match tupIts x, tupIts y, lstIts G1 x, lstIts G1 y with
    | some xs, some ys, _, _ => .ok ⟨zipD xs ys, fun _ => true⟩ G1
    | none, none, some it, some it2 => .ok ⟨zipD it.items it2.items, fun G => it.chk G && it2.chk G⟩ G1
    | _, _, _, _ => .no)
  | _ => .no
section
variable {X : Cx} {W : WX} {p pos tpos : Pos} {elts : List Expr} {kk : Nat} {g : FA}
theorem xi_en {e : Expr} (hg : Gl X "enumerate") (hm : X.mg "enumerate" = none) (ha : xA X W [e] g) (hs : starEach [e] X.env = [(false, eval e X.env)] := by rfl) : xI X W (.Tuple elts kk tpos) (.Call (.Name "enumerate" p) [e] [] pos) (iEn g) :=
  PIimp (PIor (pi_enum hg hm ha hs) (pi_enT hg hm ha hs)) fun σ H Q ⟨L, δ, G, hr, er, q⟩ => by
    cases e0 : g δ G with
    | no => simp only [iEn, e0, R.bind_no] at q
    | ex x G1 =>
      simp only [iEn, e0, R.bind_ex] at q
      refine .inl ⟨L, δ, G, hr, er, ?_⟩
      rw [e0]; exact q
    | ok ds G1 =>
      simp only [iEn, e0, R.bind_ok] at q
      rcases ds with _ | ⟨x, _ | ⟨y, r⟩⟩
      · exact q.elim
      · cases e1 : tupIts x with
        | some ys =>
          simp only [e1] at q
          refine .inr ⟨L, δ, G, hr, er, ?_⟩
          rw [e0]
          intro L1 H1 vs le hr1 rd
          have rd' : Reps X.K L1.Z L1.r [x] vs := rd
          cases rd' with
          | cons rx t =>
            cases t
            obtain ⟨a, xs, rfl, s1, s2⟩ := walkT hr1 rx e1
            exact ⟨a, xs, rfl, s1, q L1 H1 _ le.fl hr1 (srv_enT s2)⟩
        | none =>
          cases e2 : lstIts G1 x with
          | none => simp only [e1, e2] at q
          | some it =>
            simp only [e1, e2] at q
            refine .inl ⟨L, δ, G, hr, er, ?_⟩
            rw [e0]
            intro L1 H1 vs le hr1 rd
            have rd' : Reps X.K L1.Z L1.r [x] vs := rd
            cases rd' with
            | cons rx t =>
              cases t
              obtain ⟨a, xs, rfl, s1, s2, _⟩ := walkL hr1 rx e2
              exact ⟨a, xs, rfl, s1, q L1 H1 _ le.fl hr1 (srv_en s2)⟩
      · exact q.elim
theorem xi_zp {e e2 : Expr} (hg : Gl X "zip") (hm : X.mg "zip" = none) (ha : xA X W [e, e2] g)
    (hs : starEach [e, e2] X.env = (false, eval e X.env) :: starEach [e2] X.env := by rfl) (hpl : (backTo pos (starEach [e2] X.env)).any (·.1) = false := by rfl) : xI X W (.Tuple elts kk tpos) (.Call (.Name "zip" p) [e, e2] [] pos) (iZp g) :=
  PIimp (RZ.pi_zipA hg hm ha hs hpl) fun σ H Q ⟨L, δ, G, hr, er, q⟩ => by
    refine ⟨L, δ, G, hr, er, ?_⟩
    cases e0 : g δ G with
    | no => simp only [iZp, e0, R.bind_no] at q
    | ex x G1 =>
      simp only [iZp, e0, R.bind_ex] at q
      exact q
    | ok ds G1 =>
      simp only [iZp, e0, R.bind_ok] at q
      rcases ds with _ | ⟨x, _ | ⟨y, _ | ⟨z, r⟩⟩⟩
      · exact q.elim
      · exact q.elim
      · intro L1 H1 vs le hr1 rd
        have rd' : Reps X.K L1.Z L1.r [x, y] vs := rd
        cases rd' with
        | cons rx t =>
          cases t with
          | cons ry t =>
            cases t
            cases e1 : tupIts x with
            | some xs =>
              cases e2 : tupIts y with
              | none => simp only [e1, e2] at q
              | some ys =>
                simp only [e1, e2] at q
                obtain ⟨a, us, rfl, s1, s2⟩ := walkT hr1 rx e1
                obtain ⟨b, ws, rfl, t1, t2⟩ := walkT hr1 ry e2
                refine ⟨a, b, us, ws, rfl, .inr ⟨s1, t1, q L1 H1 _ le.fl hr1 ?_⟩⟩
                exact srv_zipT s2 t2
            | none =>
              cases e2 : tupIts y with
              | some ys => simp only [e1, e2] at q
              | none =>
                cases e3 : lstIts G1 x with
                | none => simp only [e1, e2, e3] at q
                | some it =>
                  cases e4 : lstIts G1 y with
                  | none => simp only [e1, e2, e3, e4] at q
                  | some it2 =>
                    simp only [e1, e2, e3, e4] at q
                    obtain ⟨a, us, rfl, s1, s2, _⟩ := walkL hr1 rx e3
                    obtain ⟨b, ws, rfl, t1, t2, _⟩ := walkL hr1 ry e4
                    exact ⟨a, b, us, ws, rfl, .inl ⟨s1, t1, q L1 H1 _ le.fl hr1 (srv_zip s2 t2)⟩⟩
      · exact q.elim
end
end CF
end
section
set_option maxRecDepth 100000
set_option maxHeartbeats 1000000
/-! isinstance of several classes; remove, index of texts; reversed lists; more about dicts. -/
namespace CF
open PySem PySem.Spec PyProof.Rows L2
/-! ### {} -/
def eDict0 (mk : List (Key × D) → GH → R D) : FE := fun _ G => mk [] G
/-! ### isinstance(x, (T, U)) -/
def isiAny (t : String) : List String → Option Bool
  | [] => some false
  | T :: r => match isiB t T with
    | some true => some true
    | some false => isiAny t r
    | none => none
def dIsiT (Ts : List String) : D → GH → R D := fun d G => match tyN G d with
  | some t => (match isiAny t Ts with
    | some b => .ok (.bl b) G
    | none => .no)
  | none => .no
theorem isiAny_kit {K : PySem.W.Frag} {t : String} (ht : t ∈ ["NoneType", "bool", "int", "str", "tuple", "list", "dict"]) : ∀ {Ts : List String} {b : Bool}, (∀ T ∈ Ts, T ∈ tyOk) → isiAny t Ts = some b → PySem.W.kitAny K (.type t) (Ts.map Value.type) = some b
  | [], b, _, e => by cases e; exact kitAny_nil
  | T :: r, b, h, e => by
    have k := isi_kit t ht T (h T (List.mem_cons_self ..))
    rw [isiAny] at e
    cases q : isiB t T with
    | none => rw [q] at e; cases e
    | some c =>
      rw [q] at e k
      have k2 : PySem.W.kitOne K (.type t) (.type T) = some c := kit_ty k
      cases c with
      | true =>
        cases e
        show PySem.W.kitAny K (.type t) (Value.type T :: r.map Value.type) = some true
        unfold PySem.W.kitAny
        rw [k2]
      | false =>
        have ih := isiAny_kit (K := K) ht (fun T' h' => h T' (List.mem_cons_of_mem _ h')) e
        show PySem.W.kitAny K (.type t) (Value.type T :: r.map Value.type) = some b
        unfold PySem.W.kitAny
        rw [k2]
        exact ih
theorem cls_tys : ∀ (Ts : List String), Paired ClsV (Ts.map V.ty) (Ts.map Value.type)
  | [] => .nil
  | T :: r => .cons (.ty T) (cls_tys r)
section
variable {X : Cx} {W : WX} {pos p p2 p3 p4 apos cpos : Pos} {e o : Expr} {f fo : FE} {x y : Str} {T U : String} {kk : Nat} {g : FA}
theorem xe_isiT2 (hT : T ∈ tyOk) (hU : U ∈ tyOk) (hv : bootBuiltins x = some (.type T)) (hv2 : bootBuiltins y = some (.type U)) (hm : X.mg "isinstance" = none) (hmx : X.mg x = none) (hmy : X.mg y = none) (hx : x ≠ "__name__") (hdx : (x == ("__debug__" : Str)) = false) (hy : y ≠ "__name__") (hdy : (y == ("__debug__" : Str)) = false)
    (ha : xE X W e f) (hg : Gl X "isinstance" := by rfl) (hgx : Gl X x := by rfl) (hgy : Gl X y := by rfl)
    (ht1 : starEach [.Name x p3, .Name y p4] X.env = (false, eval (.Name x p3) X.env) :: starEach [.Name y p4] X.env := by rfl) (ht2 : starEach [.Name y p4] X.env = (false, eval (.Name y p4) X.env) :: starEach [] X.env := by rfl)
    (he : starEach [e, .Tuple [.Name x p3, .Name y p4] kk p2] X.env = (false, eval e X.env) :: starEach [.Tuple [.Name x p3, .Name y p4] kk p2] X.env := by rfl)
    (he2 : starEach [.Tuple [.Name x p3, .Name y p4] kk p2] X.env = (false, eval (.Tuple [.Name x p3, .Name y p4] kk p2) X.env) :: starEach [] X.env := by rfl)
    (hpl : (backTo pos (starEach [.Tuple [.Name x p3, .Name y p4] kk p2] X.env)).any (·.1) = false := by rfl) :
    xE X W (.Call (.Name "isinstance" p) [e, .Tuple [.Name x p3, .Name y p4] kk p2] [] pos) (eOne f (dIsiT [T, U])) :=
  PEimp (pe_callB call_isiT hg hm (by decide +kernel) (pa_cons ha (pa_cons (pe_tup (pa_cons (pe_bltn hgx hmx hv (v := .ty T) rfl hx hdx) (pa_cons (pe_bltn hgy hmy hv2 (v := .ty U) rfl hy hdy) pa_nil ht2) ht1)) pa_nil he2) he) (by decide) (by decide) he hpl) fun σ H Q ⟨L, δ, G, hr, er, q⟩ =>
    Sat.bind (rep' := repD X.K) hr er q fun L1 G1 H1 d v le hr1 er1 rd q1 => by
      unfold dIsiT at q1
      cases e1 : tyN G1 d with
      | none => rw [e1] at q1; exact q1.elim
      | some t =>
        rw [e1] at q1
        dsimp only at q1
        cases e2 : isiAny t [T, U] with
        | none => rw [e2] at q1; exact q1.elim
        | some b =>
          rw [e2] at q1
          refine ⟨(by decide : 2 ≤ sizeLine), fun q hq => ?_⟩
          have le2 := Lk.le_put (o := HO.tup [.ty T, .ty U]) (hr1.zfree hq)
          have hr2 := hr1.put (o := HO.tup [.ty T, .ty U]) hq
          refine ⟨v, q, [.ty T, .ty U], .type t, [.type T, .type U], b, rfl, upd_same, cls_tys [T, U], tyN_rep hr2 (Rep.mono le2 rd) e1, isiAny_kit (tyN_mem e1) (fun T' h' => ?_) e2, q1 _ _ _ le2 hr2 (.bl b)⟩
          rcases (by simpa using h' : T' = T ∨ T' = U) with rfl | rfl
          · exact hT
          · exact hU
/-! ### texts of a list: remove, index -/
def eqS (x : Str) (v : Value) : Bool := match v with
  | .str z _ => z == x
  | _ => false
theorem str_beqL (a b : Str) : (a.cps.toList == b.cps.toList) = (a == b) := by
  cases h : a == b with
  | true => have e := eq_of_beq h; subst e; simp
  | false =>
    have n : a ≠ b := fun e => by subst e; simp at h
    cases k : a.cps.toList == b.cps.toList with
    | false => rfl
    | true =>
      have e := eq_of_beq k
      have e2 : a.cps = b.cps := Array.toList_inj.mp e
      cases a; cases b
      simp only at e2
      subst e2
      exact absurd rfl n
theorem eqS_gives {x : Str} {t : Tok} : ∀ {us : List Value} {zs : List Str}, StrsAre us zs → ∀ y ∈ us, MeetsSeq.EqGives y (.str x t) (eqS x y)
  | _, _, .nil => fun y h => nomatch h
  | _, _, .cons z k h => fun y hy => by
    rcases List.mem_cons.mp hy with q | q
    · rw [q]
      have r := SeqRoads2.EqGives.str z x k t
      rw [str_beqL] at r
      exact r
    · exact eqS_gives h y q
/-- where a text stands -/
def posS (x : Str) : List Str → Option Nat
  | [] => none
  | z :: r => if z = x then some 0 else (posS x r).map (· + 1)
theorem posS_some {x : Str} : ∀ {zs : List Str} {j : Nat}, posS x zs = some j → zs[j]? = some x ∧ ∀ m, m < j → zs[m]? ≠ some x
  | [], j, e => by cases e
  | z :: r, j, e => by
    rw [posS] at e
    by_cases h : z = x
    · rw [if_pos h] at e; cases e
      subst h
      exact ⟨rfl, fun m hm => absurd hm (Nat.not_lt_zero _)⟩
    · rw [if_neg h] at e
      cases q : posS x r with
      | none => rw [q] at e; cases e
      | some i =>
        rw [q] at e; cases e
        obtain ⟨h1, h2⟩ := posS_some q
        refine ⟨by simpa using h1, fun m hm => ?_⟩
        cases m with
        | zero => intro z2; simp at z2; exact h z2
        | succ m => simpa using h2 m (Nat.lt_of_succ_lt_succ hm)
def rRemS : V → List V → Hp → VK → Prop := fun v as H Q => ∃ (q : Addr) (zs : List Str) (x : Str) (j : Nat), v = .ref q ∧ as = [.str x] ∧ H q = some (.lst (zs.map V.str)) ∧ posS x zs = some j ∧ Q .non (upd H q (.lst ((zs.eraseIdx j).map V.str)))
theorem map_erase {α β : Type} (f : α → β) : ∀ (l : List α) (j : Nat), (l.eraseIdx j).map f = (l.map f).eraseIdx j
  | [], j => by simp
  | _ :: _, 0 => by simp
  | a :: r, j + 1 => by simp [map_erase f r j]
theorem strs_at {us : List Value} {zs : List Str} (h : StrsAre us zs) {j : Nat} (hj : j < us.length) : ∃ z t, zs[j]? = some z ∧ us[j] = .str z t := strs_get h j us[j] (by simp [hj])
theorem mt_remS : MtM X "list.remove" rRemS := by
  intro pins s σ H v as w us Q I rv ras ⟨q, zs, x, j, ev, ea, hq, hj, k⟩
  subst ev ea
  cases rv
  obtain ⟨u, rfl, ru⟩ := ras.one
  obtain ⟨t, rfl⟩ := ru
  obtain ⟨hz, its, n, r, hl, hob⟩ := I.lstM hq
  have S : StrsAre its zs := L2.strsAre_of r
  obtain ⟨j1, j2⟩ := posS_some hj
  have hlen := strs_len S
  have jlt : j < zs.length := (List.getElem?_eq_some_iff.mp j1).1
  refine call_meets PySem.F.slot_list_remove ⟨_, hob, rfl⟩ PySem.F.entry_list_remove (PySem.F.args_list_remove_2 _ _)
    (MeetsSeq.list_remove q its.toArray n (.str x t) (eqS x) (fun y hy => eqS_gives S y (by simpa using hy)) j (by rw [List.size_toArray]; omega) ?_ (fun m hm hmj => ?_) (by rw [List.size_toArray]; rw [List.length_map] at hz; omega)) ⟨hob, ?_⟩
  · obtain ⟨z, tz, e1, e2⟩ := strs_at S (j := j) (by omega)
    rw [j1] at e1; cases e1
    show eqS x its[j] = true
    rw [e2]
    exact beq_self_eq_true x
  · obtain ⟨z, tz, e1, e2⟩ := strs_at S (j := m) (by simpa using hm)
    show eqS x its[m] = false
    rw [e2]
    exact beq_eq_false_iff_ne.mpr fun e3 => j2 m hmj (by rw [e1, e3])
  · have rr := r.eraseIdx j
    have em : (zs.map V.str).eraseIdx j = (zs.eraseIdx j).map V.str := (map_erase V.str zs j).symm
    rw [em] at rr
    refine ⟨.non, _, I.lset (its' := its.eraseIdx j) (t' := s.toks) hq hob ?_ rr ?_, rfl, k⟩
    · show its.toArray.eraseIdxIfInBounds j = (its.eraseIdx j).toArray
      rw [List.eraseIdxIfInBounds_toArray]
    · rw [List.length_map] at hz ⊢
      have := List.length_eraseIdx_le zs j
      omega
def mRemS : FM := fun d ds G => match celL G d, ds with
  | some (n, xs), [.str x] => (match strsOf xs with
    | some zs => (match posS x zs with
      | some j => .ok .non (G.set n (.lst (xs.eraseIdx j)))
      | none => .no)
    | none => .no)
  | _, _ => .no
theorem md_remS {K : PySem.W.Frag} : MtD K mRemS rRemS := fun L G H d v ds vs W σ Q hr rd rds q => by
  unfold mRemS at q
  cases e : celL G d with
  | none => rw [e] at q; exact q.elim
  | some nx =>
    obtain ⟨n, xs⟩ := nx
    rw [e] at q
    cases rds with
    | nil => exact q.elim
    | @cons a u ds us ra t =>
      cases ra with
      | str x =>
        cases t with
        | cons _ _ => exact q.elim
        | nil =>
          dsimp only at q
          obtain ⟨b, ws, rfl, q1, q2, q3⟩ := celL_rep hr rd e
          cases e2 : strsOf xs with
          | none => rw [e2] at q; exact q.elim
          | some zs =>
            rw [e2] at q
            dsimp only at q
            cases e3 : posS x zs with
            | none => rw [e3] at q; exact q.elim
            | some j =>
              rw [e3] at q
              have ew := strs_rep q3 e2
              subst ew
              refine ⟨b, zs, x, j, rfl, rfl, q2, e3, q L _ _ (.refl _) (hr.setL q1 ?_) .non⟩
              rw [map_erase]
              exact q3.eraseIdx j
      | _ => cases t <;> exact q.elim
theorem xe_remS (ho : xE X W o fo) (ha : xA X W [e] g) (hbase : attributeBase o "remove" X.env (eval o X.env) = eval o X.env := by rfl)
    (hfew : ((backTo cpos (starEach [e] X.env)).all (fun x => !x.1) && (backToKw cpos (keywordEach [] X.env)).all (fun x => x.1.isSome) && decide ([e].length + ([] : List Keyword).length + (if ([] : List Keyword).isEmpty then 0 else 1) < 30)) = true := by rfl)
    (hline : (apos.endLine == cpos.line) = true := by rfl) (hs : starEach [e] X.env = (false, eval e X.env) :: starEach [] X.env := by rfl) : xE X W (.Call (.Attribute o "remove" apos) [e] [] cpos) (eMt "list" mRemS fo g) :=
  xe_mt PySem.F.plainAttrs_list PySem.F.slot_list_remove PySem.F.type_list_remove (MtM.r mt_remS) md_remS ho ha hbase hfew hline hs rfl
/-! index, texts -/
def mIdxS : FM := fun d ds G => match lstOf G d, ds with
  | some xs, [.str x] => (match strsOf xs with
    | some zs => (match posS x zs with
      | some j => .ok (.int (j : Nat)) G
      | none => .no)
    | none => .no)
  | _, _ => .no
theorem flat_strs : ∀ (zs : List Str), (zs.map V.str).all flatV = true
  | [] => rfl
  | z :: r => by rw [List.map_cons, List.all_cons, flat_strs r]; rfl
theorem md_idxS {K : PySem.W.Frag} : MtD K mIdxS (rIndex K) := fun L G H d v ds vs W σ Q hr rd rds q => by
  unfold mIdxS at q
  cases e : lstOf G d with
  | none => rw [e] at q; exact q.elim
  | some xs =>
    rw [e] at q
    cases rds with
    | nil => exact q.elim
    | @cons a u ds us ra t =>
      cases ra with
      | str x =>
        cases t with
        | cons _ _ => exact q.elim
        | nil =>
          dsimp only at q
          obtain ⟨b, ws, rfl, s, t⟩ := lst_rep hr rd e
          cases e2 : strsOf xs with
          | none => rw [e2] at q; exact q.elim
          | some zs =>
            rw [e2] at q
            dsimp only at q
            cases e3 : posS x zs with
            | none => rw [e3] at q; exact q.elim
            | some j =>
              rw [e3] at q
              have ew := strs_rep t e2
              subst ew
              obtain ⟨j1, j2⟩ := posS_some e3
              refine ⟨b, zs.map V.str, .str x, j, .str x, rfl, rfl, s, rfl, flat_strs zs, by simp [j1], beq_self_eq_true x, fun m z' hm hz => ?_, q L H _ (.refl _) hr (.int _)⟩
              rw [List.getElem?_map] at hz
              cases q2 : zs[m]? with
              | none => rw [q2] at hz; cases hz
              | some z =>
                rw [q2] at hz; cases hz
                exact beq_eq_false_iff_ne.mpr fun e4 => j2 m hm (by rw [q2, e4])
      | _ => cases t <;> exact q.elim
theorem xe_idxS (ho : xE X W o fo) (ha : xA X W [e] g) (hbase : attributeBase o "index" X.env (eval o X.env) = eval o X.env := by rfl)
    (hfew : ((backTo cpos (starEach [e] X.env)).all (fun x => !x.1) && (backToKw cpos (keywordEach [] X.env)).all (fun x => x.1.isSome) && decide ([e].length + ([] : List Keyword).length + (if ([] : List Keyword).isEmpty then 0 else 1) < 30)) = true := by rfl)
    (hline : (apos.endLine == cpos.line) = true := by rfl) (hs : starEach [e] X.env = (false, eval e X.env) :: starEach [] X.env := by rfl) : xE X W (.Call (.Attribute o "index" apos) [e] [] cpos) (eMt "list" mIdxS fo g) :=
  xe_mt PySem.F.plainAttrs_list PySem.F.slot_list_index PySem.F.type_list_index mt_index md_idxS ho ha hbase hfew hline hs rfl
/-! ### xs[::-1] -/
def eRev (mk : List D → GH → R D) (f : FE) : FE := fun δ G => (f δ G).bind fun x G1 => match lstOf G1 x with
  | some xs => mk xs.reverse G1
  | none => .no
theorem xe_rev {mk : List D → GH → R D} {k : Nat} {q1 q2 q3 : Pos} (m : Mk mk) (h : xE X W e f) : xE X W (.Subscript e (.Slice none none (some (.UnaryOp .USub (.Constant (.int 1) k q1) q2)) q3) pos) (eRev mk f) :=
  PEimp (pe_revL h) fun σ H Q ⟨L, δ, G, hr, er, q⟩ => Sat.bind (rep' := repD X.K) hr er q fun L1 G1 H1 d v le hr1 er1 rd q1 => by
    cases e1 : lstOf G1 d with
    | none => rw [e1] at q1; exact q1.elim
    | some xs =>
      rw [e1] at q1
      obtain ⟨b, ws, rfl, s, t⟩ := lst_rep hr1 rd e1
      exact ⟨b, ws, rfl, s, fun p hp => m _ _ _ _ _ _ _ _ _ _ hr1 t.reverse hp q1⟩
/-! ### dicts -/
theorem xe_dict0 {mk : List (Key × D) → GH → R D} (m : MkK mk) : xE X W (.Dict [] [] pos) (eDict0 mk) :=
  PEimp pe_dnewK fun σ H Q ⟨L, δ, G, hr, er, q⟩ p hp => m X.K L G H [] [] p W σ Q hr .nil hp q
def eGet2 (fo fk fx : FE) : FE := fun δ G => (fo δ G).bind fun o G1 => match dKOf G1 o with
  | some _ => (fk δ G1).bind fun k G2 => (fx δ G2).bind fun x G3 => (match dGetO G3 o k with
    | some (some d) => .ok d G3
    | some none => .ok x G3
    | none => .no)
  | none => .no
theorem xe_get2 {k x : Expr} {fk fx : FE} (hu : X.A.units + 1 < cLine) (ho : xE X W o fo) (hk : xE X W k fk) (hx : xE X W x fx) (m : M2 X o "get" apos k x cpos := by exact ⟨rfl, rfl, rfl, rfl⟩) : xE X W (.Call (.Attribute o "get" apos) [k, x] [] cpos) (eGet2 fo fk fx) :=
  PEimp (pe_dget2 hu ho hk hx m) fun σ H Q ⟨L, δ, G, hr, er, q⟩ => Sat.bind (rep' := repD X.K) hr er q fun L1 G1 H1 d v le hr1 er1 rd q1 => by
    cases e1 : dKOf G1 d with
    | none => rw [e1] at q1; exact q1.elim
    | some kds =>
      rw [e1] at q1
      obtain ⟨p, kvs, rfl, hp, hk, t⟩ := dK_rep hr1 rd e1
      refine ⟨p, rfl, .inl ⟨kvs, hp⟩, Sat.bind (rep' := repD X.K) hr1 er1 q1 fun L2 G2 H2 kd kv le2 hr2 er2 rk q2 => Sat.bind (rep' := repD X.K) hr2 er2 q2 fun L3 G3 H3 xd xv le3 hr3 er3 rx q3 => ?_⟩
      cases e3 : dGetO G3 d kd with
      | none => rw [e3] at q3; exact q3.elim
      | some o =>
        rw [e3] at q3
        obtain ⟨p', ov, ep, g, hs, hd⟩ := dGetO_rep hr3 (Rep.mono le3 (Rep.mono le2 rd)) (Rep.mono le3 rk) e3
        cases ep
        refine ⟨ov, g, ?_⟩
        cases o with
        | none =>
          cases ov with
          | some z => cases hs
          | none => exact q3 L3 H3 _ (.refl _) hr3 rx
        | some y =>
          obtain ⟨w, rfl, rw'⟩ := hd y rfl
          exact q3 L3 H3 _ (.refl _) hr3 rw'
/-- o[i] op= e, ints in a dict -/
def sAugD (op : Int → Int → Int) (fo fi f : FE) : FS := fun δ G => (fo δ G).thn δ fun o G1 => (fi δ G1).thn δ fun i G2 => match dGetO G2 o i with
  | some (some (.int a)) => (f δ G2).thn δ fun y G3 => (match y, celD G3 o, keyD i with
    | .int b, some (n, kvs), some k => if kvs.length < sizeLine then .nx δ (G3.set n (.dK (putD kvs k (.int (op a b))))) else .no
    | _, _, _ => .no)
  | _ => .no
theorem xs_augD {i : Expr} {fi : FE} {tpos : Pos} {op : Operator} {fop : Int → Int → Int} {rd : V → V → Hp → VK → Prop} (hrd : ∀ a b H Q, Q (.int (fop a b)) H → rd (.int a) (.int b) H Q) (hop : InOp X op rd) (hu : X.A.units + 1 < cLine) (ho : xE X W o fo) (hi : xE X W i fi) (he : xE X W e f)
    (ha : ∀ ov iv new, augStore i ov iv new = (do holding [new, ov, iv] (setItem ov iv new); release [new, ov, iv] []; pure .next) := by intros; rfl) : xS X W (.AugAssign (.Subscript o i tpos) op e pos) (sAugD fop fo fi f) :=
  PSimp (ps_daug hu ho hi he hop ha) fun E σ H ⟨L, δ, G, hr, er, q⟩ => Sat.thn hr er q fun L1 G1 H1 od ov le1 hr1 er1 ro q1 => Sat.thn hr1 er1 q1 fun L2 G2 H2 id iv le2 hr2 er2 ri q2 => by
    cases e1 : dGetO G2 od id with
    | none => rw [e1] at q2; exact q2.elim
    | some og =>
      rw [e1] at q2
      cases og with
      | none => exact q2.elim
      | some dv =>
        cases dv with
        | int a =>
          dsimp only at q2
          obtain ⟨p, xv, rfl, g, hs, hd⟩ := dGetO_rep hr2 (Rep.mono le2 ro) ri e1
          obtain ⟨w, rfl, rw'⟩ := hd _ rfl
          cases rw'
          refine ⟨p, .int a, rfl, g, Sat.thn hr2 er2 q2 fun L3 G3 H3 y yv le3 hr3 er3 ry q3 => ?_⟩
          have ry' : Rep X.K L3.Z L3.r y yv := ry
          cases ry' with
          | int b =>
            cases e2 : celD G3 od with
            | none => rw [e2] at q3; exact q3.elim
            | some nk =>
              obtain ⟨n, kds⟩ := nk
              cases e3 : keyD id with
              | none => rw [e2, e3] at q3; exact q3.elim
              | some k =>
                rw [e2, e3] at q3
                dsimp only at q3
                by_cases hl : kds.length < sizeLine
                · rw [if_pos hl] at q3
                  obtain ⟨p', kvs, ep, r1, r2, r3⟩ := celD_rep hr3 (Rep.mono le3 (Rep.mono le2 ro)) e2
                  cases ep
                  refine hrd a b H3 _ ⟨_, .inl ⟨kvs, k, r2, keyD_rep (Rep.mono le3 ri) e3, by rw [← r3.len]; exact hl, rfl⟩, ?_⟩
                  exact q3 L3 σ _ (.refl _) (hr3.setD r1 (r3.put k (.int _))) er3
                · rw [if_neg hl] at q3; exact q3.elim
          | _ => exact q3.elim
        | _ => exact q2.elim
theorem rd_add (a b : Int) (H : Hp) (Q : VK) (q : Q (.int (a + b)) H) : rAdd (.int a) (.int b) H Q := ⟨a, b, rfl, rfl, q⟩
theorem rd_sub (a b : Int) (H : Hp) (Q : VK) (q : Q (.int (a - b)) H) : rSub (.int a) (.int b) H Q := ⟨a, b, rfl, rfl, q⟩
end
end CF
end
section
set_option maxRecDepth 100000
set_option maxHeartbeats 3200000
/-! len(set(..)) of a list or a tuple of texts. -/
namespace CF
open PySem PySem.Spec PyProof.Rows L2
section
variable {prog : Program} {w : World} {A : Around} {E : Value → Shared → Prop} {s : Shared}
theorem set_of_strsT {l : Addr} {items : Array Value} {xs : List Str} {Q : Value → Shared → Prop} (hh : A.handled = none) (hl : s.heap.IsTuple l items) (hi : StrsAre items.toList xs) (hb : items.size + 1 < scanBound)
    (h : ∀ (h' : Heap) (tk : Nat), h'.SetOf (strKind prog w) s.heap.objs.size (fun k' => (met xs).any (· == k')) (met xs).length → (∀ b o, b < s.heap.objs.size → s.heap.get? b = some o → h'.get? b = some o) → Q (.ref s.heap.objs.size) { s with heap := h', toks := tk }) :
    wpAny (model prog w) A (call (.type "set") [.ref l]) Q E s := by
  obtain ⟨c, tl, hmro⟩ := F.called_set.mro
  have hmade := F.called_set.made
  have hsub := F.called_set.sub
  refine wpAny_call (codeAny_of_tree ?_)
  show wpAny _ _ (callAny (.type "set") _) _ _ _
  refine wpAny_pure ⟨Code.quiet_builtin _ (by decide +kernel), codeAny_builtin F.entry_type_call ?_⟩
  rw [Around.under_plain (weight_type_call_type "set" [.ref l] []) rfl]
  have h1 := F.called_set.notType
  have h2 := F.called_set.canCreate
  have hct := F.typeCall_set_1 (.ref l)
  repeat (any_goals (first | assumption | wp_step))
  refine codeAny_mono (code_set_new_1 (.ref l) (E := E) (Q₁ := fun obj s₁ => ∃ led : Bool, obj = .ref s.heap.objs.size ∧ s₁ = { s with heap := s.heap.push { cls := .type "set", dict := none, data := .set #[] 0 (.fresh 0 0 led) } }) fun led => ⟨led, rfl, rfl⟩) fun r s₁ hr => ?_
  match r, hr with
  | .error e, hr => exact hr
  | .ok .next, hr => exact hr.elim
  | .ok .brk, hr => exact hr.elim
  | .ok .cont, hr => exact hr.elim
  | .ok (.ret obj), hr =>
    obtain ⟨led, rfl, rfl⟩ := hr
    have hS : (s.heap.push { cls := .type "set", dict := none, data := .set #[] 0 (.fresh 0 0 led) }).get? s.heap.objs.size = some { cls := .type "set", dict := none, data := .set #[] 0 (.fresh 0 0 led) } := Heap.get?_push_size _ rfl
    have hT : Shared.TypeIs { s with heap := s.heap.push { cls := .type "set", dict := none, data := .set #[] 0 (.fresh 0 0 led) } } (.ref s.heap.objs.size) "set" := ⟨_, hS, rfl⟩
    have hli := F.called_set.init.lookup
    have hbi := F.called_set.init.bind (.ref s.heap.objs.size)
    repeat (any_goals (first | assumption | wp_step))
    refine codeAny_mono (codeAny_call_builtin (R := wants (fun r s₂ => r = .none ∧ ∃ h' tk, s₂ = { s with heap := h', toks := tk } ∧
        h'.SetOf (strKind prog w) s.heap.objs.size (fun k' => (met xs).any (· == k')) (met xs).length ∧ (∀ b o, b < s.heap.objs.size → s.heap.get? b = some o → h'.get? b = some o)) E) F.called_set.init.plain F.entry_set_init (check_set_init_1 hT ?_)) fun r₂ s₂ hr₂ => ?_
    · obtain ⟨ol, hol, hcl, nl, hdl⟩ := hl
      obtain ⟨ocls, odict, odata, oslots⟩ := ol
      simp only at hcl hdl
      subst hcl; subst hdl
      have hol' : (s.heap.push { cls := .type "set", dict := none, data := .set #[] 0 (.fresh 0 0 led) }).get? l = some { cls := .type "tuple", dict := odict, data := .seq items nl, slots := oslots } := Heap.get?_push_of_some _ hol
      have hsls := F.sub_tuple_set
      have hslf := F.sub_tuple_frozenset
      have hne : (Value.type "tuple" == Value.type "dict") = false := by decide
      have hl1 : (s.heap.push { cls := .type "set", dict := none, data := .set #[] 0 (.fresh 0 0 led) }).IsTuple l items := ⟨_, hol', rfl, nl, rfl⟩
      unfold Builtin.«set.__init__» noKeywords Builtin.Frozenset.updateFrom
      generalize hPI : pyIter = PI
      wp_walk
      subst hPI
      refine wpAny_pyIter_tuple hl1 (wpAny_bind (wpAny_runValue ?_))
      have hlS : l < s.heap.objs.size := Heap.lt_size hol
      have hh3 : A.in1.in1.in1.handled = none := by simp [hh]
      have hneI : l ≠ (s.heap.push { cls := .type "set", dict := none, data := .set #[] 0 (.fresh 0 0 led) }).objs.size := by
        rw [Heap.size_push]; exact Nat.ne_of_lt (Nat.lt_succ_of_lt hlS)
      have hSf : s.heap.objs.size ∉ [(s.heap.push { cls := .type "set", dict := none, data := .set #[] 0 (.fresh 0 0 led) }).objs.size, l] := by
        rw [Heap.size_push]; simp only [List.mem_cons, List.mem_singleton, List.not_mem_nil, or_false, not_or]
        exact ⟨Nat.ne_of_lt (Nat.lt_succ_self _), Nat.ne_of_gt hlS⟩
      refine set_loop_strs ((Walks.tuple hh3 _ l hneI items).toS) s.heap.objs.size hSf xs (by rw [← strs_len hi, Array.length_toList]) (fun i v hv => strs_get hi i v (by rw [Array.getElem?_toList]; exact hv)) hb (items.size - 0) 0 _ (by omega) (Nat.zero_le _)
        ⟨⟨_, Heap.get?_push_size _ rfl, rfl, rfl⟩, (hl1.push _)⟩ ?hS0 ?hR
      case hS0 =>
        have hget : ((s.heap.push { cls := .type "set", dict := none, data := .set #[] 0 (.fresh 0 0 led) }).push { cls := .type "tuple_iterator", data := .fields #[.ref l, .int 0 0] }).get? s.heap.objs.size
            = some { cls := .type "set", dict := none, data := .set #[] 0 (.fresh 0 0 led) } := Heap.get?_push_of_some _ hS
        exact SetOf_congr ((setObjOf_fresh (knd := strKind prog w) led).setOf hget (by unfold scanBound; omega)) (fun _ => rfl) rfl
      case hR =>
        intro s' hm hS'
        obtain ⟨h', g', d', tk', os'⟩ := s'
        obtain rfl : g' = s.gens := hm.gens
        obtain rfl : d' = s.drawn := hm.drawn
        obtain rfl : os' = s.os := hm.os
        show wpAny _ _ _ _ _ _
        refine wpAny_pure ?_
        show wpAny _ _ (ret Value.none) _ _ _
        refine wpAny_pure ⟨rfl, h', tk', rfl, hS', fun b o hb e => hm.heap b o ?_ (Heap.get?_push_of_some _ (Heap.get?_push_of_some _ e))⟩
        simp only [List.mem_cons, List.mem_singleton, List.not_mem_nil, or_false, not_or]
        exact ⟨Nat.ne_of_lt hb, by rw [Heap.size_push]; exact Nat.ne_of_lt (Nat.lt_succ_of_lt hb)⟩
    · match r₂, hr₂ with
      | .error e, z => exact z
      | .ok .next, z => exact z.elim
      | .ok .brk, z => exact z.elim
      | .ok .cont, z => exact z.elim
      | .ok (.ret r), z =>
        obtain ⟨rfl, h', tk, rfl, hS', hk'⟩ := z
        repeat (any_goals (first | assumption | wp_step))
        exact h _ _ hS' hk'
end
end CF
end
section
set_option maxRecDepth 100000
set_option maxHeartbeats 1000000
/-! len(set(..)) of a list or a tuple of texts. -/
namespace CF
open PySem PySem.Spec PyProof.Rows L2
def seqD (G : GH) (x : D) : Option (List D) := match x with
  | .tup xs => some xs
  | .pt xs => some xs
  | x => lstOf G x
def eLenSet2 (f : FE) : FE := fun δ G => (f δ G).bind fun d G1 => match (seqD G1 d).bind strsOf with
  | some xs => if xs.length < 4000 then .ok (.int (met xs).length) G1 else .no
  | none => .no
section
variable {X : Cx} {W : WX} {pos p p2 q : Pos} {a : Expr} {f : FE}
theorem xe_lenSet2 (hc : X.calm = true) (hm : X.mg "len" = none) (hm2 : X.mg "set" = none) (ha : xE X W a f) (hg : Gl X "len" := by rfl) (hg2 : Gl X "set" := by rfl) (na : starEach [a] X.env = (false, eval a X.env) :: starEach [] X.env := by rfl) :
    xE X W (.Call (.Name "len" p) [.Call (.Name "set" p2) [a] [] q] [] pos) (eLenSet2 f) := by
  refine ⟨fun pins s σ H Q I ⟨L, δ, G, hr, er, h⟩ => Call_ (ld_blt I hg hm boot_len (PyProof.Rows.callWith_builtin1 (PyProof.Rows.args_cons (Call_ (ld_blt I hg2 hm2 boot_set
    (PyProof.Rows.callWith_type1 (PyProof.Rows.args_cons (thn (ha.run pins s σ H (fun v H1 => ∃ (l : Addr) (xs : List Str), v = .ref l ∧ (SqL X.K H1 l (xs.map V.str) ∨ SqT X.K H1 l (xs.map V.str)) ∧ xs.length < 4000 ∧ Q (.int (met xs).length) H1) I ?_)
      fun v s1 ⟨x, H1, I1, r1, q1⟩ => PyProof.Rows.args_nil ?_) na) na rfl))) rfl) rfl rfl))⟩
  · exact Sat.bind (rep' := repD X.K) hr er h fun L1 G1 H1 d v le hr1 er1 rd q1 => by
      have gen : ∀ (ds : List D) (p : Addr) (vs : List V), v = .ref p → (SqL X.K H1 p vs ∨ SqT X.K H1 p vs) → Reps X.K L1.Z L1.r ds vs → Sat X.K W L1 σ (repD X.K) (match strsOf ds with | some xs => if xs.length < 4000 then .ok (.int (met xs).length) G1 else .no | none => .no) Q →
          ∃ (l : Addr) (xs : List Str), v = .ref l ∧ (SqL X.K H1 l (xs.map V.str) ∨ SqT X.K H1 l (xs.map V.str)) ∧ xs.length < 4000 ∧ Q (.int (met xs).length) H1 := fun ds p vs ev s t q1 => by
        cases e2 : strsOf ds with
        | none => rw [e2] at q1; exact q1.elim
        | some xs =>
          rw [e2] at q1
          dsimp only at q1
          by_cases hl : xs.length < 4000
          · rw [if_pos hl] at q1
            have ew := strs_rep t e2
            subst ew
            exact ⟨p, xs, ev, s, hl, q1 L1 H1 _ (.refl _) hr1 (.int _)⟩
          · rw [if_neg hl] at q1; exact q1.elim
      have oth : seqD G1 d = lstOf G1 d → ∃ (l : Addr) (xs : List Str), v = .ref l ∧ (SqL X.K H1 l (xs.map V.str) ∨ SqT X.K H1 l (xs.map V.str)) ∧ xs.length < 4000 ∧ Q (.int (met xs).length) H1 := fun ed => by
        rw [ed] at q1
        cases e : lstOf G1 d with
        | none => rw [e] at q1; exact q1.elim
        | some ds => 
          rw [e, Option.bind_some] at q1
          obtain ⟨p, vs, ev, s, t⟩ := lst_rep hr1 rd e
          exact gen ds p vs ev (.inl s) t q1
      cases d with
      | tup ds =>
        obtain ⟨p, vs, ev, s, t⟩ := tup_rep hr1 rd
        exact gen ds p vs ev (.inr s) t q1
      | pt ds =>
        obtain ⟨p, vs, ev, s, t⟩ := tupOf_rep (ds := ds) hr1 rd rfl
        exact gen ds p vs ev (.inr s) t q1
      | _ => exact oth rfl
  · obtain ⟨l, xs, rfl, hq, hl, q1⟩ := q1
    cases r1
    have hm : (met xs).length ≤ xs.length := by have := met_le xs xs.length; rwa [List.take_length] at this
    have fin : ∀ (h' : Heap) (tk : Nat), h'.SetOf (strKind X.prog X.w) s1.heap.objs.size (fun k' => (met xs).any (· == k')) (met xs).length → (∀ b o, b < s1.heap.objs.size → s1.heap.get? b = some o → h'.get? b = some o) →
        wpAny (model X.prog X.w) X.A (call (.builtin "len") [.ref s1.heap.objs.size]) (EP X pins σ Q) X.xe { s1 with heap := h', toks := tk } := fun h' tk hS hk => by
      obtain ⟨o, es, ep, t, ho, hex, hd, _, _, _, hf, hn⟩ := hS
      have I2 : Inv X pins σ H1 { s1 with heap := h', toks := tk } := I1.kept fun b o e => hk b o (Heap.lt_size e) e
      exact call_len_set ho hex hd hf (by rw [hn] <;> omega) ⟨.int (met xs).length, H1, I2.tok _, ⟨_, by rw [hn]⟩, q1⟩
    rcases hq with hq | hq
    · obtain ⟨its, r, pl, hz⟩ := I1.list hq
      have hlen : its.toArray.size = xs.length := by rw [List.size_toArray, ← r.length, List.length_map]
      exact set_of_strs (I1.ok.hd hc) pl.isList (by simpa using L2.strsAre_of r) (by rw [hlen]; unfold scanBound; omega) fun h' tk hS hk => PyProof.Rows.args_nil (fin h' tk hS hk)
    · obtain ⟨its, r, pl, hz⟩ := I1.tuple hq
      have hlen : its.toArray.size = xs.length := by rw [List.size_toArray, ← r.length, List.length_map]
      exact set_of_strsT (I1.ok.hd hc) (show s1.heap.IsTuple l its.toArray from pl) (by simpa using L2.strsAre_of r) (by rw [hlen]; unfold scanBound; omega) fun h' tk hS hk => PyProof.Rows.args_nil (fin h' tk hS hk)
end
/-! ### a, b = x, y -/
def sPar2 (i j : Nat) (g : FA) : FS := fun δ G => (g δ G).thn δ fun ds G1 => match ds with
  | [a, b] => .nx ((δ.set i (some a)).set j (some b)) G1
  | _ => .no
def sPar3 (i j l : Nat) (g : FA) : FS := fun δ G => (g δ G).thn δ fun ds G1 => match ds with
  | [a, b, c] => .nx (((δ.set i (some a)).set j (some b)).set l (some c)) G1
  | _ => .no
section
variable {X : Cx} {W : WX} {g : FA}
theorem xs_par2 {i j : Nat} {x y : Str} {a b : Expr} {px py pt pos : Pos} {kt k2 pt2} (hc : X.calm = true) (hN : X.N.Nodup) (hi : X.N[i]? = some x) (hj : X.N[j]? = some y) (hij : i ≠ j)
    (hx : X.env.scope.names.lookup x = some .local) (hy : X.env.scope.names.lookup y = some .local) (ha : xA X W [a, b] g)
    (hw : swappedStores [.Tuple [.Name x px, .Name y py] kt pt] (.Tuple [a, b] k2 pt2) X.env = pure (some [x, y]))
    (hs : swapsWithSole [.Tuple [.Name x px, .Name y py] kt pt] (.Tuple [a, b] k2 pt2) pos.line X.env = pure false := by rfl) :
    xS X W (.Assign [.Tuple [.Name x px, .Name y py] kt pt] (.Tuple [a, b] k2 pt2) pos) (sPar2 i j g) :=
  PSimp (ps_par hc hN hi hj hij hx hy ha hw hs) fun E σ H ⟨L, δ, G, hr, er, q⟩ => Sat.thn hr er q fun L1 G1 H1 ds vs le hr1 er1 rd q1 => by
    have rd' : Reps X.K L1.Z L1.r ds vs := rd
    rcases rd' with _ | ⟨ra, _ | ⟨rb, _ | ⟨_, _⟩⟩⟩
    · exact q1.elim
    · exact q1.elim
    · exact ⟨_, _, rfl, q1 L1 _ H1 (.refl _) hr1 ((er1.set i ra).set j rb)⟩
    · exact q1.elim
theorem xs_par3 {i j l : Nat} {x y z : Str} {a b c : Expr} {px py pz pt pos : Pos} {kt k2 pt2} (hc : X.calm = true) (hN : X.N.Nodup) (hi : X.N[i]? = some x) (hj : X.N[j]? = some y) (hl : X.N[l]? = some z) (hij : i ≠ j) (hil : i ≠ l) (hjl : j ≠ l)
    (hx : X.env.scope.names.lookup x = some .local) (hy : X.env.scope.names.lookup y = some .local) (hz : X.env.scope.names.lookup z = some .local) (ha : xA X W [a, b, c] g)
    (hw : swappedStores [.Tuple [.Name x px, .Name y py, .Name z pz] kt pt] (.Tuple [a, b, c] k2 pt2) X.env = pure (some [x, y, z]))
    (hs : swapsWithSole [.Tuple [.Name x px, .Name y py, .Name z pz] kt pt] (.Tuple [a, b, c] k2 pt2) pos.line X.env = pure false := by rfl) :
    xS X W (.Assign [.Tuple [.Name x px, .Name y py, .Name z pz] kt pt] (.Tuple [a, b, c] k2 pt2) pos) (sPar3 i j l g) :=
  PSimp (ps_par3 hc hN hi hj hl hij hil hjl hx hy hz ha hw hs) fun E σ H ⟨L, δ, G, hr, er, q⟩ => Sat.thn hr er q fun L1 G1 H1 ds vs le hr1 er1 rd q1 => by
    have rd' : Reps X.K L1.Z L1.r ds vs := rd
    rcases rd' with _ | ⟨ra, _ | ⟨rb, _ | ⟨rc, _ | ⟨_, _⟩⟩⟩⟩
    · exact q1.elim
    · exact q1.elim
    · exact q1.elim
    · exact ⟨_, _, _, rfl, q1 L1 _ H1 (.refl _) hr1 (((er1.set i ra).set j rb).set l rc)⟩
    · exact q1.elim
/-- y = {..}: the stores are swapped -/
theorem swD_true {kx vx : Expr} {gs : List Comprehension} {scope : Scope} {pos py : Pos} {y : Str} {l : Nat} {env : Env} (hk : env.scope.kind = .function) (hy : env.scope.names.lookup y = some .local) (hl : (py.line == pos.line) = true)
    (ha : (scope.names.any fun (n, k) => n == y && (k == .local || k == .cell)) = false) : swapsWith (.DictComp kx vx gs scope pos) (some (.Name y py)) l env = pure true := by
  have h1 : env.blockKind = .function := by unfold Env.blockKind; rw [hk]; rfl
  have h2 : env.kindOf y = some .local := hy
  unfold swapsWith
  simp only [h1, h2, ha, Expr.pos, hl]
  rfl
end
end CF
end
section
set_option maxRecDepth 100000
set_option maxHeartbeats 1000000
/-! repr, == of things with cells inside; the rules for running the newer mirrors. -/
namespace CF
open PySem PySem.Spec PyProof.Rows L2
/-- the cells' lists in place, n deep -/
def rsv (G : GH) : Nat → D → D
  | 0, d => d
  | n + 1, d => match d with
    | .ref k => (match G[k]? with
      | some (.lst xs) => .lst (xs.map (rsv G n))
      | _ => .ref k)
    | .tup xs => .tup (xs.map (rsv G n))
    | .pt xs => .pt (xs.map (rsv G n))
    | .lst xs => .lst (xs.map (rsv G n))
    | d => d
section
variable {K : PySem.W.Frag} {L : Lk} {G : GH} {H : Hp}
theorem rsv_rep (hr : HR K L G H) : ∀ (n : Nat) (x : D) (v : V) (d : PyData), Rep K L.Z L.r x v → (rsv G n x).py = some d → Dp K H v d ∧ d.canLay0 = true := by
  intro n
  induction n with
  | zero => exact fun x v d h e => py_rep hr x v d h e
  | succ n ih =>
    have all : ∀ (xs : List D) (vs : List V) (ds : List PyData), Reps K L.Z L.r xs vs → D.pyAll (xs.map (rsv G n)) = some ds → DpAll K H vs ds ∧ PyData.canLayAll0 ds = true := by
      intro xs
      induction xs with
      | nil => intro vs ds h e; cases h; rw [List.map_nil, D.pyAll] at e; cases e; exact ⟨.nil, rfl⟩
      | cons x r ihr =>
        intro vs ds h e
        cases h with
        | cons h1 h2 =>
          rw [List.map_cons, D.pyAll] at e
          cases q1 : D.py (rsv G n x) with
          | none => rw [q1] at e; cases e
          | some y =>
            cases q2 : D.pyAll (r.map (rsv G n)) with
            | none => rw [q1, q2] at e; cases e
            | some ys =>
              rw [q1, q2] at e; cases e
              obtain ⟨a, b⟩ := ih x _ y h1 q1
              obtain ⟨c, d⟩ := ihr _ ys h2 q2
              exact ⟨.cons a c, by rw [PyData.canLayAll0, b, d]; rfl⟩
    intro x v d h e
    cases x with
    | ref k =>
      rw [rsv] at e
      cases q : G[k]? with
      | none => rw [q] at e; exact py_rep hr _ _ _ h e
      | some c =>
        rw [q] at e
        cases c with
        | lst xs =>
          rw [show (match some (Cell.lst xs) with | some (Cell.lst xs) => D.lst (xs.map (rsv G n)) | _ => D.ref k) = D.lst (xs.map (rsv G n)) from rfl, D.py] at e
          cases z : D.pyAll (xs.map (rsv G n)) with
          | none => rw [z] at e; cases e
          | some ys =>
            rw [z] at e; cases e
            obtain ⟨p, vs, ev, s, t⟩ := lst_rep (ds := xs) hr h (by rw [lstOf_ref, q])
            obtain ⟨a, b⟩ := all xs vs ys t z
            rw [ev]
            exact ⟨.lst s a, by rw [PyData.canLay0]; exact b⟩
        | _ => exact py_rep hr _ _ _ h e
    | tup xs =>
      rw [rsv, D.py] at e
      cases z : D.pyAll (xs.map (rsv G n)) with
      | none => rw [z] at e; cases e
      | some ys =>
        rw [z] at e; cases e
        obtain ⟨p, vs, ev, s, t⟩ := tup_rep hr h
        obtain ⟨a, b⟩ := all xs vs ys t z
        rw [ev]
        exact ⟨.tup s a, by rw [PyData.canLay0]; exact b⟩
    | pt xs =>
      rw [rsv, D.py] at e
      cases z : D.pyAll (xs.map (rsv G n)) with
      | none => rw [z] at e; cases e
      | some ys =>
        rw [z] at e; cases e
        obtain ⟨p, vs, ev, s, t⟩ := tupOf_rep (ds := xs) hr h rfl
        obtain ⟨a, b⟩ := all xs vs ys t z
        rw [ev]
        exact ⟨.tup s a, by rw [PyData.canLay0]; exact b⟩
    | lst xs =>
      rw [rsv, D.py] at e
      cases z : D.pyAll (xs.map (rsv G n)) with
      | none => rw [z] at e; cases e
      | some ys =>
        rw [z] at e; cases e
        obtain ⟨p, vs, ev, s, t⟩ := lst_rep (ds := xs) hr h rfl
        obtain ⟨a, b⟩ := all xs vs ys t z
        rw [ev]
        exact ⟨.lst s a, by rw [PyData.canLay0]; exact b⟩
    | _ => exact py_rep hr _ _ _ h e
end
def dRepr2 : D → GH → R D := fun d G => match (rsv G 3 d).py with
  | some q => if q.showable = true ∧ q.depth ≤ 60 ∧ q.shown.length ≤ sizeLine then .ok (.str q.shown) G else .no
  | none => .no
theorem cb_repr2 {K : PySem.W.Frag} : CbD K (one dRepr2) (rRepr K) := cb_one fun L G H d v W σ Q hr rd q => by
  unfold dRepr2 at q
  cases e : (rsv G 3 d).py with
  | none => rw [e] at q; exact q.elim
  | some x =>
    rw [e] at q
    dsimp only at q
    by_cases c : x.showable = true ∧ x.depth ≤ 60 ∧ x.shown.length ≤ sizeLine
    · rw [if_pos c] at q
      obtain ⟨a, b⟩ := rsv_rep hr 3 d v x rd e
      exact ⟨v, x, rfl, a, c.1, PyData.hasDict_of_canLay _ b, c.2.1, c.2.2, q L H _ (.refl L) hr (.str _)⟩
    · rw [if_neg c] at q; exact q.elim
theorem xe_repr2 {X : Cx} {W : WX} {pos p : Pos} {e : Expr} {g : FA} (hgd : X.A.guards = some []) (hu : X.A.units + 64 < cLine) (hm : X.mg "repr" = none) (ha : xA X W [e] g) (hg : Gl X "repr" := by rfl) (he : starEach [e] X.env = (false, eval e X.env) :: starEach [] X.env := by rfl) : xE X W (.Call (.Name "repr" p) [e] [] pos) (eCB (one dRepr2) g) :=
  xe_cb (cr_repr hgd hu) cb_repr2 hm PyProof.Rows.boot_repr ha hg (by decide) (by decide) he rfl
def pyEq2 (G : GH) (x y : D) : Option Bool := match (rsv G 3 x).py, (rsv G 3 y).py with
  | some d, some e => if d.depth ≤ 64 ∧ e.depth ≤ 64 then some (PyData.eqv d e) else none
  | _, _ => none
def dEq2 : F2 := fun x y G => match pyEq2 G x y with
  | some b => .ok (.bl b) G
  | none => .no
def dNe2 : F2 := fun x y G => match pyEq2 G x y with
  | some b => .ok (.bl (!b)) G
  | none => .no
theorem pyEq2_rep {K : PySem.W.Frag} {L : Lk} {G : GH} {H : Hp} (hr : HR K L G H) {x y : D} {v u : V} {b : Bool} (rx : Rep K L.Z L.r x v) (ry : Rep K L.Z L.r y u) (e : pyEq2 G x y = some b) :
    ∃ d d', Dp K H v d ∧ Dp K H u d' ∧ SeqAt.shaped d = true ∧ SeqAt.shaped d' = true ∧ PyData.eqv d d' = b := by
  unfold pyEq2 at e
  cases q1 : (rsv G 3 x).py with
  | none => rw [q1] at e; cases e
  | some d =>
    cases q2 : (rsv G 3 y).py with
    | none => rw [q1, q2] at e; cases e
    | some d' =>
      rw [q1, q2] at e
      have e' : (if d.depth ≤ 64 ∧ d'.depth ≤ 64 then some (PyData.eqv d d') else none) = some b := e
      by_cases k : d.depth ≤ 64 ∧ d'.depth ≤ 64
      · rw [if_pos k] at e'
        obtain ⟨a1, b1⟩ := rsv_rep hr 3 x v d rx q1
        obtain ⟨a2, b2⟩ := rsv_rep hr 3 y u d' ry q2
        exact ⟨d, d', a1, a2, lay_shaped b1 k.1, lay_shaped b2 k.2, Option.some.inj e'⟩
      · rw [if_neg k] at e'; cases e'
theorem o2_eq2 {K : PySem.W.Frag} : Op2 K dEq2 (rEqD K) := fun L G H x y v u W σ Q hr rx ry q => by
  unfold dEq2 at q
  cases e : pyEq2 G x y with
  | none => rw [e] at q; exact q.elim
  | some b =>
    rw [e] at q
    obtain ⟨d, d', h1, h2, h3, h4, h5⟩ := pyEq2_rep hr rx ry e
    subst h5
    exact ⟨d, d', h1, h2, h3, h4, q L H _ (.refl L) hr (.bl _)⟩
theorem o2_ne2 {K : PySem.W.Frag} : Op2 K dNe2 (rNeD K) := fun L G H x y v u W σ Q hr rx ry q => by
  unfold dNe2 at q
  cases e : pyEq2 G x y with
  | none => rw [e] at q; exact q.elim
  | some b =>
    rw [e] at q
    obtain ⟨d, d', h1, h2, h3, h4, h5⟩ := pyEq2_rep hr rx ry e
    subst h5
    exact ⟨d, d', h1, h2, h3, h4, q L H _ (.refl L) hr (.bl _)⟩
/-! == of texts -/
def dEqT : F2 := fun x y G => match x, y with
  | .str a, .str b => .ok (.bl (a == b)) G
  | _, _ => .no
def dNeT : F2 := fun x y G => match x, y with
  | .str a, .str b => .ok (.bl (!(a == b))) G
  | _, _ => .no
theorem o2_eqT {K : PySem.W.Frag} : Op2 K dEqT rEq := fun L G H x y v u W σ Q hr rx ry q => by
  cases rx with
  | str a =>
    cases ry with
    | str b => exact ⟨rfl, by rw [dec_str]; exact q L H _ (.refl L) hr (.bl _)⟩
    | _ => exact q.elim
  | _ => cases ry <;> exact q.elim
theorem o2_neT {K : PySem.W.Frag} : Op2 K dNeT rNe := fun L G H x y v u W σ Q hr rx ry q => by
  cases rx with
  | str a =>
    cases ry with
    | str b => exact ⟨rfl, by rw [dec_str]; exact q L H _ (.refl L) hr (.bl _)⟩
    | _ => exact q.elim
  | _ => cases ry <;> exact q.elim
theorem dEqT_str (a b : Str) (G : GH) : dEqT (.str a) (.str b) G = .ok (.bl (a == b)) G := rfl
theorem dNeT_str (a b : Str) (G : GH) : dNeT (.str a) (.str b) G = .ok (.bl (!(a == b))) G := rfl
/-! ### running -/
theorem tupIts_tup (xs : List D) : tupIts (.tup xs) = some xs := rfl
theorem tupIts_pt (xs : List D) : tupIts (.pt xs) = some xs := rfl
theorem tupIts_lst (xs : List D) : tupIts (.lst xs) = none := rfl
theorem tupIts_scr (xs : List D) : tupIts (.scr xs) = none := rfl
theorem tupIts_ref (n : Nat) : tupIts (.ref n) = none := rfl
theorem sz_lt' {n : Nat} (h : n < 100000) : n < sizeLine := Nat.lt_of_lt_of_le h (by decide)
theorem dTupP_lst (G : GH) (xs : List D) : dTupP (.lst xs) G = .ok (.pt xs) G := rfl
section
variable {E : XP} {nx : SP} {rt : D → GH → Prop} {bk ct : SP} {ex : Ex → DEnv → GH → Prop} (δ : DEnv) (G : GH)
theorem w_sPut (fo fi f : FE) : (sPut fo fi f δ G).wp nx rt bk ct ex = ((f δ G).thn δ fun d G1 => (fo δ G1).thn δ fun o G2 => (fi δ G2).thn δ fun i G3 => match putO G3 o i d with | some G4 => .nx δ G4 | none => .no).wp nx rt bk ct ex := rfl
theorem w_gPut (fo fi : FE) (d : D) : (gPut fo fi d δ G).wp nx rt bk ct ex = ((fo δ G).thn δ fun o G2 => (fi δ G2).thn δ fun i G3 => match putO G3 o i d with | some G4 => .nx δ G4 | none => .no).wp nx rt bk ct ex := rfl
theorem w_sPar2 (i j : Nat) (g : FA) : (sPar2 i j g δ G).wp nx rt bk ct ex = ((g δ G).thn δ fun ds G1 => match ds with | [a, b] => .nx ((δ.set i (some a)).set j (some b)) G1 | _ => .no).wp nx rt bk ct ex := rfl
theorem w_sPar3 (i j l : Nat) (g : FA) : (sPar3 i j l g δ G).wp nx rt bk ct ex = ((g δ G).thn δ fun ds G1 => match ds with | [a, b, c] => .nx (((δ.set i (some a)).set j (some b)).set l (some c)) G1 | _ => .no).wp nx rt bk ct ex := rfl
theorem w_sAugD (op : Int → Int → Int) (fo fi f : FE) : (sAugD op fo fi f δ G).wp nx rt bk ct ex = ((fo δ G).thn δ fun o G1 => (fi δ G1).thn δ fun i G2 => match dGetO G2 o i with
  | some (some (.int a)) => (f δ G2).thn δ fun y G3 => (match y, celD G3 o, keyD i with
    | .int b, some (n, kvs), some k => if kvs.length < sizeLine then .nx δ (G3.set n (.dK (putD kvs k (.int (op a b))))) else .no
    | _, _, _ => .no)
  | _ => .no).wp nx rt bk ct ex := rfl
variable {Q : D → GH → Prop}
theorem w_eDict0 (mk : List (Key × D) → GH → R D) : (eDict0 mk δ G).wp Q E = (mk [] G).wp Q E := rfl
theorem w_mkKF (ds : List (Key × D)) : (mkKF ds G).wp Q E = Q (.dK ds) G := rfl
theorem w_mkKM (ds : List (Key × D)) : (mkKM ds G).wp Q E = Q (.ref G.length) (G ++ [.dK ds]) := rfl
theorem w_eRev (mk : List D → GH → R D) (f : FE) : (eRev mk f δ G).wp Q E = ((f δ G).bind fun x G1 => match lstOf G1 x with | some xs => mk xs.reverse G1 | none => .no).wp Q E := rfl
theorem w_eGet2 (fo fk fx : FE) : (eGet2 fo fk fx δ G).wp Q E = ((fo δ G).bind fun o G1 => match dKOf G1 o with
  | some _ => (fk δ G1).bind fun k G2 => (fx δ G2).bind fun x G3 => (match dGetO G3 o k with
    | some (some d) => .ok d G3
    | some none => .ok x G3
    | none => .no)
  | none => .no).wp Q E := rfl
theorem w_eLenSet2 (f : FE) : (eLenSet2 f δ G).wp Q E = ((f δ G).bind fun d G1 => match (seqD G1 d).bind strsOf with | some xs => if xs.length < 4000 then .ok (.int (met xs).length) G1 else .no | none => .no).wp Q E := rfl
theorem w_iEn (g : FA) {Q : Its → GH → Prop} : (iEn g δ G).wp Q E = ((g δ G).bind fun ds G1 => match ds with
  | [x] => (match tupIts x, lstIts G1 x with
    | some ys, _ => .ok ⟨enumD 0 ys, fun _ => true⟩ G1
    | none, some it => .ok ⟨enumD 0 it.items, it.chk⟩ G1
    | none, none => .no)
  | _ => .no).wp Q E := rfl
theorem w_iZp (g : FA) {Q : Its → GH → Prop} : (iZp g δ G).wp Q E = ((g δ G).bind fun ds G1 => match ds with
  | [x, y] => (match tupIts x, tupIts y, lstIts G1 x, lstIts G1 y with
    | some xs, some ys, _, _ => .ok ⟨zipD xs ys, fun _ => true⟩ G1
    | none, none, some it, some it2 => .ok ⟨zipD it.items it2.items, fun G => it.chk G && it2.chk G⟩ G1
    | _, _, _, _ => .no)
  | _ => .no).wp Q E := rfl
theorem w_eCm {α : Type} (mk : α → GH → R D) (a0 : α) (em : FM1 α) (c : CD) (r : List CD) : (eCm mk a0 em c r δ G).wp Q E = ((c.fi δ G).bind fun it G1 => if it.chk G1 then (cmL it.chk c.g c.t (cmD em r) (wipeD δ c.vs) it.items a0 G1).nox.bind mk else .no).wp Q E := rfl
theorem w_cmDn {α : Type} {Q : α → GH → Prop} (em : FM1 α) (acc : α) : (cmD em [] δ G acc).wp Q E = (em δ G acc).wp Q E := rfl
theorem w_cmDc {α : Type} {Q : α → GH → Prop} (em : FM1 α) (c : CD) (r : List CD) (acc : α) : (cmD em (c :: r) δ G acc).wp Q E = ((c.fi δ G).nox.bind fun it G1 => if it.chk G1 then cmL it.chk c.g c.t (cmD em r) (wipeD δ c.vs) it.items acc G1 else .no).wp Q E := rfl
theorem w_emLd {Q : List D → GH → Prop} (f : FE) (acc : List D) : (emLd f δ G acc).wp Q E = ((f δ G).nox.bind fun y G1 => if acc.length < sizeLine then .ok (acc ++ [y]) G1 else .no).wp Q E := rfl
theorem w_emKd {Q : List (Key × D) → GH → Prop} (fk fv : FE) (acc : List (Key × D)) : (emKd fk fv δ G acc).wp Q E = ((fk δ G).nox.bind fun x G1 => (fv δ G1).nox.bind fun y G2 => match keyD x with | some k => if acc.length < sizeLine then .ok (putD acc k y) G2 else .no | none => .no).wp Q E := rfl
end
section
variable {E : XP} {chk : GH → Bool} {g : FG} {t : FT} {δ : DEnv} {G : GH}
/-- a for part of a comprehension by what holds behind the items done -/
theorem cm_inv {α β : Type} {deep : FM1 β} {a : β} {Q : β → GH → Prop} (enc : α → D) (xs : List α) (Inv : List α → β → GH → Prop) (h0 : Inv [] a G)
    (step : ∀ (pre : List α) (x : α) (post : List α) (acc : β) (G : GH), xs = pre ++ x :: post → Inv pre acc G →
      (g (enc x) δ G).wp (fun δ1 G1 => (t δ1 G1).wp (fun b G2 => if b = true then (deep δ1 G2 acc).wp (fun acc' G3 => chk G3 = true ∧ Inv (pre ++ [x]) acc' G3) noX else chk G2 = true ∧ Inv (pre ++ [x]) acc G2) noX) fR fS fS fX)
    (fin : ∀ acc G, Inv xs acc G → Q acc G) : (cmL chk g t deep δ (xs.map enc) a G).wp Q E := by
  have key : ∀ (post pre : List α) (acc : β) (G : GH), xs = pre ++ post → Inv pre acc G → (cmL chk g t deep δ (post.map enc) acc G).wp Q E := by
    intro post
    induction post with
    | nil =>
      intro pre acc G e h
      rw [List.append_nil] at e
      subst e
      exact fin acc G h
    | cons x post ih =>
      intro pre acc G e h
      have s := step pre x post acc G e h
      rw [List.map_cons]
      unfold cmL
      cases e1 : g (enc x) δ G with
      | nx δ1 G1 =>
        rw [e1] at s
        have s1 : (t δ1 G1).wp (fun b G2 => if b = true then (deep δ1 G2 acc).wp (fun acc' G3 => chk G3 = true ∧ Inv (pre ++ [x]) acc' G3) noX else chk G2 = true ∧ Inv (pre ++ [x]) acc G2) noX := s
        dsimp only
        obtain ⟨b, G2, e2, s2⟩ := R.wp_ex_iff.mp s1
        rw [e2, R.nox_ok, R.bind_ok]
        cases b with
        | true =>
          rw [if_pos rfl] at s2 ⊢
          obtain ⟨acc', G3, e3, hk, s3⟩ := R.wp_ex_iff.mp s2
          rw [e3, R.nox_ok, R.bind_ok, if_pos hk]
          exact ih (pre ++ [x]) acc' G3 (by rw [e]; simp) s3
        | false =>
          rw [if_neg Bool.false_ne_true] at s2 ⊢
          rw [if_pos s2.1]
          exact ih (pre ++ [x]) acc G2 (by rw [e]; simp) s2.2
      | rt d G => rw [e1] at s; exact s.elim
      | bk δ1 G => rw [e1] at s; exact s.elim
      | ct δ1 G => rw [e1] at s; exact s.elim
      | ex x δ1 G => rw [e1] at s; exact s.elim
      | no => rw [e1] at s; exact s.elim
  exact key xs [] a G rfl h0
end
section
variable {nx : SP} {rt : D → GH → Prop} {bk ct : SP} {ex : Ex → DEnv → GH → Prop} {t : FT} {b : FS} {δ : DEnv} {G : GH}
/-- while by what holds ahead of each turn; m: a measure -/
theorem wh_inv (Inv : Nat → DEnv → GH → Prop) (m n : Nat) (h0 : Inv m δ G) (hn : m < n)
    (step : ∀ (m : Nat) (δ : DEnv) (G : GH), Inv m δ G → (t δ G).wp (fun k G1 => if k = true then (b δ G1).wp (fun δ2 G2 => ∃ m', m' < m ∧ Inv m' δ2 G2) rt nx (fun δ2 G2 => ∃ m', m' < m ∧ Inv m' δ2 G2) ex else nx δ G1) (fun x G1 => ex x δ G1)) :
    (sWhile t b n δ G).wp nx rt bk ct ex := by
  induction n generalizing m δ G with
  | zero => omega
  | succ n ih =>
    have s := step m δ G h0
    unfold sWhile
    rw [sp_thn]
    refine R.wp_mono s (fun k G1 q => ?_) fun x G1 q => q
    cases k with
    | false => exact q
    | true =>
      rw [if_pos rfl] at q ⊢
      cases e : b δ G1 with
      | nx δ2 G2 => rw [e] at q; obtain ⟨m', h1, h2⟩ := q; exact ih m' h2 (by omega)
      | ct δ2 G2 => rw [e] at q; obtain ⟨m', h1, h2⟩ := q; exact ih m' h2 (by omega)
      | bk δ2 G2 => rw [e] at q; exact q
      | rt d G2 => rw [e] at q; exact q
      | ex x δ2 G2 => rw [e] at q; exact q
      | no => rw [e] at q; exact q
end
end CF
end
section
set_option maxRecDepth 100000
set_option maxHeartbeats 4000000
namespace CF
namespace OA
open PySem PySem.Spec PyProof.Rows L2
noncomputable def b_is_name  : FS :=
    (sSeq (sIf (tOrD (tNotD (eTru (eOne (eVar 0) (dIsi "str")))) (tNotD (asB (eChain dLe dLe (eC (.int 1)) (eCB (one dLen) (aCons (eVar 0) aNil)) (eC (.int (8))))))) (sRet (eC (.bl false))) sNext)
    (sRet (eCB (one dAll) (aCons (eLc mkF (iSeq (eVar 0)) (gNm 1) tYesD (eOp dIn (eVar 1) (eC (.str "abcdefghijklmnopqrstuvwxyz"))) [1]) aNil))))
noncomputable def b_is_order (f_is_name : List D → GH → R D) : FS :=
    (sSeq (sIf (tOrD (tNotD (eTru (eOne (eVar 0) (dIsiT ["list", "tuple"])))) (tNotD (eTru (eCB (one dAll) (aCons (eLc mkF (iSeq (eVar 0)) (gNm 1) tYesD (eCall 1 f_is_name [] (aCons (eVar 1) aNil)) [1]) aNil))))) (sRet (eC (.bl false))) sNext)
    (sRet (eOp dEq (eLenSet2 (eVar 0)) (eCB (one dLen) (aCons (eVar 0) aNil)))))
noncomputable def b_check_orders (f_is_order : List D → GH → R D) : FS :=
    (sSeq (sIf (tOrD (tNotD (eTru (eOne (eVar 0) (dIsi "list")))) (tNotD (eTru (eCB (one dAll) (aCons (eLc mkF (iSeq (eVar 0)) (gNm 1) tYesD (eCall 1 f_is_order [] (aCons (eVar 1) aNil)) [1]) aNil))))) sDead sNext)
    (sIf (tOrD (asB (eOp dGt (eCB (one dLen) (aCons (eVar 0) aNil)) (eC (.int (40))))) (eTru (eCB (one dAny) (aCons (eLc mkF (iSeq (eVar 0)) (gNm 1) tYesD (eOp dGt (eCB (one dLen) (aCons (eVar 1) aNil)) (eC (.int (40)))) [1]) aNil)))) sDead sNext))
noncomputable def b_links_of  : FS :=
    (sRet (eCm mkF [] (emLd (eTup (aCons (eVar 3) (aCons (eVar 4) (aCons (eVar 1) aNil))))) ⟨(iEn (aCons (eVar 0) aNil)), (gTp 2 (gsCons (gNm 1) (gsCons (gNm 2) gsNil))), tYesD, [1, 2, 3, 4]⟩ [⟨(iZp (aCons (eVar 2) (aCons (eSl mkF (eVar 2) (some (eC (.int 1))) none) aNil))), (gTp 2 (gsCons (gNm 3) (gsCons (gNm 4) gsNil))), tYesD, [3, 4]⟩]))
noncomputable def b_nexts_of (f_links_of : List D → GH → R D) : FS :=
    (sSeq (sSet 1 (eCm mkKF [] (emKd (eVar 3) (eLstM aNil)) ⟨(iSeq (eVar 0)), (gNm 2), tYesD, [2, 3]⟩ [⟨(iSeq (eVar 2)), (gNm 3), tYesD, [3]⟩]))
    (sSeq (sFor (iSeq (eCall 1 f_links_of [] (aCons (eVar 0) aNil))) (gTp 3 (gsCons (gNm 3) (gsCons (gNm 4) (gsCons (gNm 5) gsNil)))) (sDrop (eMt "list" mAppend (eOp dIx (eVar 1) (eVar 3)) (aCons (eVar 4) aNil))))
    (sRet (eVar 1))))
noncomputable def b_reached_from  : FS :=
    (sSeq (sSet 2 (eDict0 mkKM))
    (sSeq (sSet 3 (eLstM (aCons (eVar 1) aNil)))
    (sSeq (sWhile (eTru (eVar 3)) (sFor (iSeq (eOp dIx (eVar 0) (eMt0 "list" mPop (eVar 3)))) (gNm 4) (sIf (asB (eOp dNotIn (eVar 4) (eVar 2))) (sSeq (sPut (eVar 2) (eVar 4) (eC (.bl true)))
    (sDrop (eMt "list" mAppend (eVar 3) (aCons (eVar 4) aNil)))) sNext)) 1000000)
    (sRet (eVar 2)))))
noncomputable def b_links_on_rings (f_nexts_of : List D → GH → R D) (f_reached_from : List D → GH → R D) (f_links_of : List D → GH → R D) : FS :=
    (sSeq (sSet 1 (eCall 1 f_nexts_of [] (aCons (eVar 0) aNil)))
    (sSeq (sSet 2 (eCm mkKF [] (emKd (eVar 3) (eCall 2 f_reached_from [] (aCons (eVar 1) (aCons (eVar 3) aNil)))) ⟨(iSeq (eVar 1)), (gNm 3), tYesD, [3]⟩ []))
    (sRet (eLc mkF (iSeq (eCall 1 f_links_of [] (aCons (eVar 0) aNil))) (gNm 4) (asB (eOp dIn (eOp dIx (eVar 4) (eC (.int 0))) (eOp dIx (eVar 2) (eOp dIx (eVar 4) (eC (.int 1)))))) (eVar 4) [4]))))
noncomputable def b_ring_in  : FS :=
    (sSeq (sSet 1 (eLstM (aCons (eOp dIx (eVar 0) (eC (.int 0))) aNil)))
    (sWhile (eTru (eC (.bl true))) (sSeq (sSet 2 (eLc mkF (iSeq (eVar 1)) (gNm 3) tYesD (eOp dIx (eVar 3) (eC (.int 0))) [3]))
    (sSeq (sIf (asB (eOp dIn (eOp dIx (eOp dIx (eVar 1) (eUn dNeg (eC (.int 1)))) (eC (.int 1))) (eVar 2))) (sRet (eLc mkM (iSeq (eSl mkF (eVar 1) (some (eMt "list" mIdxS (eVar 2) (aCons (eOp dIx (eOp dIx (eVar 1) (eUn dNeg (eC (.int 1)))) (eC (.int 1))) aNil))) none)) (gTp 3 (gsCons (gNm 4) (gsCons (gNm 5) (gsCons (gNm 6) gsNil)))) tYesD (eTup (aCons (eVar 4) (aCons (eVar 6) aNil))) [4, 5, 6])) sNext)
    (sDrop (eMt "list" mAppend (eVar 1) (aCons (eOp dIx (eLc mkF (iSeq (eVar 0)) (gNm 3) (asB (eOp dEq (eOp dIx (eVar 3) (eC (.int 0))) (eOp dIx (eOp dIx (eVar 1) (eUn dNeg (eC (.int 1)))) (eC (.int 1))))) (eVar 3) [3]) (eC (.int 0))) aNil))))) 1000000))
noncomputable def b_first_free  : FS :=
    (sSeq (sFor (iSeq (eVar 0)) (gNm 2) (sIf (asB (eOp dEq (eOp dIx (eVar 1) (eVar 2)) (eC (.int 0)))) (sRet (eVar 2)) sNext))
    (sRet (eC .non)))
noncomputable def b_kept_order (f_nexts_of : List D → GH → R D) (f_links_of : List D → GH → R D) (f_first_free : List D → GH → R D) : FS :=
    (sSeq (sSet 1 (eCall 1 f_nexts_of [] (aCons (eVar 0) aNil)))
    (sSeq (sSet 2 (eCm mkKM [] (emKd (eVar 3) (eC (.int 0))) ⟨(iSeq (eVar 1)), (gNm 3), tYesD, [3]⟩ []))
    (sSeq (sFor (iSeq (eCall 1 f_links_of [] (aCons (eVar 0) aNil))) (gTp 3 (gsCons (gNm 3) (gsCons (gNm 4) (gsCons (gNm 5) gsNil)))) (sAugD (· + ·) (eVar 2) (eVar 4) (eC (.int 1))))
    (sSeq (sPar2 6 7 (aCons (eCB (one (dSorted2 mkM)) (aCons (eVar 1) aNil)) (aCons (eLstM aNil) aNil)))
    (sSeq (sWhile (eTru (eVar 6)) (sSeq (sSet 8 (eCall 2 f_first_free [] (aCons (eVar 6) (aCons (eVar 2) aNil))))
    (sSeq (sIf (asB (eOp dIsN (eVar 8) (eC .non))) (sRet (eC .non)) sNext)
    (sSeq (sDrop (eMt "list" mAppend (eVar 7) (aCons (eVar 8) aNil)))
    (sSeq (sDrop (eMt "list" mRemS (eVar 6) (aCons (eVar 8) aNil)))
    (sFor (iSeq (eOp dIx (eVar 1) (eVar 8))) (gNm 4) (sAugD (· - ·) (eVar 2) (eVar 4) (eC (.int 1)))))))) 1000000)
    (sRet (eVar 7)))))))
noncomputable def b_least_order (f_check_orders : List D → GH → R D) (f_kept_order : List D → GH → R D) (f_ring_in : List D → GH → R D) (f_links_on_rings : List D → GH → R D) : FS :=
    (sSeq (sDrop (eCall 1 f_check_orders [] (aCons (eVar 0) aNil)))
    (sSeq (sSet 1 (eCall 1 f_kept_order [] (aCons (eVar 0) aNil)))
    (sSeq (sIf (asB (eOp dIsN (eVar 1) (eC .non))) (sRet (eTup (aCons (eC (.str "ring")) (aCons (eCall 1 f_ring_in [] (aCons (eCall 1 f_links_on_rings [] (aCons (eVar 0) aNil)) aNil)) aNil)))) sNext)
    (sRet (eTup (aCons (eC (.str "order")) (aCons (eVar 1) aNil)))))))
noncomputable def b__law_cell_at  : FS :=
    (sSeq (sIf (asB (eOp dLt (eVar 1) (eCB (one dLen) (aCons (eVar 0) aNil)))) (sRet (eOp dIx (eVar 0) (eVar 1))) sNext)
    (sRet (eC (.int 0))))
noncomputable def b__law_source  : FS :=
    (sRet (eLstM (aCons (eOp dMulI (eVar 0) (eCB (one dInt) (aCons (eOp dGe (eVar 0) (eOp dPow (eC (.int 10)) (eC (.int 18)))) aNil))) (aCons (eOp dMod (eVar 0) (eC (.int 2147483647))) (aCons (eC (.int 0)) aNil)))))
noncomputable def b__law_draw  : FS :=
    (sSeq (sIf (asB (eOp dGt (eOp dIx (eVar 0) (eC (.int 0))) (eC (.int 0)))) (sSeq (sSet 2 (eOp dMod (eOp dIx (eVar 0) (eC (.int 0))) (eVar 1)))
    (sSeq (sPut (eVar 0) (eC (.int 0)) (eOp dDiv (eOp dIx (eVar 0) (eC (.int 0))) (eVar 1)))
    (sRet (eVar 2)))) sNext)
    (sSeq (sPut (eVar 0) (eC (.int 2)) (eOp (dAdd mkF) (eOp dIx (eVar 0) (eC (.int 2))) (eC (.int 1))))
    (sSeq (sSet 3 (eOp dMod (eOp dPow (eOp (dAdd mkF) (eOp (dAdd mkF) (eOp dIx (eVar 0) (eC (.int 1))) (eOp dMulI (eC (.int 7919)) (eOp dIx (eVar 0) (eC (.int 2))))) (eC (.int 1))) (eC (.int 5))) (eC (.int 2147483629))))
    (sSeq (sSet 3 (eOp dMod (eOp dMulI (eVar 3) (eOp (dAdd mkF) (eOp (dAdd mkF) (eOp dDiv (eVar 3) (eC (.int 1009))) (eC (.int 69621))) (eOp dIx (eVar 0) (eC (.int 2))))) (eC (.int 2147483587))))
    (sRet (eOp dMod (eOp dDiv (eOp dMod (eOp dMulI (eVar 3) (eOp (dAdd mkF) (eOp dDiv (eVar 3) (eC (.int 2003))) (eC (.int 40692)))) (eC (.int 2147483579))) (eC (.int 7))) (eVar 1)))))))
noncomputable def b__law_names (f__law_draw : List D → GH → R D) : FS :=
    (sSeq (sSet 1 (eSl mkM (eLst (aCons (eC (.str "a")) (aCons (eC (.str "b")) (aCons (eC (.str "c")) (aCons (eC (.str "dd")) (aCons (eC (.str "e")) (aCons (eC (.str "eightlet")) (aCons (eC (.str "x")) (aCons (eC (.str "z")) aNil))))))))) none (some (eOp (dAdd mkF) (eC (.int 2)) (eCall 2 f__law_draw [] (aCons (eVar 0) (aCons (eC (.int 7)) aNil)))))))
    (sSeq (sSet 2 (eLstM aNil))
    (sSeq (sWhile (asB (eOp dNe (eVar 1) (eLst aNil))) (sDrop (eMt "list" mAppend (eVar 2) (aCons (eMt "list" mPopAt (eVar 1) (aCons (eCall 2 f__law_draw [] (aCons (eVar 0) (aCons (eCB (one dLen) (aCons (eVar 1) aNil)) aNil))) aNil)) aNil))) 1000000)
    (sRet (eVar 2)))))
noncomputable def b__law_some (f__law_draw : List D → GH → R D) : FS :=
    (sSeq (sSet 2 (eOp (dAdd mkF) (eC (.int 1)) (eCall 2 f__law_draw [] (aCons (eVar 0) (aCons (eC (.int 4)) aNil)))))
    (sRet (eLc mkM (iSeq (eVar 1)) (gNm 3) (asB (eOp dLt (eCall 2 f__law_draw [] (aCons (eVar 0) (aCons (eC (.int 4)) aNil))) (eVar 2))) (eVar 3) [3])))
noncomputable def b__law_orders (f__law_names : List D → GH → R D) (f__law_draw : List D → GH → R D) (f__law_some : List D → GH → R D) : FS :=
    (sSeq (sSet 2 (eCall 1 f__law_names [] (aCons (eVar 0) aNil)))
    (sSeq (sSet 3 (eCall 2 f__law_draw [] (aCons (eVar 0) (aCons (eC (.int 4)) aNil))))
    (sSeq (sSet 4 (eLstM aNil))
    (sSeq (sFor (iRg1 (aCons (eCall 2 f__law_draw [] (aCons (eVar 0) (aCons (eOp (dAdd mkF) (eVar 1) (eC (.int 1))) aNil))) aNil)) (gNm 5) (sSeq (sSet 6 (eCall 2 f__law_some [] (aCons (eVar 0) (aCons (eVar 2) aNil))))
    (sSeq (sIf (tAndD (asB (eOp dGt (eCB (one dLen) (aCons (eVar 6) aNil)) (eC (.int 1)))) (tOrD (tAndD (asB (eOp dEq (eVar 3) (eC (.int 1)))) (asB (eOp dEq (eVar 5) (eC (.int 1))))) (tAndD (asB (eOp dEq (eVar 3) (eC (.int 2)))) (asB (eOp dEq (eCall 2 f__law_draw [] (aCons (eVar 0) (aCons (eC (.int 4)) aNil))) (eC (.int 0))))))) (sSeq (sSet 7 (eCall 2 f__law_draw [] (aCons (eVar 0) (aCons (eOp dSub (eCB (one dLen) (aCons (eVar 6) aNil)) (eC (.int 1))) aNil))))
    (sAsg (eTup (aCons (eOp dIx (eVar 6) (eOp (dAdd mkF) (eVar 7) (eC (.int 1)))) (aCons (eOp dIx (eVar 6) (eVar 7)) aNil))) (gTp 2 (gsCons (gPut (eVar 6) (eVar 7)) (gsCons (gPut (eVar 6) (eOp (dAdd mkF) (eVar 7) (eC (.int 1)))) gsNil))))) sNext)
    (sSeq (sIf (asB (eOp dEq (eVar 3) (eC (.int 3)))) (sSet 6 (eCall 2 f__law_some [] (aCons (eVar 0) (aCons (eCall 1 f__law_names [] (aCons (eVar 0) aNil)) aNil)))) sNext)
    (sSeq (sIf (asB (eOp dEq (eCall 2 f__law_draw [] (aCons (eVar 0) (aCons (eC (.int 2)) aNil))) (eC (.int 0)))) (sSet 6 (eCB (one dTuple) (aCons (eVar 6) aNil))) sNext)
    (sDrop (eMt "list" mAppend (eVar 4) (aCons (eVar 6) aNil))))))))
    (sRet (eVar 4))))))
noncomputable def b__law_ahead  : FS :=
    (sSeq (sSet 1 (eDict0 mkKM))
    (sSeq (sFor (iSeq (eVar 0)) (gNm 2) (sFor (iEn (aCons (eVar 2) aNil)) (gTp 2 (gsCons (gNm 3) (gsCons (gNm 4) gsNil))) (sPut (eVar 1) (eVar 4) (eOp (dAdd mkF) (eGet2 (eVar 1) (eVar 4) (eLst aNil)) (eCB (one (dList mkF)) (aCons (eSl mkF (eVar 2) none (some (eVar 3))) aNil))))))
    (sRet (eVar 1))))
noncomputable def b__law_least (f__law_ahead : List D → GH → R D) : FS :=
    (sSeq (sSet 1 (eCall 1 f__law_ahead [] (aCons (eVar 0) aNil)))
    (sSeq (sSet 2 (eLstM aNil))
    (sSeq (sWhile (asB (eOp dLt (eCB (one dLen) (aCons (eVar 2) aNil)) (eCB (one dLen) (aCons (eVar 1) aNil)))) (sSeq (sSet 3 (eLc mkF (iSeq (eCB (one (dSorted2 mkF)) (aCons (eVar 1) aNil))) (gNm 4) (asB (eOp dNotIn (eVar 4) (eVar 2))) (eVar 4) [4]))
    (sSeq (sSet 3 (eLc mkF (iSeq (eVar 3)) (gNm 4) (asB (eOp dEq (eLc mkF (iSeq (eOp dIx (eVar 1) (eVar 4))) (gNm 5) (asB (eOp dNotIn (eVar 5) (eVar 2))) (eVar 5) [5]) (eLst aNil))) (eVar 4) [4]))
    (sSeq (sIf (asB (eOp dEq (eVar 3) (eLst aNil))) (sRet (eC .non)) sNext)
    (sDrop (eMt "list" mAppend (eVar 2) (aCons (eOp dIx (eVar 3) (eC (.int 0))) aNil)))))) 1000000)
    (sRet (eVar 2)))))
noncomputable def b__law_is_ring  : FS :=
    (sSeq (sIf (tOrD (tNotD (eTru (eOne (eVar 1) (dIsi "list")))) (asB (eOp dLt (eCB (one dLen) (aCons (eVar 1) aNil)) (eC (.int 2))))) (sRet (eC (.bl false))) sNext)
    (sSeq (sFor (iSeq (eVar 1)) (gNm 2) (sSeq (sIf (tOrD (tNotD (eTru (eOne (eVar 2) (dIsi "tuple")))) (tOrD (asB (eOp dNe (eCB (one dLen) (aCons (eVar 2) aNil)) (eC (.int 2)))) (tNotD (eTru (eOne (eOp dIx (eVar 2) (eC (.int 0))) (dIsi "str")))))) (sRet (eC (.bl false))) sNext)
    (sIf (tOrD (tNotD (eTru (eOne (eOp dIx (eVar 2) (eC (.int 1))) (dIsi "int")))) (tOrD (eTru (eOne (eOp dIx (eVar 2) (eC (.int 1))) (dIsi "bool"))) (tNotD (asB (eChain dLe dLt (eC (.int 0)) (eOp dIx (eVar 2) (eC (.int 1))) (eCB (one dLen) (aCons (eVar 0) aNil))))))) (sRet (eC (.bl false))) sNext)))
    (sSeq (sSet 3 (eLc mkF (iSeq (eVar 1)) (gNm 2) tYesD (eOp dIx (eVar 2) (eC (.int 0))) [2]))
    (sSeq (sIf (asB (eOp dLt (eLenSet2 (eVar 3)) (eCB (one dLen) (aCons (eVar 3) aNil)))) (sRet (eC (.bl false))) sNext)
    (sSeq (sFor (iRg1 (aCons (eCB (one dLen) (aCons (eVar 1) aNil)) aNil)) (gNm 4) (sSeq (sSet 5 (eCB (one (dList mkF)) (aCons (eOp dIx (eVar 0) (eOp dIx (eOp dIx (eVar 1) (eVar 4)) (eC (.int 1)))) aNil)))
    (sSeq (sPar2 6 7 (aCons (eOp dIx (eVar 3) (eVar 4)) (aCons (eOp dIx (eVar 3) (eOp dMod (eOp (dAdd mkF) (eVar 4) (eC (.int 1))) (eCB (one dLen) (aCons (eVar 1) aNil)))) aNil)))
    (sIf (tOrD (asB (eOp dNotIn (eVar 6) (eVar 5))) (tOrD (asB (eOp dNotIn (eVar 7) (eVar 5))) (asB (eOp dGe (eMt "list" mIdxS (eVar 5) (aCons (eVar 6) aNil)) (eMt "list" mIdxS (eVar 5) (aCons (eVar 7) aNil)))))) (sRet (eC (.bl false))) sNext))))
    (sRet (eC (.bl true))))))))
noncomputable def b__law_right (f__law_least : List D → GH → R D) (f_least_order : List D → GH → R D) (f__law_is_ring : List D → GH → R D) : FS :=
    (sSeq (sSet 1 (eCB (one dRepr2) (aCons (eVar 0) aNil)))
    (sSeq (sPar2 2 3 (aCons (eCall 1 f_least_order [] (aCons (eVar 0) aNil)) (aCons (eCall 1 f__law_least [] (aCons (eVar 0) aNil)) aNil)))
    (sSeq (sIf (tOrD (tNotD (eTru (eOne (eVar 2) (dIsi "tuple")))) (tOrD (asB (eOp dNe (eCB (one dLen) (aCons (eVar 2) aNil)) (eC (.int 2)))) (tNotD (eTru (eOne (eOp dIx (eVar 2) (eC (.int 1))) (dIsi "list")))))) (sRet (eC (.bl false))) sNext)
    (sSeq (sIf (tAndD (asB (eOp dNotN (eVar 3) (eC .non))) (asB (eOp dNeT (eCB (one dRepr2) (aCons (eVar 2) aNil)) (eCB (one dRepr2) (aCons (eTup (aCons (eC (.str "order")) (aCons (eVar 3) aNil))) aNil))))) (sRet (eC (.bl false))) sNext)
    (sSeq (sIf (tAndD (asB (eOp dNotN (eVar 3) (eC .non))) (asB (eOp dNeT (eCB (one dRepr2) (aCons (eCall 1 f_least_order [] (aCons (eRev mkF (eVar 0)) aNil)) aNil)) (eCB (one dRepr2) (aCons (eVar 2) aNil))))) (sRet (eC (.bl false))) sNext)
    (sSeq (sIf (tAndD (asB (eOp dIsN (eVar 3) (eC .non))) (tOrD (asB (eOp dNe (eOp dIx (eVar 2) (eC (.int 0))) (eC (.str "ring")))) (tNotD (eTru (eCall 2 f__law_is_ring [] (aCons (eVar 0) (aCons (eOp dIx (eVar 2) (eC (.int 1))) aNil))))))) (sRet (eC (.bl false))) sNext)
    (sSeq (sSet 4 (eCB (one dRepr2) (aCons (eVar 2) aNil)))
    (sSeq (sDrop (eMt "list" mAppend (eOp dIx (eVar 2) (eC (.int 1))) (aCons (eC (.str "q")) aNil)))
    (sRet (eAnd (eOp dEqT (eCB (one dRepr2) (aCons (eCall 1 f_least_order [] (aCons (eVar 0) aNil)) aNil)) (eVar 4)) (eOp dEqT (eCB (one dRepr2) (aCons (eVar 0) aNil)) (eVar 1))))))))))))
noncomputable def b_law (f__law_right : List D → GH → R D) (f__law_cell_at : List D → GH → R D) (f__law_orders : List D → GH → R D) (f__law_source : List D → GH → R D) : FS :=
    (sSeq (sSet 1 (eLst (aCons (eLst aNil) (aCons (eLst (aCons (eLst aNil) aNil)) (aCons (eLst (aCons (eTup aNil) (aCons (eLst (aCons (eC (.str "a")) aNil)) aNil))) (aCons (eLst (aCons (eLst (aCons (eC (.str "b")) (aCons (eC (.str "a")) aNil))) (aCons (eTup (aCons (eC (.str "a")) (aCons (eC (.str "b")) aNil))) aNil))) (aCons (eLst (aCons (eLst (aCons (eC (.str "z")) aNil)) (aCons (eLst (aCons (eC (.str "a")) aNil)) aNil))) aNil)))))))
    (sSeq (sFor (iSeq (eOp (dAdd mkF) (eVar 1) (eLst (aCons (eLst (aCons (eLst (aCons (eC (.str "a")) (aCons (eC (.str "b")) aNil))) (aCons (eLst (aCons (eC (.str "b")) (aCons (eC (.str "c")) aNil))) (aCons (eLst (aCons (eC (.str "c")) (aCons (eC (.str "a")) aNil))) aNil)))) aNil)))) (gNm 2) (sIf (tNotD (eTru (eCall 1 f__law_right [] (aCons (eVar 2) aNil)))) (sRet (eC (.bl false))) sNext))
    (sSeq (sFor (iSeq (eOp (dAdd mkF) (eLst (aCons (eCall 2 f__law_cell_at [] (aCons (eVar 0) (aCons (eC (.int 0)) aNil))) aNil)) (eSl mkF (eVar 0) (some (eC (.int 1))) (some (eC (.int 8)))))) (gNm 3) (sIf (tNotD (eTru (eCall 1 f__law_right [] (aCons (eCall 2 f__law_orders [] (aCons (eCall 1 f__law_source [] (aCons (eVar 3) aNil)) (aCons (eC (.int 7)) aNil))) aNil)))) (sRet (eC (.bl false))) sNext))
    (sRet (eC (.bl true))))))
end OA
end CF
end
section
set_option maxRecDepth 100000
set_option maxHeartbeats 4000000
namespace CF
namespace OA
open PySem PySem.Spec PyProof.Rows L2 
local macro_rules
  | `(tactic| exists $es,*) => `(tactic| simp (disch := first | assumption | omega | (simp only [List.length_set, List.length_append, List.length_cons, List.length_nil]; omega)) only [↓wp_ok, ↓wp_ex, ↓wp_bind, ↓wp_guard, ↓wp_nox, ↓sp_nx, ↓sp_rt, ↓sp_bk, ↓sp_ct, ↓sp_ex, ↓sp_seq, ↓sp_thn, ↓sp_guard,
      ↓w_eC, ↓w_eVar, ↓w_aNil, ↓w_aCons, ↓w_eTup, ↓w_eTupP, ↓w_eLst, ↓w_eLstM, ↓w_eOp, ↓w_eChain, ↓w_asB, ↓w_tAnd, ↓w_tOr, ↓w_tNot, ↓w_eTru, ↓w_eIf, ↓w_sNext, ↓w_sSeq, ↓w_sRet, ↓w_sRetN, ↓w_sIf, ↓w_sSet, ↓w_sDrop, ↓w_sBreak, ↓w_sCont, ↓w_gNm, ↓w_gsNil, ↓w_gsCons, ↓w_gTp, ↓w_sAsg, ↓w_eOne, ↓w_eUn, ↓w_eCB, ↓w_one, ↓w_eCall, ↓w_eAnd, ↓w_eOr, ↓w_eNot, ↓w_iSeq, ↓w_eLc, ↓w_mkF, ↓w_mkM, ↓w_tYes, ↓w_eMt, ↓w_eMt0, ↓w_iRg1, ↓w_sPut, ↓w_gPut, ↓w_sPar2, ↓w_sPar3, ↓w_sAugD, ↓w_eDict0, ↓w_mkKF, ↓w_mkKM, ↓w_eRev, ↓w_eGet2, ↓w_eLenSet2, ↓w_iEn, ↓w_iZp, ↓w_eCm, ↓w_cmDn, ↓w_cmDc, ↓w_emLd, ↓w_emKd, keyD_str, keyD_int, dKOf_dK, dKOf_ref, celL_ref, celD_ref, lstIts_lst, tupIts_tup, tupIts_pt, tupIts_lst, tupIts_scr, tupIts_ref, strsOf_map,
      wipeD_nil, wipeD_cons, List.cons_append, List.nil_append, List.append_nil, ap_setI, eSl_ap, eOpt_none, eOpt_some,
      List.getElem?_cons_zero, List.getElem?_cons_succ, List.set_cons_zero, List.set_cons_succ, List.length_cons, List.length_nil, List.length_set, Nat.zero_add, Nat.reduceAdd, Nat.reduceSub, Nat.add_one_sub_one, List.length_append,
      itsD_tup, itsD_pt, itsD_lst, itsD_scr, dIx_tup, dIx_pt, dIx_lst, dIx_scr, atI_0, atI_1, atI_2, dAdd_int, dAdd_tup, dAdd_pt, dAdd_lst, dAdd_str, dInt_int, dInt_bl, dStr_int, dStr_str, dIsi_ap, dLen_lst, dLen_tup, dLen_pt, dLen_scr, dIsN_non, dNotN_non, dNeg_ap, dIB_ap, dI_ap,
      dEq_int, dNe_int, truD_bl, truD_non, truD_int, dSl_tup, dSl_pt, dSl_lst, dSl_scr, dTupP_lst, decide_true, decide_false, if_true, if_false, Bool.false_eq_true, Bool.not_true, Bool.not_false, eq_self, true_and, and_true, sz_le, sz_lt, rngIts_items, rngIts_chk, beq_self_eq_true, R.bind_ok, R.nox_ok, tyM_ref, mAppend_ref, mExtend_ref, ge1, ge2a, ge2b, ge3a, ge3b, ge3c, ge3d, st1, st2a, st2b, st3a, st3b, st3c, st3d, tyN, Bool.and_self, Bool.and_true, Bool.true_and, Bool.and_false, Bool.false_and, Bool.or_true, Bool.true_or, Bool.or_false, Bool.false_or, Int.reduceLT, Int.reduceLE, Int.reduceGT, Int.reduceNeg, Int.reduceAdd, Int.reduceSub, Int.reduceBEq, Int.reduceBNe, Int.reduceEq, Int.reduceToNat, Nat.reduceEqDiff, Nat.reduceLeDiff, reduceCtorEq, Int.natCast_zero, Int.cast_ofNat_Int, Int.lt_irrefl, List.map_nil, decide_eq_true_eq,
      isi_NoneType_int, isi_NoneType_str, isi_NoneType_bool, isi_NoneType_tuple, isi_NoneType_list, isi_NoneType_dict, isi_bool_int, isi_bool_str, isi_bool_bool, isi_bool_tuple, isi_bool_list, isi_bool_dict, isi_int_int, isi_int_str, isi_int_bool, isi_int_tuple, isi_int_list, isi_int_dict, isi_str_int, isi_str_str, isi_str_bool, isi_str_tuple, isi_str_list, isi_str_dict, isi_tuple_int, isi_tuple_str, isi_tuple_bool, isi_tuple_tuple, isi_tuple_list, isi_tuple_dict, isi_list_int, isi_list_str, isi_list_bool, isi_list_tuple, isi_list_list, isi_list_dict, isi_dict_int, isi_dict_str, isi_dict_bool, isi_dict_tuple, isi_dict_list, isi_dict_dict, $[$es:term],*])
  | `(tactic| and_intros) => `(tactic| (rw [wp_def]; simp only [startD, List.map_cons, List.map_nil, List.length_cons, List.length_nil, Nat.zero_add, Nat.reduceAdd, Nat.reduceSub, List.replicate, List.cons_append, List.nil_append]))
/-! ### what is drawn -/
structure Src where
  a : Int
  b : Int
  c : Int
def Src.cell (w : Src) : Cell := .lst [.int w.a, .int w.b, .int w.c]
/-- a source that has been asked fewer than n times -/
def Src.ok (w : Src) (n : Int) : Prop := 0 ≤ w.b ∧ w.b < 2147483647 ∧ 0 ≤ w.c ∧ w.c < n
theorem Src.ok.mono {w : Src} {n m : Int} (h : w.ok n) (l : n ≤ m) : w.ok m := ⟨h.1, h.2.1, h.2.2.1, by have := h.2.2.2; omega⟩
noncomputable def F_draw : List D → GH → R D := defF ["_law_source_here", "_law_size", "_law_digit", "_law_number"] b__law_draw
def DrawOk (f : List D → GH → R D) : Prop := ∀ (w : Src) (m : Int) (n : Nat) (G : GH) (k : Int), G[n]? = some w.cell → 0 < m → m < 18446744073709551616 → w.ok k → k ≤ 1000000000 →
    ∃ (r : Int) (w' : Src), f [.ref n, .int m] G = .ok (.int r) (G.set n w'.cell) ∧ 0 ≤ r ∧ r < m ∧ w'.ok (k + 1)
theorem lt_of_get {G : GH} {n : Nat} {c : Cell} (h : G[n]? = some c) : n < G.length := (List.getElem?_eq_some_iff.mp h).1
theorem putO_list {G : GH} {n : Nat} {xs : List D} {z : Int} {j : Nat} (d : D) (h : G[n]? = some (.lst xs)) (hj : ixN xs.length z = some j) : putO G (.ref n) (.int z) d = some (G.set n (.lst (xs.set j d))) := by
  unfold putO
  rw [celL_ref, h]
  show (ixN xs.length z).map _ = _
  rw [hj]
  rfl
theorem m_draw : DrawOk F_draw := by
  intro w m n G k h hm hm2 ⟨b0, b1, h0, hc⟩ hk
  obtain ⟨a, b, c⟩ := w
  have h' : G[n]? = some (.lst [.int a, .int b, .int c]) := h
  have lt := lt_of_get h
  have b0 : 0 ≤ b := b0
  have b1 : b < 2147483647 := b1
  have h0 : 0 ≤ c := h0
  have hc : c < k := hc
  have p0 : ∀ d, putO G (.ref n) (.int 0) d = some (G.set n (.lst [d, .int b, .int c])) := fun d => putO_list (j := 0) d h' rfl
  have p2 : ∀ d, putO G (.ref n) (.int 2) d = some (G.set n (.lst [.int a, .int b, d])) := fun d => putO_list (j := 2) d h' rfl
  have ap_put : ∀ (fo fi f : FE) (δ : DEnv) (G : GH), sPut fo fi f δ G = (f δ G).thn δ fun d G1 => (fo δ G1).thn δ fun o G2 => (fi δ G2).thn δ fun i G3 => match putO G3 o i d with | some G4 => .nx δ G4 | none => .no := fun _ _ _ _ _ => rfl
  by_cases ha : 0 < a
  · refine ⟨a % m, ⟨a / m, b, c⟩, ?_, Int.emod_nonneg _ (by omega), Int.emod_lt_of_pos _ hm, b0, b1, h0, by show c < k + 1; omega⟩
    simp [F_draw, defF_ap, startD, b__law_draw, ap_put, p0, dIx_ref _ _ _ h', h', ixN, ha, hm, hm2, Src.cell]
  · have h2 : (G.set n (.lst [.int a, .int b, .int (c + 1)]))[n]? = some (.lst [.int a, .int b, .int (c + 1)]) := by simp [lt]
    obtain ⟨base, eb⟩ : ∃ x, x = b + 7919 * (c + 1) + 1 := ⟨_, rfl⟩
    obtain ⟨n1, e1⟩ : ∃ x, x = base ^ 5 % 2147483629 := ⟨_, rfl⟩
    obtain ⟨n2, e2⟩ : ∃ x, x = n1 * (n1 / 1009 + 69621 + (c + 1)) % 2147483587 := ⟨_, rfl⟩
    have hb : base.natAbs < 18446744073709551616 := by omega
    have b1' := Int.emod_nonneg (base ^ 5) (show (2147483629 : Int) ≠ 0 by omega)
    have b2 := Int.emod_lt_of_pos (base ^ 5) (show (0 : Int) < 2147483629 by omega)
    have b3 := Int.emod_nonneg (n1 * (n1 / 1009 + 69621 + (c + 1))) (show (2147483587 : Int) ≠ 0 by omega)
    have b4 := Int.emod_lt_of_pos (n1 * (n1 / 1009 + 69621 + (c + 1))) (show (0 : Int) < 2147483587 by omega)
    rw [← e1] at b1' b2
    rw [← e2] at b3 b4
    have c0 : (-18446744073709551616 < c + 1 ∧ c + 1 < 18446744073709551616) := by omega
    have c1 : (-18446744073709551616 < n1 ∧ n1 < 18446744073709551616) := by omega
    have c2 : (-18446744073709551616 < n2 ∧ n2 < 18446744073709551616) := by omega
    refine ⟨n2 * (n2 / 2003 + 40692) % 2147483579 / 7 % m, ⟨a, b, c + 1⟩, ?_, Int.emod_nonneg _ (by omega), Int.emod_lt_of_pos _ hm, b0, b1, by show 0 ≤ c + 1; omega, by show c + 1 < k + 1; omega⟩
    simp [F_draw, defF_ap, startD, b__law_draw, ap_put, p2, dIx_ref _ _ _ h', h', dIx_ref _ _ _ h2, h2, ixN, ha, hm, hm2, Src.cell, ← eb, hb, ← e1, c0, c1, ← e2, c2]
/-! ### names -/
def LETT : Str := "abcdefghijklmnopqrstuvwxyz"
def inLett (c : Nat) : Bool := !(Builtin.Str.occurrences LETT ⟨#[c]⟩ 0 LETT.length 1).isEmpty
def nmOk (x : Str) : Bool := (decide (1 ≤ x.length) && decide (x.length ≤ 8)) && x.cps.toList.all inLett
noncomputable def F_name : List D → GH → R D := defF ["value", "sign"] b_is_name
def NameOk (f : List D → GH → R D) : Prop := ∀ (x : Str) (G : GH), nmOk x = true → f [.str x] G = .ok (.bl true) G
theorem m_name : NameOk F_name := by
  intro x G h
  unfold nmOk at h
  obtain ⟨h1, h3⟩ := Bool.and_eq_true_iff.mp h
  obtain ⟨h1, h2⟩ := Bool.and_eq_true_iff.mp h1
  have h1 := of_decide_eq_true h1
  have h2 := of_decide_eq_true h2
  have sz : x.length ≤ sizeLine := Nat.le_trans h2 (by decide)
  have st : startD ["value", "sign"] [D.str x] = [some (.str x), none] := rfl
  have i1 : (1 : Int) ≤ (x.length : Int) := by omega
  have i2 : (x.length : Int) ≤ 8 := by omega
  have s1 : (tOrD (tNotD (eTru (eOne (eVar 0) (dIsi "str")))) (tNotD (asB (eChain dLe dLe (eC (.int 1)) (eCB (one dLen) (aCons (eVar 0) aNil)) (eC (.int (8))))))) [some (.str x), none] G = .ok false G := by
    simp [isiB, sz, i1, i2]
  have lc : lcL (fun _ => true) (gNm 1) tYesD (eOp dIn (eVar 1) (eC (.str "abcdefghijklmnopqrstuvwxyz"))) [some (.str x), none] (x.cps.toList.map fun c => D.str ⟨#[c]⟩) [] G = .ok ([] ++ (x.cps.toList.map fun c => D.str ⟨#[c]⟩).map fun d => match d with | .str y => .bl (!(Builtin.Str.occurrences LETT y 0 LETT.length 1).isEmpty) | _ => .non) G := by
    refine lcL_map _ (fun d => [some (.str x), some d]) (fun d hd => ?_) (fun d hd => ?_) ?_
    · simp
    · obtain ⟨c, _, rfl⟩ := List.mem_map.mp hd
      simp [dIn, inD, LETT]
    · simp only [List.length_nil, Nat.zero_add, List.length_map]
      exact sz
  have s2 : sRet (eCB (one dAll) (aCons (eLc mkF (iSeq (eVar 0)) (gNm 1) tYesD (eOp dIn (eVar 1) (eC (.str "abcdefghijklmnopqrstuvwxyz"))) [1]) aNil)) [some (.str x), none] G = .rt (.bl true) G := by
    have it : iSeq (eVar 0) [some (.str x), none] G = .ok ⟨x.cps.toList.map fun c => D.str ⟨#[c]⟩, fun _ => true⟩ G := by simp
    have wd : wipeD [some (.str x), none] [1] = [some (D.str x), none] := rfl
    rw [List.nil_append, List.map_map] at lc
    have al := dAll_map G x.cps.toList inLett
    rw [h3] at al
    simp only [ap_sRet, ap_eCB, ap_aCons, ap_eLc, it, R.bind_ok, wd, if_true, lc, ap_mkF, ap_aNil, ap_one]
    have e : (fun d => match d with | D.str y => D.bl (!(Builtin.Str.occurrences LETT y 0 LETT.length 1).isEmpty) | _ => .non) ∘ (fun c => D.str ⟨#[c]⟩) = fun c : Nat => D.bl (inLett c) := rfl
    rw [e, al]
    rfl
  unfold F_name b_is_name
  rw [defF_ap]
  simp only [st, ap_sSeq, ap_sIf, s1, R.thn_ok, if_false, Bool.false_eq_true, ap_sNext, RS.seq_nx, s2]
theorem met_go : ∀ (xs acc : List Str), (acc ++ xs).Nodup → xs.foldl step_dedup acc = acc ++ xs
  | [], acc, _ => by simp
  | x :: xs, acc, h => by
    have hx : acc.any (· == x) = false := by
      cases q : acc.any (· == x) with
      | false => rfl
      | true =>
        obtain ⟨y, hy, e⟩ := List.any_eq_true.mp q
        have e' : y = x := eq_of_beq e
        subst e'
        exact absurd (List.nodup_append.mp h).2.2 (fun z => z y hy y (.head _) rfl)
    rw [List.foldl_cons]
    have e : step_dedup acc x = acc ++ [x] := by unfold step_dedup; rw [hx]; rfl
    rw [e, met_go xs (acc ++ [x]) (by simpa using h)]
    simp
theorem met_nodup {xs : List Str} (h : xs.Nodup) : met xs = xs := by
  have := met_go xs [] (by simpa using h)
  simpa [met] using this
theorem all_true {α : Type} (l : List α) : l.all (fun _ => true) = true := by simp
/-! ### orders -/
/-- a list or a tuple of names -/
abbrev Ord := Bool × List Str
def encO : Ord → D
  | (true, xs) => .lst (xs.map .str)
  | (false, xs) => .tup (xs.map .str)
def OrdOk (o : Ord) : Prop := o.2.Nodup ∧ o.2.length ≤ 40 ∧ ∀ x ∈ o.2, nmOk x = true ∧ PyData.strOk x = true
def OrdsOk (os : List Ord) : Prop := os.length ≤ 40 ∧ ∀ o ∈ os, OrdOk o
noncomputable def F_order : List D → GH → R D := defF ["value", "item"] (b_is_order F_name)
theorem m_order {o : Ord} (h : OrdOk o) (G : GH) : F_order [encO o] G = .ok (.bl true) G := by
  have w : (F_order [encO o] G).wp (fun d G' => d = .bl true ∧ G' = G) noX := by
    obtain ⟨nd, hl, hn⟩ := h
    obtain ⟨k, xs⟩ := o
    have len : (xs.map D.str).length = xs.length := by simp
    unfold F_order b_is_order
    and_intros
    have hl : xs.length ≤ 40 := hl
    have sz : xs.length ≤ sizeLine := Nat.le_trans hl (by decide)
    have al : ∀ G, dAll (.lst (List.map (fun _ => D.bl true) xs)) G = .ok (.bl true) G := fun G => by
      have := dAll_map G xs fun _ => true
      rwa [all_true] at this
    cases k
    all_goals
      exists encO, dIsiT, isiAny
      refine lc_pure D.str xs (fun _ => true) (fun _ => .bl true) sz rfl (fun x hx => ?_) ?_
      · exists m_name x G (hn x hx).1
        exact fun _ => True.intro
      · rw [show xs.filter (fun _ => true) = xs by simp]
        exists al, seqD, lstOf_lst, lstOf_ref, Option.bind_some, met_nodup nd, List.length_map
        omega
  obtain ⟨d, G', e, rfl, rfl⟩ := R.wp_ex_iff.mp w
  exact e
theorem m_check {os : List Ord} (h : OrdsOk os) (G : GH) : defF ["orders", "one"] (b_check_orders F_order) [.lst (os.map encO)] G = .ok .non G := by
  have w : (defF ["orders", "one"] (b_check_orders F_order) [.lst (os.map encO)] G).wp (fun d G' => d = .non ∧ G' = G) noX := by
    obtain ⟨hl, ho⟩ := h
    have sz : os.length ≤ sizeLine := Nat.le_trans hl (by decide)
    have al : ∀ G, dAll (.lst (List.map (fun _ => D.bl true) os)) G = .ok (.bl true) G := fun G => by
      have := dAll_map G os fun _ => true
      rwa [all_true] at this
    have an : ∀ G, dAny (.lst (List.map (fun _ => D.bl false) os)) G = .ok (.bl false) G := fun G => by
      have e : List.map (fun _ => D.bl false) os = (os.map fun _ => false).map D.bl := by simp
      unfold dAny
      rw [e, lstOf_lst, Option.bind_some, blsOf_map]
      simp
    unfold b_check_orders
    and_intros
    exists nilL
    refine lc_pure encO os (fun _ => true) (fun _ => .bl true) sz rfl (fun x hx => ?_) ?_
    · exists m_order (ho x hx)
      exact fun _ => True.intro
    · rw [show os.filter (fun _ => true) = os by simp]
      have l1 : ¬ (40 < (os.length : Int)) := by omega
      exists al, List.length_map, l1
      refine lc_pure encO os (fun _ => true) (fun _ => .bl false) sz rfl (fun x hx => ?_) ?_
      · have hx1 := (ho x hx).2.1
        obtain ⟨k, xs⟩ := x
        have hx1 : xs.length ≤ 40 := hx1
        have l2 : ¬ (40 < (xs.length : Int)) := by omega
        cases k <;> (exists encO, List.length_map, l2; exact fun _ => True.intro)
      · rw [show os.filter (fun _ => true) = os by simp]
        exists an
  obtain ⟨d, G', e, rfl, rfl⟩ := R.wp_ex_iff.mp w
  exact e
end OA
end CF
end
section
set_option maxRecDepth 100000
set_option maxHeartbeats 4000000
namespace CF
namespace OA
open PySem PySem.Spec PyProof.Rows L2 
local macro_rules
  | `(tactic| exists $es,*) => `(tactic| simp (disch := first | assumption | omega | (simp only [List.length_set, List.length_append, List.length_cons, List.length_nil]; omega)) only [↓wp_ok, ↓wp_ex, ↓wp_bind, ↓wp_guard, ↓wp_nox, ↓sp_nx, ↓sp_rt, ↓sp_bk, ↓sp_ct, ↓sp_ex, ↓sp_seq, ↓sp_thn, ↓sp_guard,
      ↓w_eC, ↓w_eVar, ↓w_aNil, ↓w_aCons, ↓w_eTup, ↓w_eTupP, ↓w_eLst, ↓w_eLstM, ↓w_eOp, ↓w_eChain, ↓w_asB, ↓w_tAnd, ↓w_tOr, ↓w_tNot, ↓w_eTru, ↓w_eIf, ↓w_sNext, ↓w_sSeq, ↓w_sRet, ↓w_sRetN, ↓w_sIf, ↓w_sSet, ↓w_sDrop, ↓w_sBreak, ↓w_sCont, ↓w_gNm, ↓w_gsNil, ↓w_gsCons, ↓w_gTp, ↓w_sAsg, ↓w_eOne, ↓w_eUn, ↓w_eCB, ↓w_one, ↓w_eCall, ↓w_eAnd, ↓w_eOr, ↓w_eNot, ↓w_iSeq, ↓w_eLc, ↓w_mkF, ↓w_mkM, ↓w_tYes, ↓w_eMt, ↓w_eMt0, ↓w_iRg1, ↓w_sPut, ↓w_gPut, ↓w_sPar2, ↓w_sPar3, ↓w_sAugD, ↓w_eDict0, ↓w_mkKF, ↓w_mkKM, ↓w_eRev, ↓w_eGet2, ↓w_eLenSet2, ↓w_iEn, ↓w_iZp, ↓w_eCm, ↓w_cmDn, ↓w_cmDc, ↓w_emLd, ↓w_emKd, keyD_str, keyD_int, dKOf_dK, dKOf_ref, celL_ref, celD_ref, lstIts_lst, tupIts_tup, tupIts_pt, tupIts_lst, tupIts_scr, tupIts_ref, strsOf_map,
      wipeD_nil, wipeD_cons, List.cons_append, List.nil_append, List.append_nil, ap_setI, eSl_ap, eOpt_none, eOpt_some,
      List.getElem?_cons_zero, List.getElem?_cons_succ, List.set_cons_zero, List.set_cons_succ, List.length_cons, List.length_nil, List.length_set, Nat.zero_add, Nat.reduceAdd, Nat.reduceSub, Nat.add_one_sub_one, List.length_append,
      itsD_tup, itsD_pt, itsD_lst, itsD_scr, dIx_tup, dIx_pt, dIx_lst, dIx_scr, atI_0, atI_1, atI_2, dAdd_int, dAdd_tup, dAdd_pt, dAdd_lst, dAdd_str, dInt_int, dInt_bl, dStr_int, dStr_str, dIsi_ap, dLen_lst, dLen_tup, dLen_pt, dLen_scr, dIsN_non, dNotN_non, dNeg_ap, dIB_ap, dI_ap,
      dEq_int, dNe_int, truD_bl, truD_non, truD_int, dSl_tup, dSl_pt, dSl_lst, dSl_scr, dTupP_lst, decide_true, decide_false, if_true, if_false, Bool.false_eq_true, Bool.not_true, Bool.not_false, eq_self, true_and, and_true, sz_le, sz_lt, rngIts_items, rngIts_chk, beq_self_eq_true, R.bind_ok, R.nox_ok, tyM_ref, mAppend_ref, mExtend_ref, ge1, ge2a, ge2b, ge3a, ge3b, ge3c, ge3d, st1, st2a, st2b, st3a, st3b, st3c, st3d, tyN, Bool.and_self, Bool.and_true, Bool.true_and, Bool.and_false, Bool.false_and, Bool.or_true, Bool.true_or, Bool.or_false, Bool.false_or, Int.reduceLT, Int.reduceLE, Int.reduceGT, Int.reduceNeg, Int.reduceAdd, Int.reduceSub, Int.reduceBEq, Int.reduceBNe, Int.reduceEq, Int.reduceToNat, Nat.reduceEqDiff, Nat.reduceLeDiff, reduceCtorEq, Int.natCast_zero, Int.cast_ofNat_Int, Int.lt_irrefl, List.map_nil, decide_eq_true_eq,
      isi_NoneType_int, isi_NoneType_str, isi_NoneType_bool, isi_NoneType_tuple, isi_NoneType_list, isi_NoneType_dict, isi_bool_int, isi_bool_str, isi_bool_bool, isi_bool_tuple, isi_bool_list, isi_bool_dict, isi_int_int, isi_int_str, isi_int_bool, isi_int_tuple, isi_int_list, isi_int_dict, isi_str_int, isi_str_str, isi_str_bool, isi_str_tuple, isi_str_list, isi_str_dict, isi_tuple_int, isi_tuple_str, isi_tuple_bool, isi_tuple_tuple, isi_tuple_list, isi_tuple_dict, isi_list_int, isi_list_str, isi_list_bool, isi_list_tuple, isi_list_list, isi_list_dict, isi_dict_int, isi_dict_str, isi_dict_bool, isi_dict_tuple, isi_dict_list, isi_dict_dict, $[$es:term],*])
  | `(tactic| and_intros) => `(tactic| (rw [wp_def]; simp only [startD, List.map_cons, List.map_nil, List.length_cons, List.length_nil, Nat.zero_add, Nat.reduceAdd, Nat.reduceSub, List.replicate, List.cons_append, List.nil_append]))
/-! ### links -/
/-- each with the next one -/
def prs (xs : List Str) : List (Str × Str) := xs.zip xs.tail
abbrev Lnk := Str × Str × Nat
def encL (l : Lnk) : D := .tup [.str l.1, .str l.2.1, .int (l.2.2 : Nat)]
def linksZ (ps : List (Ord × Nat)) : List Lnk := ps.flatMap fun p => (prs p.1.2).map fun q => (q.1, q.2, p.2)
def linksO (os : List Ord) : List Lnk := linksZ os.zipIdx
theorem prs_len (xs : List Str) : (prs xs).length ≤ xs.length := by unfold prs; simp
theorem enumD_map {α : Type} (enc : α → D) : ∀ (xs : List α) (n : Nat), enumD n (xs.map enc) = (xs.zipIdx n).map fun p => D.tup [.int (p.2 : Nat), enc p.1]
  | [], n => rfl
  | x :: xs, n => by
    rw [List.map_cons, List.zipIdx_cons, List.map_cons, enumD, enumD_map enc xs (n + 1)]
theorem zipD_map {α β : Type} (f : α → D) (g : β → D) (xs : List α) (ys : List β) : zipD (xs.map f) (ys.map g) = (xs.zip ys).map fun p => D.tup [f p.1, g p.2] := by
  unfold zipD List.zip
  rw [List.zipWith_map, List.map_zipWith]
theorem cut_1 {α : Type} (xs : List α) : cutD xs (some 1) none = xs.tail := by
  cases xs with
  | nil => simp [cutD, HT.sIx]
  | cons x r => simp [cutD, HT.sIx]
theorem linksZ_len : ∀ {ps : List (Ord × Nat)}, (∀ p ∈ ps, p.1.2.length ≤ 40) → (linksZ ps).length ≤ 40 * ps.length
  | [], _ => by simp [linksZ]
  | p :: ps, h => by
    have ih := linksZ_len (ps := ps) fun q hq => h q (List.mem_cons_of_mem _ hq)
    have h1 := h p (List.mem_cons_self ..)
    have h2 := prs_len p.1.2
    unfold linksZ at ih ⊢
    rw [List.flatMap_cons, List.length_append, List.length_map, List.length_cons]
    omega
theorem linksZ_snoc (ps : List (Ord × Nat)) (p : Ord × Nat) : linksZ (ps ++ [p]) = linksZ ps ++ (prs p.1.2).map fun q => (q.1, q.2, p.2) := by
  unfold linksZ
  simp
theorem zipIdx_mem {α : Type} {xs : List α} {p : α × Nat} {n : Nat} (h : p ∈ xs.zipIdx n) : p.1 ∈ xs := by
  have := List.mem_zipIdx h
  obtain ⟨_, _, e⟩ := this
  rw [e]
  apply List.getElem_mem
noncomputable def F_links : List D → GH → R D := defF ["orders", "at", "one", "item", "other"] b_links_of
theorem m_links {os : List Ord} (h : OrdsOk os) (G : GH) : F_links [.lst (os.map encO)] G = .ok (.lst ((linksO os).map encL)) G := by
  have w : (F_links [.lst (os.map encO)] G).wp (fun d G' => d = .lst ((linksO os).map encL) ∧ G' = G) noX := by
    obtain ⟨hl, ho⟩ := h
    unfold F_links b_links_of
    and_intros
    exists enumD_map
    refine cm_inv (fun p : Ord × Nat => D.tup [.int (p.2 : Nat), encO p.1]) os.zipIdx (fun pre acc G' => G' = G ∧ acc = (linksZ pre).map encL) ⟨rfl, rfl⟩ (fun pre x post acc G' e ⟨e1, e2⟩ => ?_) fun acc G' ⟨e1, e2⟩ => ?_
    · subst e1 e2
      have mem : ∀ p ∈ pre ++ x :: post, p.1 ∈ os := fun p hp => zipIdx_mem (by rw [e]; exact hp)
      have l1 := linksZ_len (ps := pre) fun p hp => (ho _ (mem p (List.mem_append_left _ hp))).2.1
      have l2 : pre.length + (post.length + 1) = os.length := by
        have := congrArg List.length e
        simpa using this.symm
      have hx := (ho _ (mem x (by simp))).2.1
      obtain ⟨⟨k, xs⟩, i⟩ := x
      have hx : xs.length ≤ 40 := hx
      have hz : (prs xs).length ≤ 40 := Nat.le_trans (prs_len xs) hx
      have key : (cmL (fun _ => true) (gTp 2 (gsCons (gNm 3) (gsCons (gNm 4) gsNil))) tYesD (cmD (emLd (eTup (aCons (eVar 3) (aCons (eVar 4) (aCons (eVar 1) aNil))))) []) [some (.lst (os.map encO)), some (.int (i : Nat)), some (encO (k, xs)), none, none] ((prs xs).map fun p => D.tup [.str p.1, .str p.2]) ((linksZ pre).map encL) G').wp (fun acc' G3 => (fun _ => true) G3 = true ∧ G3 = G' ∧ acc' = (linksZ (pre ++ [((k, xs), i)])).map encL) noX := by
        refine cm_inv (fun p : Str × Str => D.tup [.str p.1, .str p.2]) (prs xs) (fun pp acc G2 => G2 = G' ∧ acc = (linksZ pre).map encL ++ (pp.map fun q => (q.1, q.2, i)).map encL) ⟨rfl, by simp⟩ (fun pp q po acc G2 e3 ⟨e4, e5⟩ => ?_) fun acc G2 ⟨e4, e5⟩ => ?_
        · subst e4 e5
          have l3 : pp.length + (po.length + 1) = (prs xs).length := by
            have := congrArg List.length e3
            simpa using this.symm
          exists List.length_map
          simp [encL]
        · subst e4 e5
          exact ⟨rfl, rfl, by rw [linksZ_snoc, List.map_append]⟩
      cases k
      all_goals
        exists encO
        rw [cut_1, ← List.map_tail, zipD_map]
        exact key
    · subst e1 e2
      exact ⟨rfl, rfl⟩
  obtain ⟨d, G', e, rfl, rfl⟩ := R.wp_ex_iff.mp w
  exact e
end OA
end CF
end
section
set_option maxRecDepth 100000
set_option maxHeartbeats 4000000
namespace CF
namespace OA
open PySem PySem.Spec PyProof.Rows L2 
local macro_rules
  | `(tactic| exists $es,*) => `(tactic| simp (disch := first | assumption | omega | (simp only [List.length_set, List.length_append, List.length_cons, List.length_nil]; omega)) only [↓wp_ok, ↓wp_ex, ↓wp_bind, ↓wp_guard, ↓wp_nox, ↓sp_nx, ↓sp_rt, ↓sp_bk, ↓sp_ct, ↓sp_ex, ↓sp_seq, ↓sp_thn, ↓sp_guard,
      ↓w_eC, ↓w_eVar, ↓w_aNil, ↓w_aCons, ↓w_eTup, ↓w_eTupP, ↓w_eLst, ↓w_eLstM, ↓w_eOp, ↓w_eChain, ↓w_asB, ↓w_tAnd, ↓w_tOr, ↓w_tNot, ↓w_eTru, ↓w_eIf, ↓w_sNext, ↓w_sSeq, ↓w_sRet, ↓w_sRetN, ↓w_sIf, ↓w_sSet, ↓w_sDrop, ↓w_sBreak, ↓w_sCont, ↓w_gNm, ↓w_gsNil, ↓w_gsCons, ↓w_gTp, ↓w_sAsg, ↓w_eOne, ↓w_eUn, ↓w_eCB, ↓w_one, ↓w_eCall, ↓w_eAnd, ↓w_eOr, ↓w_eNot, ↓w_iSeq, ↓w_eLc, ↓w_mkF, ↓w_mkM, ↓w_tYes, ↓w_eMt, ↓w_eMt0, ↓w_iRg1, ↓w_sPut, ↓w_gPut, ↓w_sPar2, ↓w_sPar3, ↓w_sAugD, ↓w_eDict0, ↓w_mkKF, ↓w_mkKM, ↓w_eRev, ↓w_eGet2, ↓w_eLenSet2, ↓w_iEn, ↓w_iZp, ↓w_eCm, ↓w_cmDn, ↓w_cmDc, ↓w_emLd, ↓w_emKd, keyD_str, keyD_int, dKOf_dK, dKOf_ref, celL_ref, celD_ref, lstIts_lst, tupIts_tup, tupIts_pt, tupIts_lst, tupIts_scr, tupIts_ref, strsOf_map,
      wipeD_nil, wipeD_cons, List.cons_append, List.nil_append, List.append_nil, ap_setI, eSl_ap, eOpt_none, eOpt_some,
      List.getElem?_cons_zero, List.getElem?_cons_succ, List.set_cons_zero, List.set_cons_succ, List.length_cons, List.length_nil, List.length_set, Nat.zero_add, Nat.reduceAdd, Nat.reduceSub, Nat.add_one_sub_one, List.length_append,
      itsD_tup, itsD_pt, itsD_lst, itsD_scr, dIx_tup, dIx_pt, dIx_lst, dIx_scr, atI_0, atI_1, atI_2, dAdd_int, dAdd_tup, dAdd_pt, dAdd_lst, dAdd_str, dInt_int, dInt_bl, dStr_int, dStr_str, dIsi_ap, dLen_lst, dLen_tup, dLen_pt, dLen_scr, dIsN_non, dNotN_non, dNeg_ap, dIB_ap, dI_ap,
      dEq_int, dNe_int, truD_bl, truD_non, truD_int, dSl_tup, dSl_pt, dSl_lst, dSl_scr, dTupP_lst, decide_true, decide_false, if_true, if_false, Bool.false_eq_true, Bool.not_true, Bool.not_false, eq_self, true_and, and_true, sz_le, sz_lt, rngIts_items, rngIts_chk, beq_self_eq_true, R.bind_ok, R.nox_ok, tyM_ref, mAppend_ref, mExtend_ref, ge1, ge2a, ge2b, ge3a, ge3b, ge3c, ge3d, st1, st2a, st2b, st3a, st3b, st3c, st3d, tyN, Bool.and_self, Bool.and_true, Bool.true_and, Bool.and_false, Bool.false_and, Bool.or_true, Bool.true_or, Bool.or_false, Bool.false_or, Int.reduceLT, Int.reduceLE, Int.reduceGT, Int.reduceNeg, Int.reduceAdd, Int.reduceSub, Int.reduceBEq, Int.reduceBNe, Int.reduceEq, Int.reduceToNat, Nat.reduceEqDiff, Nat.reduceLeDiff, reduceCtorEq, Int.natCast_zero, Int.cast_ofNat_Int, Int.lt_irrefl, List.map_nil, decide_eq_true_eq,
      isi_NoneType_int, isi_NoneType_str, isi_NoneType_bool, isi_NoneType_tuple, isi_NoneType_list, isi_NoneType_dict, isi_bool_int, isi_bool_str, isi_bool_bool, isi_bool_tuple, isi_bool_list, isi_bool_dict, isi_int_int, isi_int_str, isi_int_bool, isi_int_tuple, isi_int_list, isi_int_dict, isi_str_int, isi_str_str, isi_str_bool, isi_str_tuple, isi_str_list, isi_str_dict, isi_tuple_int, isi_tuple_str, isi_tuple_bool, isi_tuple_tuple, isi_tuple_list, isi_tuple_dict, isi_list_int, isi_list_str, isi_list_bool, isi_list_tuple, isi_list_list, isi_list_dict, isi_dict_int, isi_dict_str, isi_dict_bool, isi_dict_tuple, isi_dict_list, isi_dict_dict, $[$es:term],*])
  | `(tactic| and_intros) => `(tactic| (rw [wp_def]; simp only [startD, List.map_cons, List.map_nil, List.length_cons, List.length_nil, Nat.zero_add, Nat.reduceAdd, Nat.reduceSub, List.replicate, List.cons_append, List.nil_append]))
/-! ### the names, what comes next -/
theorem step_mem (acc : List Str) (x y : Str) : y ∈ step_dedup acc x ↔ y ∈ acc ∨ y = x := by
  unfold step_dedup
  by_cases h : acc.any (· == x) = true
  · rw [if_pos h]
    constructor
    · exact .inl
    · rintro (k | rfl)
      · exact k
      · obtain ⟨z, hz, e⟩ := List.any_eq_true.mp h
        exact eq_of_beq e ▸ hz
  · rw [if_neg h]; simp
theorem step_nd {acc : List Str} (h : acc.Nodup) (x : Str) : (step_dedup acc x).Nodup := by
  unfold step_dedup
  by_cases k : acc.any (· == x) = true
  · rw [if_pos k]; exact h
  · rw [if_neg k]
    refine List.nodup_append.mpr ⟨h, by simp, fun a ha b hb e => k ?_⟩
    simp at hb
    subst hb e
    exact List.any_eq_true.mpr ⟨a, ha, beq_self_eq_true a⟩
theorem fold_mem (y : Str) : ∀ (xs acc : List Str), y ∈ xs.foldl step_dedup acc ↔ y ∈ acc ∨ y ∈ xs
  | [], acc => by simp
  | x :: xs, acc => by rw [List.foldl_cons, fold_mem y xs, step_mem]; simp [or_assoc]
theorem fold_nd : ∀ (xs : List Str) {acc : List Str}, acc.Nodup → (xs.foldl step_dedup acc).Nodup
  | [], _, h => h
  | x :: xs, _, h => fold_nd xs (step_nd h x)
theorem met_mem {xs : List Str} {y : Str} : y ∈ met xs ↔ y ∈ xs := by unfold met; rw [fold_mem]; simp
theorem met_nd (xs : List Str) : (met xs).Nodup := fold_nd xs List.nodup_nil
theorem met_len (xs : List Str) : (met xs).length ≤ xs.length := by have := met_le xs xs.length; rwa [List.take_length] at this
theorem putD_map (ns : List Str) (f : Str → D) (x : Str) (d : D) : putD (ns.map fun y => ((Sum.inr y : Key), f y)) (.inr x) d = (step_dedup ns x).map fun y => ((Sum.inr y : Key), if y = x then d else f y) := by
  have ha : (ns.map fun y => ((Sum.inr y : Key), f y)).any (fun p => decide (p.1 = (.inr x : Key))) = ns.any (· == x) := by
    rw [List.any_map]
    congr 1
    funext y
    by_cases h : y = x
    · simp [h]
    · simp [h]
  unfold putD step_dedup
  rw [ha]
  by_cases h : ns.any (· == x) = true
  · rw [if_pos h, if_pos h, List.map_map]
    refine List.map_congr_left fun y _ => ?_
    by_cases e : y = x
    · simp [e]
    · simp [e]
  · rw [if_neg h, if_neg h, List.map_append]
    congr 1
    · refine List.map_congr_left fun y hy => ?_
      have : y ≠ x := fun e => h (List.any_eq_true.mpr ⟨y, hy, by rw [e]; exact beq_self_eq_true x⟩)
      simp [this]
    · simp
theorem lookK_map (ns : List Str) (f : Str → D) {x : Str} (h : x ∈ ns) : lookK (ns.map fun y => ((Sum.inr y : Key), f y)) (.inr x) = some (f x) := by
  induction ns with
  | nil => cases h
  | cons y r ih =>
    unfold lookK at ih ⊢
    rw [List.map_cons, List.find?_cons]
    by_cases e : y = x
    · subst e; simp
    · have h' : x ∈ r := (List.mem_cons.mp h).resolve_left (Ne.symm e)
      simp [e]
      simpa using ih h'
theorem lookK_none (ns : List Str) (f : Str → D) {x : Str} (h : x ∉ ns) : lookK (ns.map fun y => ((Sum.inr y : Key), f y)) (.inr x) = none := by
  unfold lookK
  rw [Option.map_eq_none_iff, List.find?_eq_none]
  intro p hp
  obtain ⟨y, hy, rfl⟩ := List.mem_map.mp hp
  have : y ≠ x := fun e => h (e ▸ hy)
  simp [this]
theorem dIx_dK (ns : List Str) (f : Str → D) {x : Str} (h : x ∈ ns) (G : GH) : dIx (.dK (ns.map fun y => ((Sum.inr y : Key), f y))) (.str x) G = .ok (f x) G := by
  show (match dGetO G (.dK _) (.str x) with | some (some d) => R.ok d G | _ => R.no) = _
  unfold dGetO
  rw [dKOf_dK, keyD_str]
  dsimp only
  rw [lookK_map ns f h]
theorem fzr_lst {G : GH} {n m k : Nat} {ds : List D} (h : n ≤ k) (e : G[k]? = some (.lst ds)) (p : pures0 ds) : fzr G n (m + 1) k = some (.lst ds) := by
  rw [fzr, if_neg (Nat.not_lt.mpr h), e]
  show (match fzWs (fzr G n m) ds with | some ys => some (D.lst ys) | none => none) = _
  rw [p]
theorem fzWk_map {rf : Nat → Option D} {loc : Str → Nat} {vals : Str → D} : ∀ {ns : List Str}, (∀ x ∈ ns, rf (loc x) = some (vals x)) → fzWk rf (ns.map fun y => ((Sum.inr y : Key), D.ref (loc y))) = some (ns.map fun y => ((Sum.inr y : Key), vals y))
  | [], _ => by rw [List.map_nil, fzWk]; rfl
  | x :: r, h => by
    rw [List.map_cons, fzWk, fzWk_map fun y hy => h y (List.mem_cons_of_mem _ hy), fzW, h x (List.mem_cons_self ..)]
    rfl
/-- all names, as they are met -/
def nmsO (os : List Ord) : List Str := met (os.flatMap (·.2))
/-- what comes directly behind a name -/
def nxtO (ls : List Lnk) (x : Str) : List Str := (ls.filter fun l => l.1 == x).map fun l => l.2.1
def encN (os : List Ord) : D := .dK ((nmsO os).map fun x => ((Sum.inr x : Key), D.lst ((nxtO (linksO os) x).map .str)))
theorem prs_mem {xs : List Str} {p : Str × Str} (h : p ∈ prs xs) : p.1 ∈ xs ∧ p.2 ∈ xs := by
  unfold prs at h
  obtain ⟨a, b⟩ := p
  have := List.of_mem_zip h
  exact ⟨this.1, List.mem_of_mem_tail this.2⟩
theorem links_mem {os : List Ord} {l : Lnk} (h : l ∈ linksO os) : ∃ o ∈ os, os[l.2.2]? = some o ∧ (l.1, l.2.1) ∈ prs o.2 := by
  unfold linksO linksZ at h
  obtain ⟨p, hp, hl⟩ := List.mem_flatMap.mp h
  obtain ⟨q, hq, rfl⟩ := List.mem_map.mp hl
  obtain ⟨i1, i2, e⟩ := List.mem_zipIdx hp
  refine ⟨p.1, zipIdx_mem hp, ?_, hq⟩
  have : os[p.2]? = some p.1 := by
    have := List.mk_mem_zipIdx_iff_getElem?.mp hp
    simpa using this
  exact this
theorem names_of {os : List Ord} {o : Ord} (h : o ∈ os) {x : Str} (hx : x ∈ o.2) : x ∈ nmsO os := met_mem.mpr (List.mem_flatMap.mpr ⟨o, h, hx⟩)
theorem links_names {os : List Ord} {l : Lnk} (h : l ∈ linksO os) : l.1 ∈ nmsO os ∧ l.2.1 ∈ nmsO os := by
  obtain ⟨o, ho, _, hp⟩ := links_mem h
  obtain ⟨a, b⟩ := prs_mem hp
  exact ⟨names_of ho a, names_of ho b⟩
theorem items_len {os : List Ord} (h : ∀ o ∈ os, o.2.length ≤ 40) : (os.flatMap (·.2)).length ≤ 40 * os.length := by
  induction os with
  | nil => simp
  | cons o r ih =>
    have := ih fun q hq => h q (List.mem_cons_of_mem _ hq)
    have h1 := h o (List.mem_cons_self ..)
    rw [List.flatMap_cons, List.length_append, List.length_cons]
    omega
theorem links_len {os : List Ord} (h : OrdsOk os) : (linksO os).length ≤ 1600 := by
  have l1 := linksZ_len (ps := os.zipIdx) fun p hp => (h.2 _ (zipIdx_mem hp)).2.1
  have l2 := h.1
  rw [List.length_zipIdx] at l1
  unfold linksO
  omega
/-- the cells of the lists, one for each name -/
def NxI (G : GH) (ns : List Str) (vals : Str → List Str) (loc : Str → Nat) (G' : GH) : Prop := (∃ J, G' = G ++ J) ∧ (∀ x ∈ ns, G.length ≤ loc x ∧ G'[loc x]? = some (.lst ((vals x).map .str))) ∧ ∀ x ∈ ns, ∀ y ∈ ns, loc x = loc y → x = y
end OA
end CF
end
section
set_option maxRecDepth 100000
set_option maxHeartbeats 4000000
namespace CF
namespace OA
open PySem PySem.Spec PyProof.Rows L2 
local macro_rules
  | `(tactic| exists $es,*) => `(tactic| simp (disch := first | assumption | omega | (simp only [List.length_set, List.length_append, List.length_cons, List.length_nil]; omega)) only [↓wp_ok, ↓wp_ex, ↓wp_bind, ↓wp_guard, ↓wp_nox, ↓sp_nx, ↓sp_rt, ↓sp_bk, ↓sp_ct, ↓sp_ex, ↓sp_seq, ↓sp_thn, ↓sp_guard,
      ↓w_eC, ↓w_eVar, ↓w_aNil, ↓w_aCons, ↓w_eTup, ↓w_eTupP, ↓w_eLst, ↓w_eLstM, ↓w_eOp, ↓w_eChain, ↓w_asB, ↓w_tAnd, ↓w_tOr, ↓w_tNot, ↓w_eTru, ↓w_eIf, ↓w_sNext, ↓w_sSeq, ↓w_sRet, ↓w_sRetN, ↓w_sIf, ↓w_sSet, ↓w_sDrop, ↓w_sBreak, ↓w_sCont, ↓w_gNm, ↓w_gsNil, ↓w_gsCons, ↓w_gTp, ↓w_sAsg, ↓w_eOne, ↓w_eUn, ↓w_eCB, ↓w_one, ↓w_eCall, ↓w_eAnd, ↓w_eOr, ↓w_eNot, ↓w_iSeq, ↓w_eLc, ↓w_mkF, ↓w_mkM, ↓w_tYes, ↓w_eMt, ↓w_eMt0, ↓w_iRg1, ↓w_sPut, ↓w_gPut, ↓w_sPar2, ↓w_sPar3, ↓w_sAugD, ↓w_eDict0, ↓w_mkKF, ↓w_mkKM, ↓w_eRev, ↓w_eGet2, ↓w_eLenSet2, ↓w_iEn, ↓w_iZp, ↓w_eCm, ↓w_cmDn, ↓w_cmDc, ↓w_emLd, ↓w_emKd, keyD_str, keyD_int, dKOf_dK, dKOf_ref, celL_ref, celD_ref, lstIts_lst, tupIts_tup, tupIts_pt, tupIts_lst, tupIts_scr, tupIts_ref, strsOf_map,
      wipeD_nil, wipeD_cons, List.cons_append, List.nil_append, List.append_nil, ap_setI, eSl_ap, eOpt_none, eOpt_some,
      List.getElem?_cons_zero, List.getElem?_cons_succ, List.set_cons_zero, List.set_cons_succ, List.length_cons, List.length_nil, List.length_set, Nat.zero_add, Nat.reduceAdd, Nat.reduceSub, Nat.add_one_sub_one, List.length_append,
      itsD_tup, itsD_pt, itsD_lst, itsD_scr, dIx_tup, dIx_pt, dIx_lst, dIx_scr, atI_0, atI_1, atI_2, dAdd_int, dAdd_tup, dAdd_pt, dAdd_lst, dAdd_str, dInt_int, dInt_bl, dStr_int, dStr_str, dIsi_ap, dLen_lst, dLen_tup, dLen_pt, dLen_scr, dIsN_non, dNotN_non, dNeg_ap, dIB_ap, dI_ap,
      dEq_int, dNe_int, truD_bl, truD_non, truD_int, dSl_tup, dSl_pt, dSl_lst, dSl_scr, dTupP_lst, decide_true, decide_false, if_true, if_false, Bool.false_eq_true, Bool.not_true, Bool.not_false, eq_self, true_and, and_true, sz_le, sz_lt, rngIts_items, rngIts_chk, beq_self_eq_true, R.bind_ok, R.nox_ok, tyM_ref, mAppend_ref, mExtend_ref, ge1, ge2a, ge2b, ge3a, ge3b, ge3c, ge3d, st1, st2a, st2b, st3a, st3b, st3c, st3d, tyN, Bool.and_self, Bool.and_true, Bool.true_and, Bool.and_false, Bool.false_and, Bool.or_true, Bool.true_or, Bool.or_false, Bool.false_or, Int.reduceLT, Int.reduceLE, Int.reduceGT, Int.reduceNeg, Int.reduceAdd, Int.reduceSub, Int.reduceBEq, Int.reduceBNe, Int.reduceEq, Int.reduceToNat, Nat.reduceEqDiff, Nat.reduceLeDiff, reduceCtorEq, Int.natCast_zero, Int.cast_ofNat_Int, Int.lt_irrefl, List.map_nil, decide_eq_true_eq,
      isi_NoneType_int, isi_NoneType_str, isi_NoneType_bool, isi_NoneType_tuple, isi_NoneType_list, isi_NoneType_dict, isi_bool_int, isi_bool_str, isi_bool_bool, isi_bool_tuple, isi_bool_list, isi_bool_dict, isi_int_int, isi_int_str, isi_int_bool, isi_int_tuple, isi_int_list, isi_int_dict, isi_str_int, isi_str_str, isi_str_bool, isi_str_tuple, isi_str_list, isi_str_dict, isi_tuple_int, isi_tuple_str, isi_tuple_bool, isi_tuple_tuple, isi_tuple_list, isi_tuple_dict, isi_list_int, isi_list_str, isi_list_bool, isi_list_tuple, isi_list_list, isi_list_dict, isi_dict_int, isi_dict_str, isi_dict_bool, isi_dict_tuple, isi_dict_list, isi_dict_dict, $[$es:term],*])
  | `(tactic| and_intros) => `(tactic| (rw [wp_def]; simp only [startD, List.map_cons, List.map_nil, List.length_cons, List.length_nil, Nat.zero_add, Nat.reduceAdd, Nat.reduceSub, List.replicate, List.cons_append, List.nil_append]))
/-! ### nexts_of -/
noncomputable def F_nexts0 : List D → GH → R D := defF ["orders", "found", "one", "item", "other", "at"] (b_nexts_of F_links)
noncomputable def F_nexts : List D → GH → R D := fun ds G => fzR G (F_nexts0 ds G)
abbrev kN (ns : List Str) (loc : Str → Nat) : List (Key × D) := ns.map fun x => ((Sum.inr x : Key), D.ref (loc x))
/-- a new cell for a name -/
theorem NxI.new {G : GH} {ns : List Str} {loc : Str → Nat} {G' : GH} (h : NxI G ns (fun _ => []) loc G') (x : Str) : NxI G (step_dedup ns x) (fun _ => []) (fun y => if y = x then G'.length else loc y) (G' ++ [.lst []]) := by
  obtain ⟨⟨J, eJ⟩, h1, h2⟩ := h
  have lt : ∀ y ∈ ns, loc y < G'.length := fun y hy => (List.getElem?_eq_some_iff.mp (h1 y hy).2).1
  refine ⟨⟨J ++ [.lst []], by rw [eJ, List.append_assoc]⟩, fun y hy => ?_, fun y hy z hz e => ?_⟩
  · dsimp only
    by_cases e : y = x
    · rw [if_pos e]
      exact ⟨by rw [eJ]; simp, by simp⟩
    · rw [if_neg e]
      have hy' := ((step_mem ns x y).mp hy).resolve_right e
      exact ⟨(h1 y hy').1, by rw [List.getElem?_append_left (lt y hy')]; exact (h1 y hy').2⟩
  · by_cases e1 : y = x
    · by_cases e2 : z = x
      · rw [e1, e2]
      · simp only [e1, e2, if_true, if_false] at e
        have := lt z (((step_mem ns x z).mp hz).resolve_right e2)
        omega
    · by_cases e2 : z = x
      · simp only [e1, e2, if_true, if_false] at e
        have := lt y (((step_mem ns x y).mp hy).resolve_right e1)
        omega
      · simp only [e1, e2, if_false] at e
        exact h2 y (((step_mem ns x y).mp hy).resolve_right e1) z (((step_mem ns x z).mp hz).resolve_right e2) e
theorem kN_new (ns : List Str) (loc : Str → Nat) (x : Str) (n : Nat) : putD (kN ns loc) (.inr x) (.ref n) = kN (step_dedup ns x) fun y => if y = x then n else loc y := by
  unfold kN
  rw [putD_map]
  refine List.map_congr_left fun y _ => ?_
  by_cases e : y = x <;> simp [e]
/-- a name's list grows -/
theorem NxI.put {G : GH} {ns : List Str} {vals : Str → List Str} {loc : Str → Nat} {G' : GH} (h : NxI G ns vals loc G') {x : Str} (hx : x ∈ ns) (z : Str) : NxI G ns (fun y => if y = x then vals y ++ [z] else vals y) loc (G'.set (loc x) (.lst ((vals x).map .str ++ [.str z]))) := by
  obtain ⟨⟨J, eJ⟩, h1, h2⟩ := h
  have lt : ∀ y ∈ ns, loc y < G'.length := fun y hy => (List.getElem?_eq_some_iff.mp (h1 y hy).2).1
  refine ⟨⟨J.set (loc x - G.length) (.lst ((vals x).map .str ++ [.str z])), by rw [eJ, List.set_append, if_neg (Nat.not_lt.mpr (h1 x hx).1)]⟩, fun y hy => ⟨(h1 y hy).1, ?_⟩, h2⟩
  dsimp only
  by_cases e : y = x
  · subst e
    rw [if_pos rfl, List.getElem?_set_self (lt y hy)]
    simp
  · rw [if_neg e, List.getElem?_set_ne fun k => e (h2 x hx y hy k).symm]
    exact (h1 y hy).2
theorem nxt_snoc (ls : List Lnk) (l : Lnk) (y : Str) : nxtO (ls ++ [l]) y = if y = l.1 then nxtO ls y ++ [l.2.1] else nxtO ls y := by
  unfold nxtO
  rw [List.filter_append]
  by_cases e : y = l.1
  · subst e; simp
  · have : (l.1 == y) = false := by simp; exact fun k => e k.symm
    simp [this, e]
theorem m_nexts {os : List Ord} (h : OrdsOk os) (G : GH) : F_nexts [.lst (os.map encO)] G = .ok (encN os) G := by
  have w : (F_nexts0 [.lst (os.map encO)] G).wp (fun d G' => ∃ loc, d = .dK (kN (nmsO os) loc) ∧ NxI G (nmsO os) (nxtO (linksO os)) loc G') noX := by
    have hl := h.1
    have ho := h.2
    unfold F_nexts0 b_nexts_of
    and_intros
    exists nilL
    refine cm_inv encO os (fun pre acc G' => ∃ loc, acc = kN (met (pre.flatMap (·.2))) loc ∧ NxI G (met (pre.flatMap (·.2))) (fun _ => []) loc G') ⟨fun _ => 0, rfl, ⟨[], by simp⟩, fun x hx => by simp [met] at hx, fun x hx => by simp [met] at hx⟩ (fun pre x post acc G' e ⟨loc, e1, i1⟩ => ?_) fun acc G' ⟨loc, e1, i1⟩ => ?_
    · subst e1
      have li := items_len (os := os) fun o k => (ho o k).2.1
      obtain ⟨k, xs⟩ := x
      rw [e] at li hl
      have key : (cmL (fun _ => true) (gNm 3) tYesD (cmD (emKd (eVar 3) (eLstM aNil)) []) [some (.lst (os.map encO)), none, some (encO (k, xs)), none, none, none] (xs.map D.str) (kN (met (pre.flatMap (·.2))) loc) G').wp (fun acc' G3 => (fun _ => true) G3 = true ∧ ∃ loc, acc' = kN (met ((pre ++ [(k, xs)]).flatMap (·.2))) loc ∧ NxI G (met ((pre ++ [(k, xs)]).flatMap (·.2))) (fun _ => []) loc G3) noX := by
        refine cm_inv D.str xs (fun pp acc G2 => ∃ loc, acc = kN (met (pre.flatMap (·.2) ++ pp)) loc ∧ NxI G (met (pre.flatMap (·.2) ++ pp)) (fun _ => []) loc G2) ⟨loc, by simp, by simpa using i1⟩ (fun pp q po acc G2 e3 ⟨lo, e4, i4⟩ => ?_) fun acc G2 ⟨lo, e4, i4⟩ => ?_
        · subst e4
          have l4 := met_len (pre.flatMap (·.2) ++ pp)
          have e6 : xs.length = pp.length + (po.length + 1) := by rw [e3]; simp
          simp only [List.flatMap_append, List.flatMap_cons, List.length_append, List.length_cons] at li l4 hl
          exists List.length_map
          rw [← List.append_assoc, met_snoc]
          exact ⟨_, kN_new _ _ _ _, i4.new q⟩
        · subst e4
          refine ⟨rfl, lo, ?_, ?_⟩
          · simp
          · simpa using i4
      cases k
      all_goals
        exists encO
        exact key
    · subst e1
      exists w_sFor, m_links h
      refine for_inv encL (linksO os) (fun pre δ G' => (∃ a b c, δ = [some (.lst (os.map encO)), some (.dK (kN (nmsO os) loc)), none, a, b, c]) ∧ NxI G (nmsO os) (nxtO pre) loc G') ⟨⟨_, _, _, rfl⟩, i1⟩ (fun pre x post δ G' e ⟨⟨a, b, c, e1⟩, i2⟩ => ?_) fun δ G' ⟨⟨a, b, c, e1⟩, i2⟩ => ?_
      · subst e1
        obtain ⟨p, q, i⟩ := x
        have hp : p ∈ nmsO os := (links_names (os := os) (l := (p, q, i)) (by rw [e]; simp)).1
        have g1 := (i2.2.1 p hp).2
        have d1 : ∀ G, dIx (.dK (kN (nmsO os) loc)) (.str p) G = .ok (.ref (loc p)) G := fun G => dIx_dK (nmsO os) (fun y => .ref (loc y)) hp G
        have l1 := links_len h
        have l2 : (linksO os).length = pre.length + (post.length + 1) := by rw [e]; simp
        have l3 : (nxtO pre p).length ≤ pre.length := by
          unfold nxtO
          rw [List.length_map]
          exact List.length_filter_le _ _
        have l4 : (List.map D.str (nxtO pre p)).length < sizeLine := by
          rw [List.length_map]
          exact sz_lt' (by omega)
        exists encL, d1, g1, l4
        refine ⟨⟨_, _, _, rfl⟩, ?_⟩
        have i3 := i2.put hp q
        have ev : (fun y => if y = p then nxtO pre y ++ [q] else nxtO pre y) = nxtO (pre ++ [(p, q, i)]) := by
          funext y
          rw [nxt_snoc]
        rw [ev] at i3
        exact i3
      · subst e1
        exists nilL
        exact ⟨loc, rfl, i2⟩
  obtain ⟨d, G', e, loc, rfl, ⟨J, rfl⟩, i2, i3⟩ := R.wp_ex_iff.mp w
  unfold F_nexts
  rw [e]
  refine fzR_ok ?_
  show fzW (fzr (G ++ J) G.length 4) (.dK (kN (nmsO os) loc)) = _
  rw [fzW]
  rw [fzWk_map (vals := fun x => D.lst ((nxtO (linksO os) x).map .str)) fun x hx => fzr_lst (i2 x hx).1 (i2 x hx).2 (pures0_map (fun a => pure0_str a) _)]
  rfl
end OA
end CF
end
section
set_option maxRecDepth 100000
set_option maxHeartbeats 4000000
namespace CF
namespace OA
open PySem PySem.Spec PyProof.Rows L2 
local macro_rules
  | `(tactic| exists $es,*) => `(tactic| simp (disch := first | assumption | omega | (simp only [List.length_set, List.length_append, List.length_cons, List.length_nil]; omega)) only [↓wp_ok, ↓wp_ex, ↓wp_bind, ↓wp_guard, ↓wp_nox, ↓sp_nx, ↓sp_rt, ↓sp_bk, ↓sp_ct, ↓sp_ex, ↓sp_seq, ↓sp_thn, ↓sp_guard,
      ↓w_eC, ↓w_eVar, ↓w_aNil, ↓w_aCons, ↓w_eTup, ↓w_eTupP, ↓w_eLst, ↓w_eLstM, ↓w_eOp, ↓w_eChain, ↓w_asB, ↓w_tAnd, ↓w_tOr, ↓w_tNot, ↓w_eTru, ↓w_eIf, ↓w_sNext, ↓w_sSeq, ↓w_sRet, ↓w_sRetN, ↓w_sIf, ↓w_sSet, ↓w_sDrop, ↓w_sBreak, ↓w_sCont, ↓w_gNm, ↓w_gsNil, ↓w_gsCons, ↓w_gTp, ↓w_sAsg, ↓w_eOne, ↓w_eUn, ↓w_eCB, ↓w_one, ↓w_eCall, ↓w_eAnd, ↓w_eOr, ↓w_eNot, ↓w_iSeq, ↓w_eLc, ↓w_mkF, ↓w_mkM, ↓w_tYes, ↓w_eMt, ↓w_eMt0, ↓w_iRg1, ↓w_sPut, ↓w_gPut, ↓w_sPar2, ↓w_sPar3, ↓w_sAugD, ↓w_eDict0, ↓w_mkKF, ↓w_mkKM, ↓w_eRev, ↓w_eGet2, ↓w_eLenSet2, ↓w_iEn, ↓w_iZp, ↓w_eCm, ↓w_cmDn, ↓w_cmDc, ↓w_emLd, ↓w_emKd, keyD_str, keyD_int, dKOf_dK, dKOf_ref, celL_ref, celD_ref, lstIts_lst, tupIts_tup, tupIts_pt, tupIts_lst, tupIts_scr, tupIts_ref, strsOf_map,
      wipeD_nil, wipeD_cons, List.cons_append, List.nil_append, List.append_nil, ap_setI, eSl_ap, eOpt_none, eOpt_some,
      List.getElem?_cons_zero, List.getElem?_cons_succ, List.set_cons_zero, List.set_cons_succ, List.length_cons, List.length_nil, List.length_set, Nat.zero_add, Nat.reduceAdd, Nat.reduceSub, Nat.add_one_sub_one, List.length_append,
      itsD_tup, itsD_pt, itsD_lst, itsD_scr, dIx_tup, dIx_pt, dIx_lst, dIx_scr, atI_0, atI_1, atI_2, dAdd_int, dAdd_tup, dAdd_pt, dAdd_lst, dAdd_str, dInt_int, dInt_bl, dStr_int, dStr_str, dIsi_ap, dLen_lst, dLen_tup, dLen_pt, dLen_scr, dIsN_non, dNotN_non, dNeg_ap, dIB_ap, dI_ap,
      dEq_int, dNe_int, truD_bl, truD_non, truD_int, dSl_tup, dSl_pt, dSl_lst, dSl_scr, dTupP_lst, decide_true, decide_false, if_true, if_false, Bool.false_eq_true, Bool.not_true, Bool.not_false, eq_self, true_and, and_true, sz_le, sz_lt, rngIts_items, rngIts_chk, beq_self_eq_true, R.bind_ok, R.nox_ok, tyM_ref, mAppend_ref, mExtend_ref, ge1, ge2a, ge2b, ge3a, ge3b, ge3c, ge3d, st1, st2a, st2b, st3a, st3b, st3c, st3d, tyN, Bool.and_self, Bool.and_true, Bool.true_and, Bool.and_false, Bool.false_and, Bool.or_true, Bool.true_or, Bool.or_false, Bool.false_or, Int.reduceLT, Int.reduceLE, Int.reduceGT, Int.reduceNeg, Int.reduceAdd, Int.reduceSub, Int.reduceBEq, Int.reduceBNe, Int.reduceEq, Int.reduceToNat, Nat.reduceEqDiff, Nat.reduceLeDiff, reduceCtorEq, Int.natCast_zero, Int.cast_ofNat_Int, Int.lt_irrefl, List.map_nil, decide_eq_true_eq,
      isi_NoneType_int, isi_NoneType_str, isi_NoneType_bool, isi_NoneType_tuple, isi_NoneType_list, isi_NoneType_dict, isi_bool_int, isi_bool_str, isi_bool_bool, isi_bool_tuple, isi_bool_list, isi_bool_dict, isi_int_int, isi_int_str, isi_int_bool, isi_int_tuple, isi_int_list, isi_int_dict, isi_str_int, isi_str_str, isi_str_bool, isi_str_tuple, isi_str_list, isi_str_dict, isi_tuple_int, isi_tuple_str, isi_tuple_bool, isi_tuple_tuple, isi_tuple_list, isi_tuple_dict, isi_list_int, isi_list_str, isi_list_bool, isi_list_tuple, isi_list_list, isi_list_dict, isi_dict_int, isi_dict_str, isi_dict_bool, isi_dict_tuple, isi_dict_list, isi_dict_dict, $[$es:term],*])
  | `(tactic| and_intros) => `(tactic| (rw [wp_def]; simp only [startD, List.map_cons, List.map_nil, List.length_cons, List.length_nil, Nat.zero_add, Nat.reduceAdd, Nat.reduceSub, List.replicate, List.cons_append, List.nil_append]))
/-! ### first_free, kept_order -/
abbrev cI (ns : List Str) (c : Str → Int) : List (Key × D) := ns.map fun x => ((Sum.inr x : Key), D.int (c x))
theorem dIx_cI {G : GH} {n : Nat} {ns : List Str} {c : Str → Int} {x : Str} (hg : G[n]? = some (.dK (cI ns c))) (hx : x ∈ ns) : dIx (.ref n) (.str x) G = .ok (.int (c x)) G := by
  show (match dGetO G (.ref n) (.str x) with | some (some d) => R.ok d G | _ => R.no) = _
  unfold dGetO
  rw [dKOf_ref, hg, keyD_str]
  dsimp only
  rw [lookK_map ns (fun y => .int (c y)) hx]
theorem dGet_cI {G : GH} {n : Nat} {ns : List Str} {c : Str → Int} {x : Str} (hg : G[n]? = some (.dK (cI ns c))) (hx : x ∈ ns) : dGetO G (.ref n) (.str x) = some (some (.int (c x))) := by
  unfold dGetO
  rw [dKOf_ref, hg, keyD_str]
  dsimp only
  rw [lookK_map ns (fun y => .int (c y)) hx]
theorem step_in {ns : List Str} {x : Str} (h : x ∈ ns) : step_dedup ns x = ns := by
  unfold step_dedup
  have a : (ns.any fun z => z == x) = true := List.any_eq_true.mpr ⟨x, h, beq_self_eq_true x⟩
  exact if_pos a
theorem putD_cI {ns : List Str} {c : Str → Int} {x : Str} (h : x ∈ ns) (v : Int) : putD (cI ns c) (.inr x) (.int v) = cI ns fun y => if y = x then v else c y := by
  unfold cI
  rw [putD_map, step_in h]
  refine List.map_congr_left fun y _ => ?_
  by_cases e : y = x <;> simp [e]
open Classical in
theorem lstIts_cell {G : GH} {n : Nat} {xs : List D} (h : G[n]? = some (.lst xs)) : lstIts G (.ref n) = some ⟨xs, fun G' => decide (G'[n]? = some (.lst xs))⟩ := by
  simp only [lstIts, h]
noncomputable def F_first : List D → GH → R D := defF ["left", "counts", "item"] b_first_free
theorem m_first {G : GH} {l n : Nat} {left ns : List Str} {c : Str → Int} (hl : G[l]? = some (.lst (left.map .str))) (hc : G[n]? = some (.dK (cI ns c))) (hs : ∀ x ∈ left, x ∈ ns) :
    F_first [.ref l, .ref n] G = .ok (match left.find? (fun x => c x == 0) with | some x => .str x | none => .non) G := by
  have w : (F_first [.ref l, .ref n] G).wp (fun d G' => d = (match left.find? (fun x => c x == 0) with | some x => D.str x | none => .non) ∧ G' = G) noX := by
    unfold F_first b_first_free
    and_intros
    exists w_sFor, itsD_ref, lstIts_cell hl, hl
    refine for_inv D.str left (fun pre δ G' => G' = G ∧ (∃ a, δ = [some (.ref l), some (.ref n), a]) ∧ ∀ x ∈ pre, (c x == 0) = false) ⟨rfl, ⟨_, rfl⟩, fun x h => nomatch h⟩ (fun pre x post δ G' e ⟨e1, ⟨a, e2⟩, h⟩ => ?_) fun δ G' ⟨e1, ⟨a, e2⟩, h⟩ => ?_
    · subst e1 e2
      have hx : x ∈ ns := hs x (by rw [e]; simp)
      by_cases z : c x = 0
      · have fd : left.find? (fun x => c x == 0) = some x := by
          rw [e, List.find?_append, List.find?_eq_none.mpr (fun y hy => by rw [h y hy]; simp)]
          simp [z]
        exists dIx_cI hc hx, z, fd
      · have zb : (c x == 0) = false := by simpa using z
        exists dIx_cI hc hx, zb, hl
        refine ⟨⟨_, rfl⟩, fun y hy => ?_⟩
        rcases List.mem_append.mp hy with hy | hy
        · exact h y hy
        · simp at hy
          subst hy
          simp [z]
    · subst e1 e2
      have fd : left.find? (fun x => c x == 0) = none := List.find?_eq_none.mpr (fun y hy => by rw [h y hy]; simp)
      exists fd
  obtain ⟨d, G', e, rfl, rfl⟩ := R.wp_ex_iff.mp w
  exact e
/-- how many links lead to a name, but for those from names that are found -/
def cntO (ls : List Lnk) (found : List Str) (x : Str) : Int := ((ls.filter fun l => l.2.1 == x && !(found.contains l.1)).length : Nat)
/-- kept_order: the first name that is free, again and again -/
def keptP (ls : List Lnk) : Nat → List Str → List Str → Option (List Str)
  | 0, _, found => some found
  | n + 1, left, found => match left.find? (fun x => cntO ls found x == 0) with
    | some x => keptP ls n (left.erase x) (found ++ [x])
    | none => none
theorem posS_erase {x : Str} : ∀ {zs : List Str}, x ∈ zs → ∃ j, posS x zs = some j ∧ zs.eraseIdx j = zs.erase x
  | z :: r, h => by
    rw [posS]
    by_cases e : z = x
    · subst e
      exact ⟨0, by rw [if_pos rfl], by simp⟩
    · obtain ⟨j, h1, h2⟩ := posS_erase ((List.mem_cons.mp h).resolve_left (Ne.symm e))
      exact ⟨j + 1, by rw [if_neg e, h1]; rfl, by rw [List.erase_cons_tail (by simpa using e), List.eraseIdx_cons_succ, h2]⟩
theorem nxt_count (ls : List Lnk) (found : List Str) {x : Str} (hx : x ∉ found) (y : Str) : cntO ls (found ++ [x]) y = cntO ls found y - ((nxtO ls x).filter (· == y)).length := by
  unfold cntO nxtO
  induction ls with
  | nil => rfl
  | cons l r ih =>
    simp only [List.contains_eq_mem, List.mem_append, List.mem_singleton] at ih ⊢
    by_cases a : l.1 = x
    · have nf : l.1 ∉ found := by rw [a]; exact hx
      by_cases b : l.2.1 = y <;> simp [a, b, hx, nf] at ih ⊢ <;> omega
    · by_cases b : l.2.1 = y <;> by_cases f : l.1 ∈ found <;> simp [a, b, f] at ih ⊢ <;> omega
end OA
end CF
end
section
set_option maxRecDepth 100000
set_option maxHeartbeats 4000000
namespace CF
namespace OA
open PySem PySem.Spec PyProof.Rows L2 
local macro_rules
  | `(tactic| exists $es,*) => `(tactic| simp (disch := first | assumption | omega | (simp only [List.length_set, List.length_append, List.length_cons, List.length_nil]; omega)) only [↓wp_ok, ↓wp_ex, ↓wp_bind, ↓wp_guard, ↓wp_nox, ↓sp_nx, ↓sp_rt, ↓sp_bk, ↓sp_ct, ↓sp_ex, ↓sp_seq, ↓sp_thn, ↓sp_guard,
      ↓w_eC, ↓w_eVar, ↓w_aNil, ↓w_aCons, ↓w_eTup, ↓w_eTupP, ↓w_eLst, ↓w_eLstM, ↓w_eOp, ↓w_eChain, ↓w_asB, ↓w_tAnd, ↓w_tOr, ↓w_tNot, ↓w_eTru, ↓w_eIf, ↓w_sNext, ↓w_sSeq, ↓w_sRet, ↓w_sRetN, ↓w_sIf, ↓w_sSet, ↓w_sDrop, ↓w_sBreak, ↓w_sCont, ↓w_gNm, ↓w_gsNil, ↓w_gsCons, ↓w_gTp, ↓w_sAsg, ↓w_eOne, ↓w_eUn, ↓w_eCB, ↓w_one, ↓w_eCall, ↓w_eAnd, ↓w_eOr, ↓w_eNot, ↓w_iSeq, ↓w_eLc, ↓w_mkF, ↓w_mkM, ↓w_tYes, ↓w_eMt, ↓w_eMt0, ↓w_iRg1, ↓w_sPut, ↓w_gPut, ↓w_sPar2, ↓w_sPar3, ↓w_sAugD, ↓w_eDict0, ↓w_mkKF, ↓w_mkKM, ↓w_eRev, ↓w_eGet2, ↓w_eLenSet2, ↓w_iEn, ↓w_iZp, ↓w_eCm, ↓w_cmDn, ↓w_cmDc, ↓w_emLd, ↓w_emKd, keyD_str, keyD_int, dKOf_dK, dKOf_ref, celL_ref, celD_ref, lstIts_lst, tupIts_tup, tupIts_pt, tupIts_lst, tupIts_scr, tupIts_ref, strsOf_map,
      wipeD_nil, wipeD_cons, List.cons_append, List.nil_append, List.append_nil, ap_setI, eSl_ap, eOpt_none, eOpt_some,
      List.getElem?_cons_zero, List.getElem?_cons_succ, List.set_cons_zero, List.set_cons_succ, List.length_cons, List.length_nil, List.length_set, Nat.zero_add, Nat.reduceAdd, Nat.reduceSub, Nat.add_one_sub_one, List.length_append,
      itsD_tup, itsD_pt, itsD_lst, itsD_scr, dIx_tup, dIx_pt, dIx_lst, dIx_scr, atI_0, atI_1, atI_2, dAdd_int, dAdd_tup, dAdd_pt, dAdd_lst, dAdd_str, dInt_int, dInt_bl, dStr_int, dStr_str, dIsi_ap, dLen_lst, dLen_tup, dLen_pt, dLen_scr, dIsN_non, dNotN_non, dNeg_ap, dIB_ap, dI_ap,
      dEq_int, dNe_int, truD_bl, truD_non, truD_int, dSl_tup, dSl_pt, dSl_lst, dSl_scr, dTupP_lst, decide_true, decide_false, if_true, if_false, Bool.false_eq_true, Bool.not_true, Bool.not_false, eq_self, true_and, and_true, sz_le, sz_lt, rngIts_items, rngIts_chk, beq_self_eq_true, R.bind_ok, R.nox_ok, tyM_ref, mAppend_ref, mExtend_ref, ge1, ge2a, ge2b, ge3a, ge3b, ge3c, ge3d, st1, st2a, st2b, st3a, st3b, st3c, st3d, tyN, Bool.and_self, Bool.and_true, Bool.true_and, Bool.and_false, Bool.false_and, Bool.or_true, Bool.true_or, Bool.or_false, Bool.false_or, Int.reduceLT, Int.reduceLE, Int.reduceGT, Int.reduceNeg, Int.reduceAdd, Int.reduceSub, Int.reduceBEq, Int.reduceBNe, Int.reduceEq, Int.reduceToNat, Nat.reduceEqDiff, Nat.reduceLeDiff, reduceCtorEq, Int.natCast_zero, Int.cast_ofNat_Int, Int.lt_irrefl, List.map_nil, decide_eq_true_eq,
      isi_NoneType_int, isi_NoneType_str, isi_NoneType_bool, isi_NoneType_tuple, isi_NoneType_list, isi_NoneType_dict, isi_bool_int, isi_bool_str, isi_bool_bool, isi_bool_tuple, isi_bool_list, isi_bool_dict, isi_int_int, isi_int_str, isi_int_bool, isi_int_tuple, isi_int_list, isi_int_dict, isi_str_int, isi_str_str, isi_str_bool, isi_str_tuple, isi_str_list, isi_str_dict, isi_tuple_int, isi_tuple_str, isi_tuple_bool, isi_tuple_tuple, isi_tuple_list, isi_tuple_dict, isi_list_int, isi_list_str, isi_list_bool, isi_list_tuple, isi_list_list, isi_list_dict, isi_dict_int, isi_dict_str, isi_dict_bool, isi_dict_tuple, isi_dict_list, isi_dict_dict, $[$es:term],*])
  | `(tactic| and_intros) => `(tactic| (rw [wp_def]; simp only [startD, List.map_cons, List.map_nil, List.length_cons, List.length_nil, Nat.zero_add, Nat.reduceAdd, Nat.reduceSub, List.replicate, List.cons_append, List.nil_append]))
/-! ### kept_order -/
theorem truD_cell {G : GH} {n : Nat} {xs : List D} (h : G[n]? = some (.lst xs)) : truD G (.ref n) = some (!xs.isEmpty) := by
  unfold truD
  simp only [h]
theorem isN_str (x : Str) (G : GH) : dIsN (.str x) .non G = .ok (.bl false) G := rfl
theorem isN_f (x : Str) : isN (.str x) = false := rfl
theorem mRemS_ref {G : GH} {n : Nat} {zs : List Str} {x : Str} {j : Nat} (h : G[n]? = some (.lst (zs.map .str))) (hj : posS x zs = some j) : mRemS (.ref n) [.str x] G = .ok .non (G.set n (.lst ((zs.eraseIdx j).map .str))) := by
  unfold mRemS
  rw [celL_ref, h]
  dsimp only
  rw [strsOf_map]
  dsimp only
  rw [hj, map_erase]
theorem dIx_encN {os : List Ord} {x : Str} (h : x ∈ nmsO os) (G : GH) : dIx (encN os) (.str x) G = .ok (.lst ((nxtO (linksO os) x).map .str)) G := dIx_dK (nmsO os) (fun x => .lst ((nxtO (linksO os) x).map .str)) h G
theorem itsD_encN (os : List Ord) (G : GH) : itsD G (encN os) = some ⟨(nmsO os).map D.str, fun _ => true⟩ := by
  unfold encN
  rw [itsD_dK, List.map_map]
  rfl
theorem mapM_inr {β : Type} (f : Str → β) : ∀ ns : List Str, ((ns.map fun x => ((Sum.inr x : Key), f x)).mapM fun kd => match kd.1 with | .inr k => some k | .inl _ => none) = some ns
  | [] => rfl
  | n :: ns => by
    rw [List.map_cons, List.mapM_cons, mapM_inr f ns]
    rfl
theorem sorted_keys (mk : List D → GH → R D) (ns : List Str) (f : Str → D) (G : GH) : dSorted2 mk (.dK (ns.map fun x => ((Sum.inr x : Key), f x))) G = mk ((sortS ns).map D.str) G := by
  unfold dSorted2
  rw [dKOf_dK]
  dsimp only
  erw [mapM_inr]
  rfl
theorem keptP_eq (ls : List Lnk) (n : Nat) (left found : List Str) : keptP ls (n + 1) left found = match left.find? (fun x => cntO ls found x == 0) with
    | some x => keptP ls n (left.erase x) (found ++ [x])
    | none => none := rfl
abbrev N_kept : List Str := ["orders", "nexts", "counts", "item", "other", "at", "left", "found", "free"]
noncomputable def F_kept : List D → GH → R D := defF N_kept (b_kept_order F_nexts F_links F_first)
def keptO (os : List Ord) : Option (List Str) := keptP (linksO os) (nmsO os).length (sortS (nmsO os)) []
/-- what least_order's parts hand back: a new list -/
def Told (G : GH) (r : Option (List Str)) (d : D) (G' : GH) : Prop := (∃ J, G' = G ++ J) ∧ match r with
  | none => d = .non
  | some ns => ∃ k, d = .ref k ∧ G.length ≤ k ∧ G'[k]? = some (.lst (ns.map .str))
theorem nms_len {os : List Ord} (h : OrdsOk os) : (nmsO os).length ≤ 1600 := by
  have l1 := met_len (os.flatMap (·.2))
  have l2 := items_len (os := os) fun o k => (h.2 o k).2.1
  have l3 := h.1
  unfold nmsO
  omega
theorem m_kept {os : List Ord} (h : OrdsOk os) (G : GH) : (F_kept [.lst (os.map encO)] G).wp (Told G (keptO os)) noX := by
  have hl := nms_len h
  have hk := links_len h
  unfold F_kept b_kept_order
  and_intros
  exists m_nexts h, itsD_encN
  refine cm_inv D.str (nmsO os) (fun pre acc G' => G' = G ∧ acc = cI (met pre) fun _ => 0) ⟨rfl, rfl⟩ (fun pre x post acc G' e ⟨e1, e2⟩ => ?_) fun acc G' ⟨e1, e2⟩ => ?_
  · subst e1 e2
    have l4 := met_len pre
    have l5 : (nmsO os).length = pre.length + (post.length + 1) := by rw [e]; simp
    exists List.length_map
    rw [met_snoc]
    unfold cI
    rw [putD_map]
    refine List.map_congr_left fun y _ => ?_
    by_cases c : y = x <;> simp [c]
  · subst e1 e2
    have em : met (nmsO os) = nmsO os := met_nodup (met_nd _)
    rw [em]
    exists w_sFor, m_links h
    refine for_inv encL (linksO os) (fun pre δ G2 => (∃ a b c, δ = [some (.lst (os.map encO)), some (encN os), some (.ref G'.length), a, b, c, none, none, none]) ∧ G2 = G' ++ [.dK (cI (nmsO os) (cntO pre []))]) ⟨⟨_, _, _, rfl⟩, rfl⟩ (fun pre x post δ G2 e ⟨⟨a, b, c, e1⟩, e2⟩ => ?_) fun δ G2 ⟨⟨a, b, c, e1⟩, e2⟩ => ?_
    · subst e1 e2
      obtain ⟨p, q, i⟩ := x
      have hq : q ∈ nmsO os := (links_names (os := os) (l := (p, q, i)) (by rw [e]; simp)).2
      exists encL, dGet_cI (ge1 G' _) hq, List.length_map
      refine ⟨⟨_, _, _, rfl⟩, ?_⟩
      rw [putD_cI hq]
      congr 4
      funext y
      unfold cntO
      rw [List.filter_append]
      by_cases c : y = q
      · subst c; simp
      · have c' : ¬ q = y := fun k => c k.symm
        simp [c, c']
    · subst e1 e2
      have sk : ∀ G, dSorted2 mkM (encN os) G = mkM ((sortS (nmsO os)).map D.str) G := fun G => sorted_keys mkM (nmsO os) _ G
      have pm := sortS_perm (nmsO os)
      exists sk
      refine wh_inv (fun m δ G2 => ∃ left found, m = left.length ∧ (left ++ found).Perm (nmsO os) ∧ keptP (linksO os) left.length left found = keptO os ∧ (∃ a b c d, δ = [some (.lst (os.map encO)), some (encN os), some (.ref G'.length), a, b, c, some (.ref (G'.length + 1)), some (.ref (G'.length + 2)), d]) ∧
          G2 = G' ++ [.dK (cI (nmsO os) (cntO (linksO os) found))] ++ [.lst (left.map .str)] ++ [.lst (found.map .str)]) (sortS (nmsO os)).length 1000000
        ⟨sortS (nmsO os), [], rfl, by simpa using pm, by unfold keptO; rw [pm.length_eq], ⟨_, _, _, _, rfl⟩, rfl⟩ (by rw [pm.length_eq]; omega) (fun m δ G2 ⟨left, found, em, ep, ek, ⟨a, b, c, d, e1⟩, e2⟩ => ?_)
      subst e1
      have g0 : G2[G'.length]? = some (.dK (cI (nmsO os) (cntO (linksO os) found))) := by rw [e2]; exact ge3a ..
      have g1 : G2[G'.length + 1]? = some (.lst (left.map .str)) := by rw [e2]; exact ge3b ..
      have g2 : G2[G'.length + 2]? = some (.lst (found.map .str)) := by rw [e2]; exact ge3d ..
      have inl : ∀ x ∈ left, x ∈ nmsO os := fun x hx => ep.mem_iff.mp (List.mem_append_left _ hx)
      have lf : left.length + found.length = (nmsO os).length := by have := ep.length_eq; simpa using this
      cases left with
      | nil =>
        exists truD_cell g1
        refine ⟨⟨_, by rw [e2, List.append_assoc, List.append_assoc]⟩, ?_⟩
        have ek : some found = keptO os := ek
        rw [← ek]
        exact ⟨_, rfl, by omega, g2⟩
      | cons y ys =>
        generalize hL : y :: ys = left at *
        have lpos : left ≠ [] := by rw [← hL]; simp
        have te : (!(left.map D.str).isEmpty) = true := by rw [← hL]; rfl
        have ll : left.length = ys.length + 1 := by rw [← hL]; rfl
        have mf := m_first g1 g0 inl
        exists truD_cell g1, te, mf
        rw [ll, keptP_eq] at ek
        cases ff : left.find? (fun x => cntO (linksO os) found x == 0) with
        | none =>
          rw [ff] at ek
          exists nilL
          refine ⟨⟨_, by rw [e2, List.append_assoc, List.append_assoc]⟩, ?_⟩
          have ek : none = keptO os := ek
          rw [← ek]
        | some x =>
          rw [ff] at ek
          have hx : x ∈ left := List.mem_of_find?_eq_some ff
          obtain ⟨j, j1, j2⟩ := posS_erase hx
          have nd : (left ++ found).Nodup := ep.nodup_iff.mpr (met_nd _)
          have nf : x ∉ found := fun k => (List.nodup_append.mp nd).2.2 x hx x k rfl
          have ra : ∀ (G : GH), G[G'.length + 1]? = some (.lst (left.map .str)) → mRemS (.ref (G'.length + 1)) [.str x] G = .ok .non (G.set (G'.length + 1) (.lst ((left.erase x).map .str))) := fun G hg => by rw [mRemS_ref hg j1, j2]
          have lz : (List.map D.str found).length < sizeLine := by rw [List.length_map]; exact sz_lt' (by omega)
          subst e2
          have ra1 := ra (G' ++ [.dK (cI (nmsO os) (cntO (linksO os) found))] ++ [.lst (left.map .str)] ++ [.lst (found.map .str ++ [.str x])]) (ge3b ..)
          exists isN_f, lz, ra1, w_sFor, dIx_encN (inl x hx)
          refine for_inv D.str (nxtO (linksO os) x) (fun pre δ G2 => (∃ d, δ = [some (.lst (os.map encO)), some (encN os), some (.ref G'.length), a, d, c, some (.ref (G'.length + 1)), some (.ref (G'.length + 2)), some (.str x)]) ∧
            G2 = G' ++ [.dK (cI (nmsO os) fun y => cntO (linksO os) found y - ((pre.filter (· == y)).length : Nat))] ++ [.lst ((left.erase x).map .str)] ++ [.lst (found.map .str ++ [.str x])])
            ⟨⟨_, rfl⟩, by simp⟩ (fun pre z post δ G2 e ⟨⟨d, e1⟩, e2⟩ => ?_) fun δ G2 ⟨⟨d, e1⟩, e2⟩ => ?_
          · subst e1 e2
            have hz : z ∈ nmsO os := by
              have hm : z ∈ nxtO (linksO os) x := by rw [e]; simp
              unfold nxtO at hm
              obtain ⟨l, hl, rfl⟩ := List.mem_map.mp hm
              exact (links_names (List.mem_filter.mp hl).1).2
            exists dGet_cI (ge3a G' _ _ _) hz, List.length_map
            refine ⟨⟨_, rfl⟩, ?_⟩
            rw [putD_cI hz]
            congr 6
            funext y
            rw [List.filter_append]
            by_cases k : y = z
            · subst k
              simp
              omega
            · have k' : ¬ z = y := fun q => k q.symm
              simp [k, k']
          · subst e1 e2
            have le : (left.erase x).length = ys.length := by rw [List.length_erase_of_mem hx, ll]; rfl
            refine ⟨(left.erase x).length, by rw [em, le, ll]; exact Nat.lt_succ_self _, left.erase x, found ++ [x], rfl, ?_, ?_, ⟨_, _, _, _, rfl⟩, ?_⟩
            · have p1 := List.perm_cons_erase hx
              have p2 : (left.erase x ++ (found ++ [x])).Perm (left ++ found) := by
                refine (List.Perm.append_left _ (List.perm_append_comm (l₁ := found) (l₂ := [x]))).trans ?_
                exact (List.perm_middle (l₁ := left.erase x) (a := x) (l₂ := found)).trans (List.Perm.append_right found p1.symm)
              exact p2.trans ep
            · rw [le]; exact ek
            · rw [List.map_append]
              congr 6
              funext y
              rw [nxt_count _ _ nf]
end OA
end CF
end
section
set_option maxRecDepth 100000
set_option maxHeartbeats 4000000
namespace CF
namespace OA
open PySem PySem.Spec PyProof.Rows L2 
local macro_rules
  | `(tactic| exists $es,*) => `(tactic| simp (disch := first | assumption | omega | (simp only [List.length_set, List.length_append, List.length_cons, List.length_nil]; omega)) only [↓wp_ok, ↓wp_ex, ↓wp_bind, ↓wp_guard, ↓wp_nox, ↓sp_nx, ↓sp_rt, ↓sp_bk, ↓sp_ct, ↓sp_ex, ↓sp_seq, ↓sp_thn, ↓sp_guard,
      ↓w_eC, ↓w_eVar, ↓w_aNil, ↓w_aCons, ↓w_eTup, ↓w_eTupP, ↓w_eLst, ↓w_eLstM, ↓w_eOp, ↓w_eChain, ↓w_asB, ↓w_tAnd, ↓w_tOr, ↓w_tNot, ↓w_eTru, ↓w_eIf, ↓w_sNext, ↓w_sSeq, ↓w_sRet, ↓w_sRetN, ↓w_sIf, ↓w_sSet, ↓w_sDrop, ↓w_sBreak, ↓w_sCont, ↓w_gNm, ↓w_gsNil, ↓w_gsCons, ↓w_gTp, ↓w_sAsg, ↓w_eOne, ↓w_eUn, ↓w_eCB, ↓w_one, ↓w_eCall, ↓w_eAnd, ↓w_eOr, ↓w_eNot, ↓w_iSeq, ↓w_eLc, ↓w_mkF, ↓w_mkM, ↓w_tYes, ↓w_eMt, ↓w_eMt0, ↓w_iRg1, ↓w_sPut, ↓w_gPut, ↓w_sPar2, ↓w_sPar3, ↓w_sAugD, ↓w_eDict0, ↓w_mkKF, ↓w_mkKM, ↓w_eRev, ↓w_eGet2, ↓w_eLenSet2, ↓w_iEn, ↓w_iZp, ↓w_eCm, ↓w_cmDn, ↓w_cmDc, ↓w_emLd, ↓w_emKd, keyD_str, keyD_int, dKOf_dK, dKOf_ref, celL_ref, celD_ref, lstIts_lst, tupIts_tup, tupIts_pt, tupIts_lst, tupIts_scr, tupIts_ref, strsOf_map,
      wipeD_nil, wipeD_cons, List.cons_append, List.nil_append, List.append_nil, ap_setI, eSl_ap, eOpt_none, eOpt_some,
      List.getElem?_cons_zero, List.getElem?_cons_succ, List.set_cons_zero, List.set_cons_succ, List.length_cons, List.length_nil, List.length_set, Nat.zero_add, Nat.reduceAdd, Nat.reduceSub, Nat.add_one_sub_one, List.length_append,
      itsD_tup, itsD_pt, itsD_lst, itsD_scr, dIx_tup, dIx_pt, dIx_lst, dIx_scr, atI_0, atI_1, atI_2, dAdd_int, dAdd_tup, dAdd_pt, dAdd_lst, dAdd_str, dInt_int, dInt_bl, dStr_int, dStr_str, dIsi_ap, dLen_lst, dLen_tup, dLen_pt, dLen_scr, dIsN_non, dNotN_non, dNeg_ap, dIB_ap, dI_ap,
      dEq_int, dNe_int, truD_bl, truD_non, truD_int, dSl_tup, dSl_pt, dSl_lst, dSl_scr, dTupP_lst, decide_true, decide_false, if_true, if_false, Bool.false_eq_true, Bool.not_true, Bool.not_false, eq_self, true_and, and_true, sz_le, sz_lt, rngIts_items, rngIts_chk, beq_self_eq_true, R.bind_ok, R.nox_ok, tyM_ref, mAppend_ref, mExtend_ref, ge1, ge2a, ge2b, ge3a, ge3b, ge3c, ge3d, st1, st2a, st2b, st3a, st3b, st3c, st3d, tyN, Bool.and_self, Bool.and_true, Bool.true_and, Bool.and_false, Bool.false_and, Bool.or_true, Bool.true_or, Bool.or_false, Bool.false_or, Int.reduceLT, Int.reduceLE, Int.reduceGT, Int.reduceNeg, Int.reduceAdd, Int.reduceSub, Int.reduceBEq, Int.reduceBNe, Int.reduceEq, Int.reduceToNat, Nat.reduceEqDiff, Nat.reduceLeDiff, reduceCtorEq, Int.natCast_zero, Int.cast_ofNat_Int, Int.lt_irrefl, List.map_nil, decide_eq_true_eq,
      isi_NoneType_int, isi_NoneType_str, isi_NoneType_bool, isi_NoneType_tuple, isi_NoneType_list, isi_NoneType_dict, isi_bool_int, isi_bool_str, isi_bool_bool, isi_bool_tuple, isi_bool_list, isi_bool_dict, isi_int_int, isi_int_str, isi_int_bool, isi_int_tuple, isi_int_list, isi_int_dict, isi_str_int, isi_str_str, isi_str_bool, isi_str_tuple, isi_str_list, isi_str_dict, isi_tuple_int, isi_tuple_str, isi_tuple_bool, isi_tuple_tuple, isi_tuple_list, isi_tuple_dict, isi_list_int, isi_list_str, isi_list_bool, isi_list_tuple, isi_list_list, isi_list_dict, isi_dict_int, isi_dict_str, isi_dict_bool, isi_dict_tuple, isi_dict_list, isi_dict_dict, $[$es:term],*])
  | `(tactic| and_intros) => `(tactic| (rw [wp_def]; simp only [startD, List.map_cons, List.map_nil, List.length_cons, List.length_nil, Nat.zero_add, Nat.reduceAdd, Nat.reduceSub, List.replicate, List.cons_append, List.nil_append]))
/-! ### reached_from -/
/-- b comes directly behind a -/
def Lk1 (ls : List Lnk) (a b : Str) : Prop := ∃ i, (a, b, i) ∈ ls
/-- b is reached from a by one link or more -/
inductive Rch (ls : List Lnk) : Str → Str → Prop
  | one {a b} : Lk1 ls a b → Rch ls a b
  | cons {a b c} : Lk1 ls a b → Rch ls b c → Rch ls a c
theorem Rch.snoc {ls : List Lnk} {a b c : Str} (h : Rch ls a b) (k : Lk1 ls b c) : Rch ls a c := by
  induction h with
  | one l => exact .cons l (.one k)
  | cons l _ ih => exact .cons l (ih k)
theorem Rch.trans {ls : List Lnk} {a b c : Str} (h : Rch ls a b) (k : Rch ls b c) : Rch ls a c := by
  induction h with
  | one l => exact .cons l k
  | cons l _ ih => exact .cons l (ih k)
theorem nxt_mem {ls : List Lnk} {a b : Str} : b ∈ nxtO ls a ↔ Lk1 ls a b := by
  unfold nxtO Lk1
  constructor
  · intro h
    obtain ⟨l, hl, rfl⟩ := List.mem_map.mp h
    obtain ⟨h1, h2⟩ := List.mem_filter.mp hl
    have e := eq_of_beq h2
    subst e
    exact ⟨l.2.2, h1⟩
  · rintro ⟨i, h⟩
    exact List.mem_map.mpr ⟨(a, b, i), List.mem_filter.mpr ⟨h, beq_self_eq_true a⟩, rfl⟩
theorem rch_names {os : List Ord} {a b : Str} (h : Rch (linksO os) a b) : a ∈ nmsO os ∧ b ∈ nmsO os := by
  induction h with
  | one l => obtain ⟨i, l⟩ := l; exact links_names l
  | cons l _ ih => obtain ⟨i, l⟩ := l; exact ⟨(links_names l).1, ih.2⟩
theorem nd_le : ∀ {xs ys : List Str}, xs.Nodup → (∀ x ∈ xs, x ∈ ys) → xs.length ≤ ys.length
  | [], _, _, _ => Nat.zero_le _
  | x :: xs, ys, nd, h => by
    obtain ⟨n1, n2⟩ := List.nodup_cons.mp nd
    have hx := h x (List.mem_cons_self ..)
    have ih := nd_le (xs := xs) (ys := ys.erase x) n2 fun y hy => (List.mem_erase_of_ne (fun (e : y = x) => n1 (e ▸ hy))).mpr (h y (List.mem_cons_of_mem _ hy))
    rw [List.length_erase_of_mem hx] at ih
    have := List.length_pos_of_mem hx
    rw [List.length_cons]
    omega
theorem rch_closed {ls : List Lnk} {a : Str} {ks : List Str} (hc : ∀ x z, (x = a ∨ x ∈ ks) → Lk1 ls x z → z ∈ ks) {x y : Str} (k : Rch ls x y) : (x = a ∨ x ∈ ks) → y ∈ ks := by
  induction k with
  | one l => exact fun hx => hc _ _ hx l
  | cons l _ ih => exact fun hx => ih (.inr (hc _ _ hx l))
abbrev kB (ks : List Str) : List (Key × D) := ks.map fun x => ((Sum.inr x : Key), D.bl true)
theorem notIn_kB {G : GH} {n : Nat} {ks : List Str} (x : Str) (h : G[n]? = some (.dK (kB ks))) : dNotIn (.str x) (.ref n) G = .ok (.bl (!decide (x ∈ ks))) G := by
  have e : inD G (.str x) (.ref n) = some (decide (x ∈ ks)) := by
    show (match lstOf G (.ref n) with | some ys => dInS (.str x) ys | none => (dGetO G (.ref n) (.str x)).map Option.isSome) = _
    have e0 : lstOf G (.ref n) = none := by rw [lstOf_ref, h]
    rw [e0]
    dsimp only
    unfold dGetO
    rw [dKOf_ref, h, keyD_str]
    dsimp only
    by_cases c : x ∈ ks
    · rw [lookK_map ks (fun _ => .bl true) c]; simp [c]
    · rw [lookK_none ks (fun _ => .bl true) c]; simp [c]
  unfold dNotIn
  rw [e]
theorem put_kB {G : GH} {n : Nat} {ks : List Str} {x : Str} (h : G[n]? = some (.dK (kB ks))) (hx : x ∉ ks) (hl : ks.length < 100000) : putO G (.ref n) (.str x) (.bl true) = some (G.set n (.dK (kB (ks ++ [x])))) := by
  have lz : (kB ks).length < sizeLine := by rw [List.length_map]; exact sz_lt' hl
  have sd : step_dedup ks x = ks ++ [x] := by
    unfold step_dedup
    refine if_neg fun k => hx ?_
    obtain ⟨z, hz, e⟩ := List.any_eq_true.mp k
    exact eq_of_beq e ▸ hz
  unfold putO
  rw [celL_ref, celD_ref, h, keyD_str]
  dsimp only
  rw [if_pos lz]
  unfold kB
  rw [putD_map, sd]
  congr 3
  refine List.map_congr_left fun y _ => ?_
  by_cases c : y = x <;> simp [c]
theorem mPop_ref {G : GH} {n : Nat} {xs : List D} {y : D} (h : G[n]? = some (.lst (xs ++ [y]))) : mPop (.ref n) [] G = .ok y (G.set n (.lst xs)) := by
  unfold mPop
  rw [celL_ref, h]
  dsimp only
  simp
noncomputable def F_reach0 : List D → GH → R D := defF ["nexts", "start", "found", "waiting", "other"] b_reached_from
noncomputable def F_reach : List D → GH → R D := fun ds G => fzR G (F_reach0 ds G)
def ReachOk (os : List Ord) (a : Str) (ks : List Str) : Prop := ks.Nodup ∧ ∀ y, y ∈ ks ↔ Rch (linksO os) a y
theorem m_reach {os : List Ord} (h : OrdsOk os) {a : Str} (ha : a ∈ nmsO os) (G : GH) : ∃ ks, ReachOk os a ks ∧ F_reach [encN os, .str a] G = .ok (.dK (kB ks)) G := by
  have hn := nms_len h
  have w : (F_reach0 [encN os, .str a] G).wp (fun d G' => ∃ ks, ReachOk os a ks ∧ d = .ref G.length ∧ ∃ J, G' = G ++ [.dK (kB ks)] ++ J) noX := by
    unfold F_reach0 b_reached_from
    and_intros
    exists nilL
    refine wh_inv (fun m δ G2 => ∃ ks ws, m = 2 * ((nmsO os).length - ks.length) + ws.length ∧ ws.length ≤ ks.length + 1 ∧ ks.Nodup ∧ (∀ y ∈ ks, Rch (linksO os) a y) ∧ (∀ y ∈ ws, y = a ∨ y ∈ ks) ∧ (∀ y, (y = a ∨ y ∈ ks) → y ∈ ws ∨ ∀ z, Lk1 (linksO os) y z → z ∈ ks) ∧
        (∃ b, δ = [some (encN os), some (.str a), some (.ref G.length), some (.ref (G.length + 1)), b]) ∧ G2 = G ++ [.dK (kB ks)] ++ [.lst (ws.map .str)]) (2 * (nmsO os).length + 1) 1000000
      ⟨[], [a], rfl, Nat.le_refl _, List.nodup_nil, (fun y h => nomatch h), (fun y h => .inl (by simpa using h)), (fun y h => .inl (by simpa using h)), ⟨_, rfl⟩, rfl⟩ (by omega) (fun m δ G2 ⟨ks, ws, em, lw, nd, hr, hw, hc, ⟨b, e1⟩, e2⟩ => ?_)
    subst e1 e2
    rcases List.eq_nil_or_concat ws with rfl | ⟨ws, y, rfl⟩
    · exists truD_cell (ge2b G _ _)
      refine ⟨ks, ⟨nd, fun y => ⟨hr y, fun k => ?_⟩⟩, _, rfl⟩
      exact rch_closed (fun x z hx l => (hc x hx).resolve_left (by simp) z l) k (.inl rfl)
    · rw [List.concat_eq_append] at *
      have ey : (List.map D.str (ws ++ [y])) = ws.map D.str ++ [.str y] := by simp
      have te : (!(List.map D.str (ws ++ [y])).isEmpty) = true := by rw [ey]; simp
      have hy := hw y (by simp)
      have yn : y ∈ nmsO os := by
        rcases hy with rfl | hy
        · exact ha
        · exact (rch_names (hr y hy)).2
      have pp := mPop_ref (G := G ++ [.dK (kB ks)] ++ [.lst (List.map D.str (ws ++ [y]))]) (n := G.length + 1) (xs := ws.map D.str) (y := .str y) (by rw [← ey]; exact ge2b ..)
      have ksub : ∀ {ks : List Str}, ks.Nodup → (∀ y ∈ ks, Rch (linksO os) a y) → ks.length ≤ (nmsO os).length := fun {ks} nd hr => nd_le nd fun y hy => (rch_names (hr y hy)).2
      exists truD_cell (ge2b G _ _), te, pp, w_sFor, dIx_encN yn
      refine for_inv D.str (nxtO (linksO os) y) (fun pre δ G2 => ∃ ks' ws', ks'.Nodup ∧ (∀ z ∈ ks', Rch (linksO os) a z) ∧ (∀ z ∈ ks, z ∈ ks') ∧ (∀ z ∈ ws', z = a ∨ z ∈ ks') ∧ (∀ z ∈ pre, z ∈ ks') ∧ (∀ v, (v = a ∨ v ∈ ks') → v ∈ ws' ∨ v = y ∨ ∀ z, Lk1 (linksO os) v z → z ∈ ks') ∧ ks'.length + ws.length = ks.length + ws'.length ∧
          (∃ b, δ = [some (encN os), some (.str a), some (.ref G.length), some (.ref (G.length + 1)), b]) ∧ G2 = G ++ [.dK (kB ks')] ++ [.lst (ws'.map .str)])
        ⟨ks, ws, nd, hr, fun z hz => hz, fun z hz => hw z (by simp [hz]), (fun z hz => nomatch hz), fun v hv => ?_, rfl, ⟨_, rfl⟩, rfl⟩ (fun pre z post δ G2 e ⟨ks', ws', nd', hr', hs', hw', hp', hc', el, ⟨b, e1⟩, e2⟩ => ?_) fun δ G2 ⟨ks', ws', nd', hr', hs', hw', hp', hc', el, ⟨b, e1⟩, e2⟩ => ?_
      · rcases hc v hv with k | k
        · rcases List.mem_append.mp k with k | k
          · exact .inl k
          · exact .inr (.inl (by simpa using k))
        · exact .inr (.inr k)
      · subst e1 e2
        have zl : Lk1 (linksO os) y z := nxt_mem.mp (by rw [e]; simp)
        have yr : Rch (linksO os) a z := by
          rcases hy with rfl | hy
          · exact .one zl
          · exact (hr y hy).snoc zl
        have ni := notIn_kB (ks := ks') z (ge2a G (.dK (kB ks')) (.lst (ws'.map .str)))
        by_cases c : z ∈ ks'
        · have cd : (!decide (z ∈ ks')) = false := by simp [c]
          rw [cd] at ni
          exists ni
          refine ⟨ks', ws', nd', hr', hs', hw', fun u hu => ?_, hc', el, ⟨_, rfl⟩, rfl⟩
          rcases List.mem_append.mp hu with k | k
          · exact hp' u k
          · simp at k; rw [k]; exact c
        · have cd : (!decide (z ∈ ks')) = true := by simp [c]
          rw [cd] at ni
          have l1 := ksub nd' hr'
          have lw : ws.length + 1 ≤ ks.length + 1 := by simpa using lw
          have pt := put_kB (ge2a G (.dK (kB ks')) (.lst (ws'.map .str))) c (by omega)
          have lz : (List.map D.str ws').length < sizeLine := by rw [List.length_map]; exact sz_lt' (by omega)
          exists ni, pt, lz
          refine ⟨ks' ++ [z], ws' ++ [z], List.nodup_append.mpr ⟨nd', by simp, fun p hp q hq e => c (by simp at hq; rw [← hq, ← e]; exact hp)⟩, fun u hu => ?_, fun u hu => by simp [hs' u hu], fun u hu => ?_, fun u hu => ?_, fun v hv => ?_, by simp; omega, ⟨_, rfl⟩, by rw [List.map_append]; rfl⟩
          · rcases List.mem_append.mp hu with k | k
            · exact hr' u k
            · simp at k; rw [k]; exact yr
          · rcases List.mem_append.mp hu with k | k
            · rcases hw' u k with k | k
              · exact .inl k
              · exact .inr (by simp [k])
            · exact .inr (by simp at k; simp [k])
          · rcases List.mem_append.mp hu with k | k
            · simp [hp' u k]
            · simp at k; simp [k]
          · have hv' : v = z ∨ v = a ∨ v ∈ ks' := by
              rcases hv with k | k
              · exact .inr (.inl k)
              · rcases List.mem_append.mp k with k | k
                · exact .inr (.inr k)
                · exact .inl (by simpa using k)
            rcases hv' with rfl | hv'
            · exact .inl (by simp)
            · rcases hc' v hv' with k | k | k
              · exact .inl (by simp [k])
              · exact .inr (.inl k)
              · exact .inr (.inr fun u l => by simp [k u l])
      · subst e1 e2
        have l1 := ksub nd' hr'
        have l2 := ksub nd hr
        have l3 := nd_le nd hs'
        have lw : ws.length + 1 ≤ ks.length + 1 := by simpa using lw
        refine ⟨_, ?_, ks', ws', rfl, by omega, nd', hr', hw', fun v hv => ?_, ⟨_, rfl⟩, rfl⟩
        · rw [em, List.length_append, List.length_singleton]; omega
        · rcases hc' v hv with k | rfl | k
          · exact .inl k
          · exact .inr fun z l => hp' z (nxt_mem.mpr l)
          · exact .inr k
  obtain ⟨d, G', e, ks, ok, rfl, J, rfl⟩ := R.wp_ex_iff.mp w
  refine ⟨ks, ok, ?_⟩
  unfold F_reach
  rw [e, List.append_assoc]
  refine fzR_ok ?_
  show fzW (fzr (G ++ ([.dK (kB ks)] ++ J)) G.length 4) (.ref G.length) = _
  rw [fzW, fzr, if_neg (by omega)]
  have gg : (G ++ ([Cell.dK (kB ks)] ++ J))[G.length]? = some (.dK (kB ks)) := by simp
  rw [gg]
  have fk : ∀ (rf : Nat → Option D) (l : List Str), fzWk rf (kB l) = some (kB l) := fun rf l => by
    induction l with
    | nil => rw [kB, List.map_nil, fzWk]
    | cons x r ih => rw [kB, List.map_cons, fzWk, fzW, ih]
  dsimp only
  rw [fk]
end OA
end CF
end
section
set_option maxRecDepth 100000
set_option maxHeartbeats 4000000
namespace CF
namespace OA
open PySem PySem.Spec PyProof.Rows L2 
local macro_rules
  | `(tactic| exists $es,*) => `(tactic| simp (disch := first | assumption | omega | (simp only [List.length_set, List.length_append, List.length_cons, List.length_nil]; omega)) only [↓wp_ok, ↓wp_ex, ↓wp_bind, ↓wp_guard, ↓wp_nox, ↓sp_nx, ↓sp_rt, ↓sp_bk, ↓sp_ct, ↓sp_ex, ↓sp_seq, ↓sp_thn, ↓sp_guard,
      ↓w_eC, ↓w_eVar, ↓w_aNil, ↓w_aCons, ↓w_eTup, ↓w_eTupP, ↓w_eLst, ↓w_eLstM, ↓w_eOp, ↓w_eChain, ↓w_asB, ↓w_tAnd, ↓w_tOr, ↓w_tNot, ↓w_eTru, ↓w_eIf, ↓w_sNext, ↓w_sSeq, ↓w_sRet, ↓w_sRetN, ↓w_sIf, ↓w_sSet, ↓w_sDrop, ↓w_sBreak, ↓w_sCont, ↓w_gNm, ↓w_gsNil, ↓w_gsCons, ↓w_gTp, ↓w_sAsg, ↓w_eOne, ↓w_eUn, ↓w_eCB, ↓w_one, ↓w_eCall, ↓w_eAnd, ↓w_eOr, ↓w_eNot, ↓w_iSeq, ↓w_eLc, ↓w_mkF, ↓w_mkM, ↓w_tYes, ↓w_eMt, ↓w_eMt0, ↓w_iRg1, ↓w_sPut, ↓w_gPut, ↓w_sPar2, ↓w_sPar3, ↓w_sAugD, ↓w_eDict0, ↓w_mkKF, ↓w_mkKM, ↓w_eRev, ↓w_eGet2, ↓w_eLenSet2, ↓w_iEn, ↓w_iZp, ↓w_eCm, ↓w_cmDn, ↓w_cmDc, ↓w_emLd, ↓w_emKd, keyD_str, keyD_int, dKOf_dK, dKOf_ref, celL_ref, celD_ref, lstIts_lst, tupIts_tup, tupIts_pt, tupIts_lst, tupIts_scr, tupIts_ref, strsOf_map,
      wipeD_nil, wipeD_cons, List.cons_append, List.nil_append, List.append_nil, ap_setI, eSl_ap, eOpt_none, eOpt_some,
      List.getElem?_cons_zero, List.getElem?_cons_succ, List.set_cons_zero, List.set_cons_succ, List.length_cons, List.length_nil, List.length_set, Nat.zero_add, Nat.reduceAdd, Nat.reduceSub, Nat.add_one_sub_one, List.length_append,
      itsD_tup, itsD_pt, itsD_lst, itsD_scr, dIx_tup, dIx_pt, dIx_lst, dIx_scr, atI_0, atI_1, atI_2, dAdd_int, dAdd_tup, dAdd_pt, dAdd_lst, dAdd_str, dInt_int, dInt_bl, dStr_int, dStr_str, dIsi_ap, dLen_lst, dLen_tup, dLen_pt, dLen_scr, dIsN_non, dNotN_non, dNeg_ap, dIB_ap, dI_ap,
      dEq_int, dNe_int, truD_bl, truD_non, truD_int, dSl_tup, dSl_pt, dSl_lst, dSl_scr, dTupP_lst, decide_true, decide_false, if_true, if_false, Bool.false_eq_true, Bool.not_true, Bool.not_false, eq_self, true_and, and_true, sz_le, sz_lt, rngIts_items, rngIts_chk, beq_self_eq_true, R.bind_ok, R.nox_ok, tyM_ref, mAppend_ref, mExtend_ref, ge1, ge2a, ge2b, ge3a, ge3b, ge3c, ge3d, st1, st2a, st2b, st3a, st3b, st3c, st3d, tyN, Bool.and_self, Bool.and_true, Bool.true_and, Bool.and_false, Bool.false_and, Bool.or_true, Bool.true_or, Bool.or_false, Bool.false_or, Int.reduceLT, Int.reduceLE, Int.reduceGT, Int.reduceNeg, Int.reduceAdd, Int.reduceSub, Int.reduceBEq, Int.reduceBNe, Int.reduceEq, Int.reduceToNat, Nat.reduceEqDiff, Nat.reduceLeDiff, reduceCtorEq, Int.natCast_zero, Int.cast_ofNat_Int, Int.lt_irrefl, List.map_nil, decide_eq_true_eq,
      isi_NoneType_int, isi_NoneType_str, isi_NoneType_bool, isi_NoneType_tuple, isi_NoneType_list, isi_NoneType_dict, isi_bool_int, isi_bool_str, isi_bool_bool, isi_bool_tuple, isi_bool_list, isi_bool_dict, isi_int_int, isi_int_str, isi_int_bool, isi_int_tuple, isi_int_list, isi_int_dict, isi_str_int, isi_str_str, isi_str_bool, isi_str_tuple, isi_str_list, isi_str_dict, isi_tuple_int, isi_tuple_str, isi_tuple_bool, isi_tuple_tuple, isi_tuple_list, isi_tuple_dict, isi_list_int, isi_list_str, isi_list_bool, isi_list_tuple, isi_list_list, isi_list_dict, isi_dict_int, isi_dict_str, isi_dict_bool, isi_dict_tuple, isi_dict_list, isi_dict_dict, $[$es:term],*])
  | `(tactic| and_intros) => `(tactic| (rw [wp_def]; simp only [startD, List.map_cons, List.map_nil, List.length_cons, List.length_nil, Nat.zero_add, Nat.reduceAdd, Nat.reduceSub, List.replicate, List.cons_append, List.nil_append]))
/-! ### links_on_rings, ring_in -/
open Classical in
/-- the links whose second name leads back to the first one -/
noncomputable def ringL (os : List Ord) : List Lnk := (linksO os).filter fun l => decide (Rch (linksO os) l.2.1 l.1)
noncomputable def F_lor : List D → GH → R D := defF ["orders", "nexts", "reach", "item", "link"] (b_links_on_rings F_nexts F_reach F_links)
theorem dIn_kB (ks : List Str) (x : Str) (G : GH) : dIn (.str x) (.dK (kB ks)) G = .ok (.bl (decide (x ∈ ks))) G := by
  have e : inD G (.str x) (.dK (kB ks)) = some (decide (x ∈ ks)) := by
    show (dGetO G (.dK (kB ks)) (.str x)).map Option.isSome = _
    unfold dGetO
    rw [dKOf_dK, keyD_str]
    dsimp only
    by_cases c : x ∈ ks
    · rw [lookK_map ks (fun _ => .bl true) c]; simp [c]
    · rw [lookK_none ks (fun _ => .bl true) c]; simp [c]
  unfold dIn
  rw [e]
open Classical in
theorem m_lor {os : List Ord} (h : OrdsOk os) (G : GH) : F_lor [.lst (os.map encO)] G = .ok (.lst ((ringL os).map encL)) G := by
  have w : (F_lor [.lst (os.map encO)] G).wp (fun d G' => d = .lst ((ringL os).map encL) ∧ G' = G) noX := by
    have hn := nms_len h
    have hk := links_len h
    unfold F_lor b_links_on_rings
    and_intros
    exists m_nexts h, itsD_encN
    refine cm_inv D.str (nmsO os) (fun pre acc G' => G' = G ∧ ∃ f : Str → List Str, acc = (met pre).map (fun x => ((Sum.inr x : Key), D.dK (kB (f x)))) ∧ ∀ x ∈ met pre, ReachOk os x (f x)) ⟨rfl, fun _ => [], rfl, fun x hx => nomatch hx⟩ (fun pre x post acc G' e ⟨e1, f, e2, hf⟩ => ?_) fun acc G' ⟨e1, f, e2, hf⟩ => ?_
    · subst e1 e2
      have l4 := met_len pre
      have l5 : (nmsO os).length = pre.length + (post.length + 1) := by rw [e]; simp
      obtain ⟨ks, ok, er⟩ := m_reach h (a := x) (by rw [e]; simp) G'
      exists er, List.length_map
      refine ⟨fun y => if y = x then ks else f y, ?_, fun y hy => ?_⟩
      · rw [met_snoc, putD_map]
        refine List.map_congr_left fun y _ => ?_
        by_cases c : y = x <;> simp [c]
      · rw [met_snoc] at hy
        by_cases c : y = x
        · subst c
          dsimp only
          rw [if_pos rfl]; exact ok
        · dsimp only
          rw [if_neg c]; exact hf y (((step_mem _ _ _).mp hy).resolve_right c)
    · subst e1 e2
      have em : met (nmsO os) = nmsO os := met_nodup (met_nd _)
      rw [em] at hf ⊢
      exists m_links h
      refine lc_pure encL (linksO os) (fun l => decide (Rch (linksO os) l.2.1 l.1)) encL (Nat.le_trans hk (by decide)) rfl (fun l hl => ?_) ?_
      · obtain ⟨p, q, i⟩ := l
        obtain ⟨hp, hq⟩ := links_names hl
        have d1 : ∀ G, dIx (.dK ((nmsO os).map fun x => ((Sum.inr x : Key), D.dK (kB (f x))))) (.str q) G = .ok (.dK (kB (f q))) G := fun G => dIx_dK (nmsO os) (fun x => .dK (kB (f x))) hq G
        have iff : (p ∈ f q) = Rch (linksO os) q p := propext ((hf q hq).2 p)
        exists encL, d1, dIn_kB, iff
        exact fun _ => trivial
      · exists nilL
        rfl
  obtain ⟨d, G', e, rfl, rfl⟩ := R.wp_ex_iff.mp w
  exact e
/-! ring_in -/
def ChainL (w : List Lnk) : Prop := ∀ (k : Nat) (l l' : Lnk), w[k]? = some l → w[k + 1]? = some l' → l.2.1 = l'.1
theorem ChainL.snoc {w : List Lnk} {l m : Lnk} (h : ChainL (w ++ [l])) (e : l.2.1 = m.1) : ChainL (w ++ [l] ++ [m]) := by
  intro k a b ha hb
  by_cases c : k + 1 < (w ++ [l]).length
  · rw [List.getElem?_append_left (by omega)] at ha
    rw [List.getElem?_append_left c] at hb
    exact h k a b ha hb
  · have lt := (List.getElem?_eq_some_iff.mp hb).1
    have lk : k = w.length := by simp at c lt; omega
    subst lk
    simp at ha hb
    rw [← ha, ← hb]
    exact e
theorem ChainL.drop {w : List Lnk} (h : ChainL w) (j : Nat) : ChainL (w.drop j) := by
  intro k a b ha hb
  rw [List.getElem?_drop] at ha hb
  exact h (j + k) a b ha (by rw [← hb]; congr 1)
/-- a ring: each second name is the next one's first -/
structure RingOk (L ring : List Lnk) : Prop where
  ne : ring ≠ []
  sub : ∀ l ∈ ring, l ∈ L
  chain : ChainL ring
  back : ∀ a b, ring.head? = some a → ring.getLast? = some b → b.2.1 = a.1
  nd : (ring.map (·.1)).Nodup
theorem atI_last {α : Type} (xs : List α) (y : α) : atI (xs ++ [y]) (-1) = some y := by
  have h : ixN (xs ++ [y]).length (-1) = some xs.length := by
    unfold ixN
    simp
    omega
  unfold atI
  rw [h]
  simp
theorem cut_n {α : Type} (xs : List α) (j : Nat) : cutD xs (some (j : Int)) none = xs.drop j := by
  unfold cutD
  have a : HT.sIx xs.length 0 (some (j : Int)) = min j xs.length := by
    unfold HT.sIx
    simp
    omega
  have b : HT.sIx xs.length xs.length none = xs.length := rfl
  rw [a, b]
  by_cases c : j ≤ xs.length
  · rw [Nat.min_eq_left c]
    exact List.take_of_length_le (by simp)
  · rw [Nat.min_eq_right (by omega), List.drop_eq_nil_of_le (Nat.le_refl _), List.drop_eq_nil_of_le (by omega)]
    simp
theorem dSl_ref {G : GH} {n : Nat} {xs : List D} (h : G[n]? = some (.lst xs)) (mk : List D → GH → R D) (lo hi : Option Int) : dSl mk (.ref n) lo hi G = mk (cutD xs lo hi) G := by
  show (match lstOf G (.ref n) with | some xs => mk (cutD xs lo hi) G | none => R.no) = _
  rw [lstOf_ref, h]
theorem tyM_lst (T : String) (G : GH) (xs : List D) : tyM T G (.lst xs) = (T == "list") := rfl
theorem mIdxS_lst {zs : List Str} {x : Str} {j : Nat} (h : posS x zs = some j) (G : GH) : mIdxS (.lst (zs.map .str)) [.str x] G = .ok (.int (j : Nat)) G := by
  unfold mIdxS
  rw [lstOf_lst]
  dsimp only
  rw [strsOf_map]
  dsimp only
  rw [h]
theorem eqF_str (a b : Str) : eqF (.str a) (.str b) = (a == b) := rfl
theorem dIn_strs (zs : List Str) (x : Str) (G : GH) : dIn (.str x) (.lst (zs.map .str)) G = .ok (.bl (decide (x ∈ zs))) G := by
  have e : inD G (.str x) (.lst (zs.map .str)) = some (decide (x ∈ zs)) := by
    show dInS (.str x) (zs.map .str) = _
    unfold dInS
    have f : (zs.map D.str).all flatD = true := by simp [flatD]
    rw [f]
    simp only [flatD, Bool.and_self, if_true]
    congr 1
    rw [List.any_map]
    by_cases c : x ∈ zs
    · rw [decide_eq_true c]
      exact List.any_eq_true.mpr ⟨x, c, by simp [eqF_str]⟩
    · rw [decide_eq_false c]
      refine List.any_eq_false.mpr fun y hy => ?_
      simp [eqF_str]
      exact fun k => c (k ▸ hy)
  unfold dIn
  rw [e]
theorem posS_none {x : Str} : ∀ {zs : List Str}, x ∈ zs → ∃ j, posS x zs = some j := fun h => let ⟨j, a, _⟩ := posS_erase h; ⟨j, a⟩
/-- the ring that ring_in finds -/
def ringW (L : List Lnk) : Nat → List Lnk → Lnk → List Lnk
  | 0, _, _ => []
  | n + 1, w, l => match posS l.2.1 ((w ++ [l]).map (·.1)) with
    | some j => (w ++ [l]).drop j
    | none => match L.filter (fun x => x.1 == l.2.1) with
      | m :: _ => ringW L n (w ++ [l]) m
      | [] => []
theorem ringW_eq (L : List Lnk) (n : Nat) (w : List Lnk) (l : Lnk) : ringW L (n + 1) w l = match posS l.2.1 ((w ++ [l]).map (·.1)) with
    | some j => (w ++ [l]).drop j
    | none => match L.filter (fun x => x.1 == l.2.1) with
      | m :: _ => ringW L n (w ++ [l]) m
      | [] => [] := rfl
def ringO : List Lnk → List Lnk
  | [] => []
  | l :: r => ringW (l :: r) (r.length + 1) [] l
theorem posS_not {x : Str} : ∀ {xs : List Str}, x ∉ xs → posS x xs = none
  | [], _ => rfl
  | y :: r, h => by
    have h1 : ¬ y = x := fun e => h (by rw [e]; exact List.mem_cons_self ..)
    rw [posS, if_neg h1, posS_not fun k => h (List.mem_cons_of_mem _ k)]
    rfl
def encR (ring : List Lnk) : List D := ring.map fun l => D.tup [.str l.1, .int (l.2.2 : Nat)]
noncomputable def F_ring : List D → GH → R D := defF ["links", "walk", "items", "link", "item", "other", "at"] b_ring_in
theorem m_ring {L : List Lnk} (hL : L ≠ []) (hc : ∀ l ∈ L, ∃ l' ∈ L, l'.1 = l.2.1) (hl : L.length ≤ 1600) (so : ∀ l ∈ L, PyData.strOk l.1 = true ∧ PyData.strOk l.2.1 = true) (G : GH) :
    (F_ring [.lst (L.map encL)] G).wp (fun d G' => ∃ ring, RingOk L ring ∧ ring = ringO L ∧ (∃ J, G' = G ++ J) ∧ ∃ k, d = .ref k ∧ G.length ≤ k ∧ G'[k]? = some (.lst (encR ring))) noX := by
  unfold F_ring b_ring_in
  and_intros
  obtain ⟨l0, r0, rfl⟩ := List.exists_cons_of_ne_nil hL
  exists List.map_cons
  have hR : ringW (l0 :: r0) (r0.length + 1) [] l0 = ringO (l0 :: r0) := rfl
  have hln : (l0 :: r0).length = r0.length + 1 := rfl
  generalize hLL : l0 :: r0 = L at *
  have eL : encL l0 :: List.map encL r0 = L.map encL := by rw [← hLL]; rfl
  rw [eL]
  have m0 : l0 ∈ L := by rw [← hLL]; simp
  refine wh_inv (fun m δ G2 => ∃ w l, m = L.length - (w.length + 1) ∧ ringW L (m + 1) w l = ringO L ∧ (∀ x ∈ w ++ [l], x ∈ L) ∧ ChainL (w ++ [l]) ∧ ((w ++ [l]).map (·.1)).Nodup ∧ (∃ a b c d e, δ = [some (.lst (L.map encL)), some (.ref G.length), a, b, c, d, e]) ∧ G2 = G ++ [.lst ((w ++ [l]).map encL)]) (L.length - 1) 1000000
    ⟨[], l0, rfl, by rw [hln]; exact hR, by simpa using m0, (fun k a b ha hb => by simp at hb), by simp, ⟨_, _, _, _, _, rfl⟩, by simp⟩ (by omega) (fun m δ G2 ⟨w, l, em, er, hs, ch, nd, ⟨a, b, c, d, e, e1⟩, e2⟩ => ?_)
  subst e1 e2
  have nl : (w ++ [l]).length ≤ L.length := by
    have := nd_le nd (ys := L.map (·.1)) fun x hx => by
      obtain ⟨y, hy, rfl⟩ := List.mem_map.mp hx
      exact List.mem_map.mpr ⟨y, hs y hy, rfl⟩
    simpa using this
  have it := lstIts_cell (ge1 G (.lst ((w ++ [l]).map encL)))
  exists itsD_ref, it
  refine lc_pure encL (w ++ [l]) (fun _ => true) (fun l => .str l.1) (Nat.le_trans (by omega : (w ++ [l]).length ≤ 1600) (by decide)) ?_ (fun x hx => ?_) ?_
  · exists nilL
  · exists encL
    exact fun _ => trivial
  · rw [show (w ++ [l]).filter (fun _ => true) = w ++ [l] by simp]
    have g1 := ge1 G (.lst ((w ++ [l]).map encL))
    have dl : ∀ G2, G2[G.length]? = some (.lst ((w ++ [l]).map encL)) → dIx (.ref G.length) (.int (-1)) G2 = .ok (encL l) G2 := fun G2 hg => by
      rw [dIx_ref _ _ _ hg, List.map_append, show [l].map encL = [encL l] from rfl, atI_last]
    have es : (w ++ [l]).map (fun l => D.str l.1) = ((w ++ [l]).map (·.1)).map D.str := by rw [List.map_map]; rfl
    rw [es]
    by_cases cc : l.2.1 ∈ (w ++ [l]).map (·.1)
    · obtain ⟨j, hj⟩ := posS_none cc
      obtain ⟨j1, j2⟩ := posS_some hj
      have ec : cutD (List.map encL (w ++ [l])) (some (j : Int)) none = ((w ++ [l]).drop j).map encL := by rw [cut_n, List.map_drop]
      have sl : dSl mkF (.ref G.length) (some (j : Int)) none (G ++ [.lst ((w ++ [l]).map encL)]) = mkF (((w ++ [l]).drop j).map encL) (G ++ [.lst ((w ++ [l]).map encL)]) := by rw [dSl_ref g1, ec]
      exists dl _ g1, encL, dIn_strs, cc, tyM_lst, mIdxS_lst hj, sl
      have ld : ((w ++ [l]).drop j).length ≤ 1600 := by rw [List.length_drop]; omega
      refine lc_pure encL ((w ++ [l]).drop j) (fun _ => true) (fun l => .tup [.str l.1, .int (l.2.2 : Nat)]) (Nat.le_trans ld (by decide)) rfl (fun x hx => ?_) ?_
      · exists encL
        exact fun _ => trivial
      · rw [show ((w ++ [l]).drop j).filter (fun _ => true) = (w ++ [l]).drop j by simp]
        exists nilL
        have jl : j < (w ++ [l]).length := by
          have := (List.getElem?_eq_some_iff.mp j1).1
          rwa [List.length_map] at this
        refine ⟨(w ++ [l]).drop j, ⟨?_, fun x hx => hs x (List.mem_of_mem_drop hx), ch.drop j, fun a b ha hb => ?_, ?_⟩, by rw [← er, ringW_eq, hj], ⟨_, by rw [List.append_assoc]⟩, _, rfl, by simp, ?_⟩
        · intro k
          have := congrArg List.length k
          rw [List.length_drop] at this
          simp at this jl
          omega
        · rw [List.head?_drop] at ha
          rw [List.getLast?_drop, if_neg (by omega)] at hb
          simp at hb
          subst hb
          rw [List.getElem?_map, ha] at j1
          simpa using j1.symm
        · rw [List.map_drop]
          exact nd.sublist (List.drop_sublist ..)
        · exact ge2b ..
    · obtain ⟨m1, hm, em1⟩ := hc l (hs l (by simp))
      exists dl _ g1, encL, dIn_strs, cc, w_sDrop, tyM_ref, g1
      refine lc_pure encL L (fun x => x.1 == l.2.1) encL (Nat.le_trans hl (by decide)) rfl (fun x hx => ?_) ?_
      · have de : ∀ G, dEq (.str x.1) (.str l.2.1) G = .ok (.bl (x.1 == l.2.1)) G := fun G => dEq_str G (so x hx).1 (so l (hs l (by simp))).2
        exists encL, dl _ g1, de
        exact fun _ => trivial
      · have hm' : m1 ∈ L.filter fun x => x.1 == l.2.1 := List.mem_filter.mpr ⟨hm, by simp [em1]⟩
        obtain ⟨m2, r2, e2⟩ := List.exists_cons_of_ne_nil (List.ne_nil_of_mem hm')
        have h2 : m2 ∈ L ∧ m2.1 = l.2.1 := by
          have : m2 ∈ L.filter fun x => x.1 == l.2.1 := by rw [e2]; simp
          obtain ⟨a, b⟩ := List.mem_filter.mp this
          exact ⟨a, eq_of_beq b⟩
        have lz : (List.map encL (w ++ [l])).length < sizeLine := by rw [List.length_map]; exact sz_lt' (by omega)
        have dx : ∀ G, dIx (.lst (((L.filter fun x => x.1 == l.2.1)).map encL)) (.int 0) G = .ok (encL m2) G := fun G => by rw [e2, List.map_cons, dIx_lst, atI_0]
        exists dx, lz
        have n3 : w.length + 2 ≤ L.length := by
          have n2 := nd_le (xs := (w ++ [l]).map (·.1) ++ [m2.1]) (ys := L.map (·.1)) ?_ ?_
          · simp at n2
            omega
          · refine List.nodup_append.mpr ⟨nd, by simp, fun a ha b hb q => cc ?_⟩
            simp at hb
            rw [← h2.2, ← hb, ← q]
            exact ha
          · intro x hx
            rcases List.mem_append.mp hx with k | k
            · obtain ⟨y, hy, rfl⟩ := List.mem_map.mp k
              exact List.mem_map.mpr ⟨y, hs y hy, rfl⟩
            · simp at k
              rw [k]
              exact List.mem_map.mpr ⟨m2, h2.1, rfl⟩
        have em2 : m = (L.length - ((w ++ [l]).length + 1)) + 1 := by rw [em]; simp; omega
        refine ⟨_, ?_, w ++ [l], m2, rfl, ?_, fun x hx => ?_, ch.snoc h2.2.symm, ?_, ⟨_, _, _, _, _, rfl⟩, by simp⟩
        · rw [em2]; exact Nat.lt_succ_self _
        · rw [em2, ringW_eq, posS_not cc, e2] at er
          exact er
        · rcases List.mem_append.mp hx with k | k
          · exact hs x k
          · simp at k; rw [k]; exact h2.1
        · rw [List.map_append]
          refine List.nodup_append.mpr ⟨nd, by simp, fun a ha b hb q => cc ?_⟩
          simp at hb
          rw [← h2.2, ← hb, ← q]
          exact ha
end OA
end CF
end
section
set_option maxRecDepth 100000
set_option maxHeartbeats 4000000
namespace CF
namespace OA
open PySem PySem.Spec PyProof.Rows L2 
local macro_rules
  | `(tactic| exists $es,*) => `(tactic| simp (disch := first | assumption | omega | (simp only [List.length_set, List.length_append, List.length_cons, List.length_nil]; omega)) only [↓wp_ok, ↓wp_ex, ↓wp_bind, ↓wp_guard, ↓wp_nox, ↓sp_nx, ↓sp_rt, ↓sp_bk, ↓sp_ct, ↓sp_ex, ↓sp_seq, ↓sp_thn, ↓sp_guard,
      ↓w_eC, ↓w_eVar, ↓w_aNil, ↓w_aCons, ↓w_eTup, ↓w_eTupP, ↓w_eLst, ↓w_eLstM, ↓w_eOp, ↓w_eChain, ↓w_asB, ↓w_tAnd, ↓w_tOr, ↓w_tNot, ↓w_eTru, ↓w_eIf, ↓w_sNext, ↓w_sSeq, ↓w_sRet, ↓w_sRetN, ↓w_sIf, ↓w_sSet, ↓w_sDrop, ↓w_sBreak, ↓w_sCont, ↓w_gNm, ↓w_gsNil, ↓w_gsCons, ↓w_gTp, ↓w_sAsg, ↓w_eOne, ↓w_eUn, ↓w_eCB, ↓w_one, ↓w_eCall, ↓w_eAnd, ↓w_eOr, ↓w_eNot, ↓w_iSeq, ↓w_eLc, ↓w_mkF, ↓w_mkM, ↓w_tYes, ↓w_eMt, ↓w_eMt0, ↓w_iRg1, ↓w_sPut, ↓w_gPut, ↓w_sPar2, ↓w_sPar3, ↓w_sAugD, ↓w_eDict0, ↓w_mkKF, ↓w_mkKM, ↓w_eRev, ↓w_eGet2, ↓w_eLenSet2, ↓w_iEn, ↓w_iZp, ↓w_eCm, ↓w_cmDn, ↓w_cmDc, ↓w_emLd, ↓w_emKd, keyD_str, keyD_int, dKOf_dK, dKOf_ref, celL_ref, celD_ref, lstIts_lst, tupIts_tup, tupIts_pt, tupIts_lst, tupIts_scr, tupIts_ref, strsOf_map,
      wipeD_nil, wipeD_cons, List.cons_append, List.nil_append, List.append_nil, ap_setI, eSl_ap, eOpt_none, eOpt_some,
      List.getElem?_cons_zero, List.getElem?_cons_succ, List.set_cons_zero, List.set_cons_succ, List.length_cons, List.length_nil, List.length_set, Nat.zero_add, Nat.reduceAdd, Nat.reduceSub, Nat.add_one_sub_one, List.length_append,
      itsD_tup, itsD_pt, itsD_lst, itsD_scr, dIx_tup, dIx_pt, dIx_lst, dIx_scr, atI_0, atI_1, atI_2, dAdd_int, dAdd_tup, dAdd_pt, dAdd_lst, dAdd_str, dInt_int, dInt_bl, dStr_int, dStr_str, dIsi_ap, dLen_lst, dLen_tup, dLen_pt, dLen_scr, dIsN_non, dNotN_non, dNeg_ap, dIB_ap, dI_ap,
      dEq_int, dNe_int, truD_bl, truD_non, truD_int, dSl_tup, dSl_pt, dSl_lst, dSl_scr, dTupP_lst, decide_true, decide_false, if_true, if_false, Bool.false_eq_true, Bool.not_true, Bool.not_false, eq_self, true_and, and_true, sz_le, sz_lt, rngIts_items, rngIts_chk, beq_self_eq_true, R.bind_ok, R.nox_ok, tyM_ref, mAppend_ref, mExtend_ref, ge1, ge2a, ge2b, ge3a, ge3b, ge3c, ge3d, st1, st2a, st2b, st3a, st3b, st3c, st3d, tyN, Bool.and_self, Bool.and_true, Bool.true_and, Bool.and_false, Bool.false_and, Bool.or_true, Bool.true_or, Bool.or_false, Bool.false_or, Int.reduceLT, Int.reduceLE, Int.reduceGT, Int.reduceNeg, Int.reduceAdd, Int.reduceSub, Int.reduceBEq, Int.reduceBNe, Int.reduceEq, Int.reduceToNat, Nat.reduceEqDiff, Nat.reduceLeDiff, reduceCtorEq, Int.natCast_zero, Int.cast_ofNat_Int, Int.lt_irrefl, List.map_nil, decide_eq_true_eq,
      isi_NoneType_int, isi_NoneType_str, isi_NoneType_bool, isi_NoneType_tuple, isi_NoneType_list, isi_NoneType_dict, isi_bool_int, isi_bool_str, isi_bool_bool, isi_bool_tuple, isi_bool_list, isi_bool_dict, isi_int_int, isi_int_str, isi_int_bool, isi_int_tuple, isi_int_list, isi_int_dict, isi_str_int, isi_str_str, isi_str_bool, isi_str_tuple, isi_str_list, isi_str_dict, isi_tuple_int, isi_tuple_str, isi_tuple_bool, isi_tuple_tuple, isi_tuple_list, isi_tuple_dict, isi_list_int, isi_list_str, isi_list_bool, isi_list_tuple, isi_list_list, isi_list_dict, isi_dict_int, isi_dict_str, isi_dict_bool, isi_dict_tuple, isi_dict_list, isi_dict_dict, $[$es:term],*])
  | `(tactic| and_intros) => `(tactic| (rw [wp_def]; simp only [startD, List.map_cons, List.map_nil, List.length_cons, List.length_nil, Nat.zero_add, Nat.reduceAdd, Nat.reduceSub, List.replicate, List.cons_append, List.nil_append]))
/-! ### least_order -/
theorem rch_head {ls : List Lnk} {a c : Str} (h : Rch ls a c) : ∃ b, Lk1 ls a b ∧ (b = c ∨ Rch ls b c) := by
  cases h with
  | one l => exact ⟨_, l, .inl rfl⟩
  | cons l k => exact ⟨_, l, .inr k⟩
theorem ringL_mem {os : List Ord} {l : Lnk} : l ∈ ringL os ↔ l ∈ linksO os ∧ Rch (linksO os) l.2.1 l.1 := by
  unfold ringL
  rw [List.mem_filter]
  simp
theorem ringL_closed {os : List Ord} : ∀ l ∈ ringL os, ∃ l' ∈ ringL os, l'.1 = l.2.1 := by
  intro l hl
  obtain ⟨h1, h2⟩ := ringL_mem.mp hl
  obtain ⟨a, b, i⟩ := l
  have lab : Lk1 (linksO os) a b := ⟨i, h1⟩
  obtain ⟨c, ⟨j, hc⟩, k⟩ := rch_head h2
  refine ⟨(b, c, j), ringL_mem.mpr ⟨hc, ?_⟩, rfl⟩
  rcases k with rfl | k
  · exact .one lab
  · exact k.snoc lab
/-- where each has one ahead of it, there is a ring -/
theorem ring_of {ls : List Lnk} {S : List Str} (hS : S ≠ []) (hp : ∀ x ∈ S, ∃ y ∈ S, Lk1 ls y x) : ∃ x, Rch ls x x := by
  have go : ∀ n, (∃ x, Rch ls x x) ∨ ∃ h t, t.length = n ∧ (h :: t).Nodup ∧ (∀ x ∈ h :: t, x ∈ S) ∧ ∀ x ∈ t, Rch ls h x := by
    intro n
    induction n with
    | zero =>
      obtain ⟨x, r, rfl⟩ := List.exists_cons_of_ne_nil hS
      exact .inr ⟨x, [], rfl, by simp, by simp, by simp⟩
    | succ n ih =>
      rcases ih with k | ⟨h, t, e, nd, sub, k⟩
      · exact .inl k
      · obtain ⟨y, hy, l⟩ := hp h (sub h (List.mem_cons_self ..))
        by_cases c : y ∈ h :: t
        · refine .inl ?_
          rcases List.mem_cons.mp c with rfl | c
          · exact ⟨y, .one l⟩
          · exact ⟨y, .cons l (k y c)⟩
        · refine .inr ⟨y, h :: t, by simp [e], List.nodup_cons.mpr ⟨c, nd⟩, fun x hx => ?_, fun x hx => ?_⟩
          · rcases List.mem_cons.mp hx with rfl | hx
            · exact hy
            · exact sub x hx
          · rcases List.mem_cons.mp hx with rfl | hx
            · exact .one l
            · exact .cons l (k x hx)
  rcases go S.length with k | ⟨h, t, e, nd, sub, _⟩
  · exact k
  · have := nd_le nd sub
    rw [List.length_cons] at this
    omega
theorem cnt_pos {ls : List Lnk} {found : List Str} {x : Str} (h : (cntO ls found x == 0) = false) : ∃ y, y ∉ found ∧ Lk1 ls y x := by
  unfold cntO at h
  cases q : ls.filter fun l => l.2.1 == x && !(found.contains l.1) with
  | nil => rw [q] at h; simp at h
  | cons l r =>
    have hl : l ∈ ls.filter fun l => l.2.1 == x && !(found.contains l.1) := by rw [q]; simp
    obtain ⟨h1, h2⟩ := List.mem_filter.mp hl
    obtain ⟨h3, h4⟩ := Bool.and_eq_true_iff.mp h2
    have e := eq_of_beq h3
    subst e
    exact ⟨l.1, by simpa using h4, l.2.2, h1⟩
/-- kept_order stops: each of those left has one of them ahead of it -/
theorem keptP_none {ls : List Lnk} (N : List Str) (hN : ∀ l ∈ ls, l.1 ∈ N) : ∀ (n : Nat) (left found : List Str), left.length = n → (left ++ found).Perm N → keptP ls n left found = none →
    ∃ S, S ≠ [] ∧ (∀ x ∈ S, x ∈ N) ∧ ∀ x ∈ S, ∃ y ∈ S, Lk1 ls y x
  | 0, _, _, _, _, h => by cases h
  | n + 1, left, found, hl, hp, h => by
    rw [keptP_eq] at h
    cases q : left.find? (fun x => cntO ls found x == 0) with
    | none =>
      refine ⟨left, fun e => by rw [e] at hl; simp at hl, fun x hx => hp.mem_iff.mp (List.mem_append_left _ hx), fun x hx => ?_⟩
      have hz := List.find?_eq_none.mp q x hx
      obtain ⟨y, nf, i, l⟩ := cnt_pos (by simpa using hz)
      refine ⟨y, ?_, i, l⟩
      exact (List.mem_append.mp (hp.mem_iff.mpr (hN _ l))).resolve_right nf
    | some x =>
      rw [q] at h
      have hx := List.mem_of_find?_eq_some q
      refine keptP_none N hN n (left.erase x) (found ++ [x]) (by rw [List.length_erase_of_mem hx, hl]; rfl) ?_ h
      have p1 := List.perm_cons_erase hx
      have p2 : (left.erase x ++ (found ++ [x])).Perm (left ++ found) := by
        refine (List.Perm.append_left _ (List.perm_append_comm (l₁ := found) (l₂ := [x]))).trans ?_
        exact (List.perm_middle (l₁ := left.erase x) (a := x) (l₂ := found)).trans (List.Perm.append_right found p1.symm)
      exact p2.trans hp
theorem kept_ring {os : List Ord} (h : keptO os = none) : ringL os ≠ [] := by
  obtain ⟨S, h1, _, h2⟩ := keptP_none (nmsO os) (fun l hl => (links_names hl).1) _ (sortS (nmsO os)) [] (sortS_perm _).length_eq (by simpa using sortS_perm (nmsO os)) h
  obtain ⟨x, k⟩ := ring_of h1 h2
  obtain ⟨b, ⟨i, l⟩, c⟩ := rch_head k
  refine List.ne_nil_of_mem (ringL_mem.mpr ⟨l, ?_⟩)
  rcases c with rfl | c
  · exact k
  · exact c
theorem ord_str {os : List Ord} (h : OrdsOk os) {x : Str} (hx : x ∈ nmsO os) : PyData.strOk x = true := by
  obtain ⟨o, ho, k⟩ := List.mem_flatMap.mp (met_mem.mp hx)
  exact ((h.2 o ho).2.2 x k).2
/-- what least_order tells -/
def Least (os : List Ord) (G : GH) (d : D) (G' : GH) : Prop := (∃ J, G' = G ++ J) ∧ ∃ k, G.length ≤ k ∧ match keptO os with
  | some ns => d = .tup [.str "order", .ref k] ∧ G'[k]? = some (.lst (ns.map .str))
  | none => ∃ ring, RingOk (ringL os) ring ∧ ring = ringO (ringL os) ∧ d = .tup [.str "ring", .ref k] ∧ G'[k]? = some (.lst (encR ring))
noncomputable def F_check : List D → GH → R D := defF ["orders", "one"] (b_check_orders F_order)
noncomputable def F_least : List D → GH → R D := defF ["orders", "found"] (b_least_order F_check F_kept F_ring F_lor)
theorem m_least {os : List Ord} (h : OrdsOk os) (G : GH) : (F_least [.lst (os.map encO)] G).wp (Least os G) noX := by
  unfold F_least b_least_order
  and_intros
  have mc : F_check [.lst (os.map encO)] G = .ok .non G := m_check h G
  exists mc
  refine R.use (m_kept h G) fun d G' ⟨⟨J, eJ⟩, k⟩ => ?_
  subst eJ
  cases q : keptO os with
  | none =>
    rw [q] at k
    subst k
    have n0 : isN .non = true := rfl
    exists n0, m_lor h
    have ln : (ringL os).length ≤ 1600 := Nat.le_trans (List.length_filter_le _ _) (links_len h)
    refine R.use (m_ring (kept_ring q) ringL_closed ln (fun l hl => ?_) (G ++ J)) fun d G' ⟨ring, ok, ero, ⟨J2, eJ2⟩, k, ed, lk, gk⟩ => ?_
    · have := links_names (ringL_mem.mp hl).1
      exact ⟨ord_str h this.1, ord_str h this.2⟩
    · subst eJ2 ed
      exists nilL
      refine ⟨⟨_, by rw [List.append_assoc]⟩, k, by simp at lk; omega, ?_⟩
      rw [q]
      exact ⟨ring, ok, ero, rfl, gk⟩
  | some ns =>
    rw [q] at k
    obtain ⟨k, rfl, lk, gk⟩ := k
    have nn : isN (.ref k) = false := rfl
    exists nn
    refine ⟨⟨_, rfl⟩, k, lk, ?_⟩
    rw [q]
    exact ⟨rfl, gk⟩
end OA
end CF
end
section
set_option maxRecDepth 100000
set_option maxHeartbeats 4000000
namespace CF
namespace OA
open PySem PySem.Spec PyProof.Rows L2 
local macro_rules
  | `(tactic| exists $es,*) => `(tactic| simp (disch := first | assumption | omega | (simp only [List.length_set, List.length_append, List.length_cons, List.length_nil]; omega)) only [↓wp_ok, ↓wp_ex, ↓wp_bind, ↓wp_guard, ↓wp_nox, ↓sp_nx, ↓sp_rt, ↓sp_bk, ↓sp_ct, ↓sp_ex, ↓sp_seq, ↓sp_thn, ↓sp_guard,
      ↓w_eC, ↓w_eVar, ↓w_aNil, ↓w_aCons, ↓w_eTup, ↓w_eTupP, ↓w_eLst, ↓w_eLstM, ↓w_eOp, ↓w_eChain, ↓w_asB, ↓w_tAnd, ↓w_tOr, ↓w_tNot, ↓w_eTru, ↓w_eIf, ↓w_sNext, ↓w_sSeq, ↓w_sRet, ↓w_sRetN, ↓w_sIf, ↓w_sSet, ↓w_sDrop, ↓w_sBreak, ↓w_sCont, ↓w_gNm, ↓w_gsNil, ↓w_gsCons, ↓w_gTp, ↓w_sAsg, ↓w_eOne, ↓w_eUn, ↓w_eCB, ↓w_one, ↓w_eCall, ↓w_eAnd, ↓w_eOr, ↓w_eNot, ↓w_iSeq, ↓w_eLc, ↓w_mkF, ↓w_mkM, ↓w_tYes, ↓w_eMt, ↓w_eMt0, ↓w_iRg1, ↓w_sPut, ↓w_gPut, ↓w_sPar2, ↓w_sPar3, ↓w_sAugD, ↓w_eDict0, ↓w_mkKF, ↓w_mkKM, ↓w_eRev, ↓w_eGet2, ↓w_eLenSet2, ↓w_iEn, ↓w_iZp, ↓w_eCm, ↓w_cmDn, ↓w_cmDc, ↓w_emLd, ↓w_emKd, keyD_str, keyD_int, dKOf_dK, dKOf_ref, celL_ref, celD_ref, lstIts_lst, tupIts_tup, tupIts_pt, tupIts_lst, tupIts_scr, tupIts_ref, strsOf_map,
      wipeD_nil, wipeD_cons, List.cons_append, List.nil_append, List.append_nil, ap_setI, eSl_ap, eOpt_none, eOpt_some,
      List.getElem?_cons_zero, List.getElem?_cons_succ, List.set_cons_zero, List.set_cons_succ, List.length_cons, List.length_nil, List.length_set, Nat.zero_add, Nat.reduceAdd, Nat.reduceSub, Nat.add_one_sub_one, List.length_append,
      itsD_tup, itsD_pt, itsD_lst, itsD_scr, dIx_tup, dIx_pt, dIx_lst, dIx_scr, atI_0, atI_1, atI_2, dAdd_int, dAdd_tup, dAdd_pt, dAdd_lst, dAdd_str, dInt_int, dInt_bl, dStr_int, dStr_str, dIsi_ap, dLen_lst, dLen_tup, dLen_pt, dLen_scr, dIsN_non, dNotN_non, dNeg_ap, dIB_ap, dI_ap,
      dEq_int, dNe_int, truD_bl, truD_non, truD_int, dSl_tup, dSl_pt, dSl_lst, dSl_scr, dTupP_lst, decide_true, decide_false, if_true, if_false, Bool.false_eq_true, Bool.not_true, Bool.not_false, eq_self, true_and, and_true, sz_le, sz_lt, rngIts_items, rngIts_chk, beq_self_eq_true, R.bind_ok, R.nox_ok, tyM_ref, mAppend_ref, mExtend_ref, ge1, ge2a, ge2b, ge3a, ge3b, ge3c, ge3d, st1, st2a, st2b, st3a, st3b, st3c, st3d, tyN, Bool.and_self, Bool.and_true, Bool.true_and, Bool.and_false, Bool.false_and, Bool.or_true, Bool.true_or, Bool.or_false, Bool.false_or, Int.reduceLT, Int.reduceLE, Int.reduceGT, Int.reduceNeg, Int.reduceAdd, Int.reduceSub, Int.reduceBEq, Int.reduceBNe, Int.reduceEq, Int.reduceToNat, Nat.reduceEqDiff, Nat.reduceLeDiff, reduceCtorEq, Int.natCast_zero, Int.cast_ofNat_Int, Int.lt_irrefl, List.map_nil, decide_eq_true_eq,
      isi_NoneType_int, isi_NoneType_str, isi_NoneType_bool, isi_NoneType_tuple, isi_NoneType_list, isi_NoneType_dict, isi_bool_int, isi_bool_str, isi_bool_bool, isi_bool_tuple, isi_bool_list, isi_bool_dict, isi_int_int, isi_int_str, isi_int_bool, isi_int_tuple, isi_int_list, isi_int_dict, isi_str_int, isi_str_str, isi_str_bool, isi_str_tuple, isi_str_list, isi_str_dict, isi_tuple_int, isi_tuple_str, isi_tuple_bool, isi_tuple_tuple, isi_tuple_list, isi_tuple_dict, isi_list_int, isi_list_str, isi_list_bool, isi_list_tuple, isi_list_list, isi_list_dict, isi_dict_int, isi_dict_str, isi_dict_bool, isi_dict_tuple, isi_dict_list, isi_dict_dict, $[$es:term],*])
  | `(tactic| and_intros) => `(tactic| (rw [wp_def]; simp only [startD, List.map_cons, List.map_nil, List.length_cons, List.length_nil, Nat.zero_add, Nat.reduceAdd, Nat.reduceSub, List.replicate, List.cons_append, List.nil_append]))
/-! the names of the law -/
def eight : List Str := ["a", "b", "c", "dd", "e", "eightlet", "x", "z"]
theorem eight_ok : ∀ x ∈ eight, nmOk x = true ∧ PyData.strOk x = true := by decide +kernel
theorem eight_nd : eight.Nodup := by decide +kernel
end OA
end CF
end
section
set_option maxRecDepth 100000
set_option maxHeartbeats 4000000
namespace CF
namespace OA
open PySem PySem.Spec PyProof.Rows L2 
local macro_rules
  | `(tactic| exists $es,*) => `(tactic| simp (disch := first | assumption | omega | (simp only [List.length_set, List.length_append, List.length_cons, List.length_nil]; omega)) only [↓wp_ok, ↓wp_ex, ↓wp_bind, ↓wp_guard, ↓wp_nox, ↓sp_nx, ↓sp_rt, ↓sp_bk, ↓sp_ct, ↓sp_ex, ↓sp_seq, ↓sp_thn, ↓sp_guard,
      ↓w_eC, ↓w_eVar, ↓w_aNil, ↓w_aCons, ↓w_eTup, ↓w_eTupP, ↓w_eLst, ↓w_eLstM, ↓w_eOp, ↓w_eChain, ↓w_asB, ↓w_tAnd, ↓w_tOr, ↓w_tNot, ↓w_eTru, ↓w_eIf, ↓w_sNext, ↓w_sSeq, ↓w_sRet, ↓w_sRetN, ↓w_sIf, ↓w_sSet, ↓w_sDrop, ↓w_sBreak, ↓w_sCont, ↓w_gNm, ↓w_gsNil, ↓w_gsCons, ↓w_gTp, ↓w_sAsg, ↓w_eOne, ↓w_eUn, ↓w_eCB, ↓w_one, ↓w_eCall, ↓w_eAnd, ↓w_eOr, ↓w_eNot, ↓w_iSeq, ↓w_eLc, ↓w_mkF, ↓w_mkM, ↓w_tYes, ↓w_eMt, ↓w_eMt0, ↓w_iRg1, ↓w_sPut, ↓w_gPut, ↓w_sPar2, ↓w_sPar3, ↓w_sAugD, ↓w_eDict0, ↓w_mkKF, ↓w_mkKM, ↓w_eRev, ↓w_eGet2, ↓w_eLenSet2, ↓w_iEn, ↓w_iZp, ↓w_eCm, ↓w_cmDn, ↓w_cmDc, ↓w_emLd, ↓w_emKd, keyD_str, keyD_int, dKOf_dK, dKOf_ref, celL_ref, celD_ref, lstIts_lst, tupIts_tup, tupIts_pt, tupIts_lst, tupIts_scr, tupIts_ref, strsOf_map,
      wipeD_nil, wipeD_cons, List.cons_append, List.nil_append, List.append_nil, ap_setI, eSl_ap, eOpt_none, eOpt_some,
      List.getElem?_cons_zero, List.getElem?_cons_succ, List.set_cons_zero, List.set_cons_succ, List.length_cons, List.length_nil, List.length_set, Nat.zero_add, Nat.reduceAdd, Nat.reduceSub, Nat.add_one_sub_one, List.length_append,
      itsD_tup, itsD_pt, itsD_lst, itsD_scr, dIx_tup, dIx_pt, dIx_lst, dIx_scr, atI_0, atI_1, atI_2, dAdd_int, dAdd_tup, dAdd_pt, dAdd_lst, dAdd_str, dInt_int, dInt_bl, dStr_int, dStr_str, dIsi_ap, dLen_lst, dLen_tup, dLen_pt, dLen_scr, dIsN_non, dNotN_non, dNeg_ap, dIB_ap, dI_ap,
      dEq_int, dNe_int, truD_bl, truD_non, truD_int, dSl_tup, dSl_pt, dSl_lst, dSl_scr, dTupP_lst, decide_true, decide_false, if_true, if_false, Bool.false_eq_true, Bool.not_true, Bool.not_false, eq_self, true_and, and_true, sz_le, sz_lt, rngIts_items, rngIts_chk, beq_self_eq_true, R.bind_ok, R.nox_ok, tyM_ref, mAppend_ref, mExtend_ref, ge1, ge2a, ge2b, ge3a, ge3b, ge3c, ge3d, st1, st2a, st2b, st3a, st3b, st3c, st3d, tyN, Bool.and_self, Bool.and_true, Bool.true_and, Bool.and_false, Bool.false_and, Bool.or_true, Bool.true_or, Bool.or_false, Bool.false_or, Int.reduceLT, Int.reduceLE, Int.reduceGT, Int.reduceNeg, Int.reduceAdd, Int.reduceSub, Int.reduceBEq, Int.reduceBNe, Int.reduceEq, Int.reduceToNat, Nat.reduceEqDiff, Nat.reduceLeDiff, reduceCtorEq, Int.natCast_zero, Int.cast_ofNat_Int, Int.lt_irrefl, List.map_nil, decide_eq_true_eq,
      isi_NoneType_int, isi_NoneType_str, isi_NoneType_bool, isi_NoneType_tuple, isi_NoneType_list, isi_NoneType_dict, isi_bool_int, isi_bool_str, isi_bool_bool, isi_bool_tuple, isi_bool_list, isi_bool_dict, isi_int_int, isi_int_str, isi_int_bool, isi_int_tuple, isi_int_list, isi_int_dict, isi_str_int, isi_str_str, isi_str_bool, isi_str_tuple, isi_str_list, isi_str_dict, isi_tuple_int, isi_tuple_str, isi_tuple_bool, isi_tuple_tuple, isi_tuple_list, isi_tuple_dict, isi_list_int, isi_list_str, isi_list_bool, isi_list_tuple, isi_list_list, isi_list_dict, isi_dict_int, isi_dict_str, isi_dict_bool, isi_dict_tuple, isi_dict_list, isi_dict_dict, $[$es:term],*])
  | `(tactic| and_intros) => `(tactic| (rw [wp_def]; simp only [startD, List.map_cons, List.map_nil, List.length_cons, List.length_nil, Nat.zero_add, Nat.reduceAdd, Nat.reduceSub, List.replicate, List.cons_append, List.nil_append]))
/-! ### the law's draws: names -/
theorem src_closed (w : Src) (n : Nat) : closedC n w.cell := pures0_cons (pure0_int _) (pures0_cons (pure0_int _) (pures0_cons (pure0_int _) pures0_nil)) _
theorem fz_src {G J : GH} {n : Nat} {w : Src} {d d' : D} (lt : n < G.length) (e : fzD (G.set n w.cell ++ J) G.length d = some d') : fzR G (.ok d (G.set n w.cell ++ J)) = .ok d' (G.set n w.cell) :=
  fzR_ok2 (by simp) (fun k c hk ek => by
    by_cases hn : n = k
    · subst hn
      rw [List.getElem?_set_self lt] at ek
      cases ek
      exact .inr (src_closed w _)
    · rw [List.getElem?_set_ne hn] at ek
      exact .inl ek) e
section
variable (G : GH) (n : Nat) (w v a b x : Cell)
theorem gs1 : (G.set n w ++ [a])[G.length]? = some a := by simp
theorem gs2a : (G.set n w ++ [a] ++ [b])[G.length]? = some a := by simp
theorem gs2b : (G.set n w ++ [a] ++ [b])[G.length + 1]? = some b := by simp
theorem ss1 : (G.set n w ++ [a]).set G.length x = G.set n w ++ [x] := by simp
theorem ss2a : (G.set n w ++ [a] ++ [b]).set G.length x = G.set n w ++ [x] ++ [b] := by simp
theorem ss2b : (G.set n w ++ [a] ++ [b]).set (G.length + 1) x = G.set n w ++ [a] ++ [x] := by simp
variable {n} {G}
theorem gn0 (h : n < G.length) : (G.set n w)[n]? = some w := by simp [h]
theorem gn1 (h : n < G.length) : (G.set n w ++ [a])[n]? = some w := by rw [List.getElem?_append_left (by simpa using h)]; simp [h]
theorem gn2 (h : n < G.length) : (G.set n w ++ [a] ++ [b])[n]? = some w := by rw [List.getElem?_append_left (by simp; omega)]; exact gn1 w a h
theorem sn1 (h : n < G.length) : (G.set n w ++ [a]).set n v = G.set n v ++ [a] := by rw [List.set_append_left _ _ (by simpa using h), List.set_set]
theorem sn2 (h : n < G.length) : (G.set n w ++ [a] ++ [b]).set n v = G.set n v ++ [a] ++ [b] := by rw [List.set_append_left _ _ (by simp; omega), sn1 w v a h]
end
noncomputable def eightE : FE := eLst (aCons (eC (.str "a")) (aCons (eC (.str "b")) (aCons (eC (.str "c")) (aCons (eC (.str "dd")) (aCons (eC (.str "e")) (aCons (eC (.str "eightlet")) (aCons (eC (.str "x")) (aCons (eC (.str "z")) aNil))))))))
theorem eightE_ap (δ : DEnv) (G : GH) : eightE δ G = .ok (.lst (eight.map .str)) G := by
  show (if (eight.map D.str).length ≤ sizeLine then R.ok (D.lst (eight.map .str)) G else .no) = _
  exact if_pos (by rw [List.length_map]; exact Nat.le_of_lt (sz_lt' (by decide)))
noncomputable def F_nm0 : List D → GH → R D := defF ["_law_source_here", "_law_left", "_law_found"] (b__law_names F_draw)
noncomputable def F_nm : List D → GH → R D := fun ds G => fzR G (F_nm0 ds G)
theorem cut_hi {α : Type} (xs : List α) (j : Nat) : cutD xs none (some (j : Int)) = xs.take j := by
  unfold cutD
  have a : HT.sIx xs.length 0 none = 0 := rfl
  have b : HT.sIx xs.length xs.length (some (j : Int)) = min j xs.length := by
    unfold HT.sIx
    simp
    omega
  rw [a, b]
  by_cases c : j ≤ xs.length
  · rw [Nat.min_eq_left c]; simp
  · rw [Nat.min_eq_right (by omega)]
    simp
    rw [List.take_of_length_le (by omega)]
theorem res_cell {G : GH} {n : Nat} {xs : List D} (h : G[n]? = some (.lst xs)) : res G (.ref n) = .lst xs := by
  unfold res
  simp only [h]
theorem ne_empty {G : GH} {n : Nat} {xs : List Str} (h : G[n]? = some (.lst (xs.map .str))) (hs : ∀ x ∈ xs, PyData.strOk x = true) : dNe (.ref n) (.lst []) G = .ok (.bl (!xs.isEmpty)) G := by
  unfold dNe pyEq
  rw [res_cell h, res_lst]
  have e1 : (D.lst (xs.map .str)).py = some (.list (xs.map .str)) := by rw [D.py, pyAll_strs hs]
  have e2 : (D.lst ([] : List D)).py = some (.list []) := rfl
  rw [e1, e2]
  have d1 : (PyData.list (xs.map .str)).depth ≤ 64 := by rw [PyData.depth, depth_strs]; decide
  have d2 : (PyData.list []).depth ≤ 64 := by decide
  dsimp only
  rw [if_pos ⟨d1, d2⟩]
  cases xs with
  | nil => rfl
  | cons x r => rfl
theorem m_nm (w : Src) (n : Nat) (G : GH) (k : Int) (hg : G[n]? = some w.cell) (ok : w.ok k) (hk : k + 20 ≤ 1000000000) :
    ∃ (ns : List Str) (w' : Src), F_nm [.ref n] G = .ok (.lst (ns.map .str)) (G.set n w'.cell) ∧ ns.Nodup ∧ (∀ x ∈ ns, x ∈ eight) ∧ ns ≠ [] ∧ w'.ok (k + 9) := by
  have lt := lt_of_get hg
  have wp : (F_nm0 [.ref n] G).wp (fun d G' => ∃ (ns : List Str) (w' : Src), d = .ref (G.length + 1) ∧ ns.Nodup ∧ (∀ x ∈ ns, x ∈ eight) ∧ ns ≠ [] ∧ w'.ok (k + 9) ∧ G' = G.set n w'.cell ++ [.lst []] ++ [.lst (ns.map .str)]) noX := by
    unfold F_nm0 b__law_names
    generalize hE : eLst (aCons (eC (.str "a")) (aCons (eC (.str "b")) (aCons (eC (.str "c")) (aCons (eC (.str "dd")) (aCons (eC (.str "e")) (aCons (eC (.str "eightlet")) (aCons (eC (.str "x")) (aCons (eC (.str "z")) aNil)))))))) = lit
    have hE : lit = eightE := hE.symm
    subst hE
    and_intros
    obtain ⟨r, w1, e1, r0, r1, ok1⟩ := m_draw w 7 n G k hg (by omega) (by omega) ok (by omega)
    have er : (2 : Int) + r = ((2 + r.toNat : Nat) : Int) := by omega
    exists e1, er, cut_hi, eightE_ap
    have lt8 : (eight.take (2 + r.toNat)).length = 2 + r.toNat := by
      rw [List.length_take]
      show min _ 8 = _
      omega
    have em : List.take (2 + r.toNat) (List.map D.str eight) = (eight.take (2 + r.toNat)).map D.str := by rw [List.map_take]
    rw [em]
    refine wh_inv (fun m δ G2 => ∃ (left found : List Str) (w2 : Src), m = left.length ∧ (left ++ found).Perm (eight.take (2 + r.toNat)) ∧ w2.ok (k + 1 + found.length) ∧ δ = [some (.ref n), some (.ref G.length), some (.ref (G.length + 1))] ∧ G2 = G.set n w2.cell ++ [.lst (left.map .str)] ++ [.lst (found.map .str)]) (2 + r.toNat) 1000000
      ⟨eight.take (2 + r.toNat), [], w1, lt8.symm, by simp, by simpa using ok1, rfl, rfl⟩ (by omega) (fun m δ G2 ⟨left, found, w2, em, pm, ok2, e1, e2⟩ => ?_)
    subst e1 e2
    have inl : ∀ x ∈ left ++ found, x ∈ eight := fun x hx => List.mem_of_mem_take (pm.mem_iff.mp hx)
    have ll : left.length + found.length = 2 + r.toNat := by
      have := pm.length_eq
      rw [lt8] at this
      simpa using this
    have nz := ne_empty (gs2a G n w2.cell (.lst (left.map .str)) (.lst (found.map .str))) (fun x hx => (eight_ok x (inl x (by simp [hx]))).2)
    exists nz
    cases left with
    | nil =>
      have te : (!([] : List Str).isEmpty) = false := rfl
      exists te
      have nf : found.Nodup := (pm.nodup_iff.mpr (eight_nd.sublist (List.take_sublist ..)))
      refine ⟨found, w2, nf, fun x hx => inl x (by simp [hx]), fun e => ?_, ok2.mono (by simp at ll; omega), rfl⟩
      rw [e] at ll
      simp at ll
      omega
    | cons y ys =>
      generalize hL : y :: ys = left at *
      have te : (!left.isEmpty) = true := by rw [← hL]; rfl
      have lp : 0 < left.length := by rw [← hL]; simp
      have g2 := gs2a G n w2.cell (.lst (left.map .str)) (.lst (found.map .str))
      have g3 := gs2b G n w2.cell (.lst (left.map .str)) (.lst (found.map .str))
      obtain ⟨q, w3, e3, q0, q1, ok3⟩ := m_draw w2 left.length n _ (k + 1 + found.length) (gn2 w2.cell (.lst (left.map .str)) (.lst (found.map .str)) lt) (by omega) (by omega) ok2 (by omega)
      rw [sn2 _ _ _ _ lt] at e3
      have hj : q.toNat < left.length := by omega
      have g4 := gs2a G n w3.cell (.lst (left.map .str)) (.lst (found.map .str))
      have pp := mPopAt_ap (r := q) (j := q.toNat) g4 (by omega) (by simpa using hj) (by simp; omega)
      rw [ss2a] at pp
      have lz : (List.map D.str found).length < sizeLine := by rw [List.length_map]; exact sz_lt' (by omega)
      have g5 := gs2b G n w3.cell (.lst ((List.map D.str left).eraseIdx q.toNat)) (.lst (found.map .str))
      exists te, tyM_ref, g2, g3, dLen_ref _ _ g2, e3, List.length_map, pp, g5, lz
      have eg : (List.map D.str left)[q.toNat]'(by simpa using hj) = .str left[q.toNat] := by simp
      refine ⟨_, ?_, left.eraseIdx q.toNat, found ++ [left[q.toNat]], w3, rfl, ?_, ?_, ?_⟩
      · rw [em, List.length_eraseIdx_of_lt hj]; omega
      · have p1 := erase_perm left q.toNat hj
        have p2 : (left.eraseIdx q.toNat ++ (found ++ [left[q.toNat]])).Perm (left ++ found) := by
          refine (List.Perm.append_left _ (List.perm_append_comm (l₁ := found) (l₂ := [left[q.toNat]]))).trans ?_
          exact (List.perm_middle (l₁ := left.eraseIdx q.toNat) (a := left[q.toNat]) (l₂ := found)).trans (List.Perm.append_right found p1)
        exact p2.trans pm
      · refine ok3.mono ?_
        rw [List.length_append, List.length_singleton]
        omega
      · rw [ss2b, erase_map, eg, List.map_append]
        rfl
  obtain ⟨d, G', e, ns, w', rfl, nd, inE, ne, ok', rfl⟩ := R.wp_ex_iff.mp wp
  refine ⟨ns, w', ?_, nd, inE, ne, ok'⟩
  unfold F_nm
  rw [e, List.append_assoc]
  refine fz_src lt ?_
  show fzW (fzr _ G.length 4) (.ref (G.length + 1)) = _
  rw [fzW]
  refine fzr_lst (by omega) ?_ (pures0_map (fun a => pure0_str a) _)
  rw [← List.append_assoc]
  exact gs2b ..
end OA
end CF
end
section
set_option maxRecDepth 100000
set_option maxHeartbeats 4000000
namespace CF
namespace OA
open PySem PySem.Spec PyProof.Rows L2 
local macro_rules
  | `(tactic| exists $es,*) => `(tactic| simp (disch := first | assumption | omega | (simp only [List.length_set, List.length_append, List.length_cons, List.length_nil]; omega)) only [↓wp_ok, ↓wp_ex, ↓wp_bind, ↓wp_guard, ↓wp_nox, ↓sp_nx, ↓sp_rt, ↓sp_bk, ↓sp_ct, ↓sp_ex, ↓sp_seq, ↓sp_thn, ↓sp_guard,
      ↓w_eC, ↓w_eVar, ↓w_aNil, ↓w_aCons, ↓w_eTup, ↓w_eTupP, ↓w_eLst, ↓w_eLstM, ↓w_eOp, ↓w_eChain, ↓w_asB, ↓w_tAnd, ↓w_tOr, ↓w_tNot, ↓w_eTru, ↓w_eIf, ↓w_sNext, ↓w_sSeq, ↓w_sRet, ↓w_sRetN, ↓w_sIf, ↓w_sSet, ↓w_sDrop, ↓w_sBreak, ↓w_sCont, ↓w_gNm, ↓w_gsNil, ↓w_gsCons, ↓w_gTp, ↓w_sAsg, ↓w_eOne, ↓w_eUn, ↓w_eCB, ↓w_one, ↓w_eCall, ↓w_eAnd, ↓w_eOr, ↓w_eNot, ↓w_iSeq, ↓w_eLc, ↓w_mkF, ↓w_mkM, ↓w_tYes, ↓w_eMt, ↓w_eMt0, ↓w_iRg1, ↓w_sPut, ↓w_gPut, ↓w_sPar2, ↓w_sPar3, ↓w_sAugD, ↓w_eDict0, ↓w_mkKF, ↓w_mkKM, ↓w_eRev, ↓w_eGet2, ↓w_eLenSet2, ↓w_iEn, ↓w_iZp, ↓w_eCm, ↓w_cmDn, ↓w_cmDc, ↓w_emLd, ↓w_emKd, keyD_str, keyD_int, dKOf_dK, dKOf_ref, celL_ref, celD_ref, lstIts_lst, tupIts_tup, tupIts_pt, tupIts_lst, tupIts_scr, tupIts_ref, strsOf_map,
      wipeD_nil, wipeD_cons, List.cons_append, List.nil_append, List.append_nil, ap_setI, eSl_ap, eOpt_none, eOpt_some,
      List.getElem?_cons_zero, List.getElem?_cons_succ, List.set_cons_zero, List.set_cons_succ, List.length_cons, List.length_nil, List.length_set, Nat.zero_add, Nat.reduceAdd, Nat.reduceSub, Nat.add_one_sub_one, List.length_append,
      itsD_tup, itsD_pt, itsD_lst, itsD_scr, dIx_tup, dIx_pt, dIx_lst, dIx_scr, atI_0, atI_1, atI_2, dAdd_int, dAdd_tup, dAdd_pt, dAdd_lst, dAdd_str, dInt_int, dInt_bl, dStr_int, dStr_str, dIsi_ap, dLen_lst, dLen_tup, dLen_pt, dLen_scr, dIsN_non, dNotN_non, dNeg_ap, dIB_ap, dI_ap,
      dEq_int, dNe_int, truD_bl, truD_non, truD_int, dSl_tup, dSl_pt, dSl_lst, dSl_scr, dTupP_lst, decide_true, decide_false, if_true, if_false, Bool.false_eq_true, Bool.not_true, Bool.not_false, eq_self, true_and, and_true, sz_le, sz_lt, rngIts_items, rngIts_chk, beq_self_eq_true, R.bind_ok, R.nox_ok, tyM_ref, mAppend_ref, mExtend_ref, ge1, ge2a, ge2b, ge3a, ge3b, ge3c, ge3d, st1, st2a, st2b, st3a, st3b, st3c, st3d, tyN, Bool.and_self, Bool.and_true, Bool.true_and, Bool.and_false, Bool.false_and, Bool.or_true, Bool.true_or, Bool.or_false, Bool.false_or, Int.reduceLT, Int.reduceLE, Int.reduceGT, Int.reduceNeg, Int.reduceAdd, Int.reduceSub, Int.reduceBEq, Int.reduceBNe, Int.reduceEq, Int.reduceToNat, Nat.reduceEqDiff, Nat.reduceLeDiff, reduceCtorEq, Int.natCast_zero, Int.cast_ofNat_Int, Int.lt_irrefl, List.map_nil, decide_eq_true_eq,
      isi_NoneType_int, isi_NoneType_str, isi_NoneType_bool, isi_NoneType_tuple, isi_NoneType_list, isi_NoneType_dict, isi_bool_int, isi_bool_str, isi_bool_bool, isi_bool_tuple, isi_bool_list, isi_bool_dict, isi_int_int, isi_int_str, isi_int_bool, isi_int_tuple, isi_int_list, isi_int_dict, isi_str_int, isi_str_str, isi_str_bool, isi_str_tuple, isi_str_list, isi_str_dict, isi_tuple_int, isi_tuple_str, isi_tuple_bool, isi_tuple_tuple, isi_tuple_list, isi_tuple_dict, isi_list_int, isi_list_str, isi_list_bool, isi_list_tuple, isi_list_list, isi_list_dict, isi_dict_int, isi_dict_str, isi_dict_bool, isi_dict_tuple, isi_dict_list, isi_dict_dict, $[$es:term],*])
  | `(tactic| and_intros) => `(tactic| (rw [wp_def]; simp only [startD, List.map_cons, List.map_nil, List.length_cons, List.length_nil, Nat.zero_add, Nat.reduceAdd, Nat.reduceSub, List.replicate, List.cons_append, List.nil_append]))
/-! ### source, some -/
noncomputable def F_src : List D → GH → R D := defF ["_law_cell"] b__law_source
theorem m_src (z : Int) (G : GH) : ∃ w : Src, F_src [.int z] G = .ok (.ref G.length) (G ++ [w.cell]) ∧ w.ok 1 := by
  refine ⟨⟨z * (if 1000000000000000000 ≤ z then 1 else 0), z % 2147483647, 0⟩, ?_, Int.emod_nonneg _ (by decide), Int.emod_lt_of_pos _ (by decide), Int.le_refl _, (show (0 : Int) < 1 by decide)⟩
  have wp : (F_src [.int z] G).wp (fun d G' => d = .ref G.length ∧ G' = G ++ [.lst [.int (z * (if 1000000000000000000 ≤ z then 1 else 0)), .int (z % 2147483647), .int 0]]) noX := by
    unfold F_src b__law_source
    and_intros
    have p : dPow (.int 10) (.int 18) G = .ok (.int 1000000000000000000) G := rfl
    by_cases h : 1000000000000000000 ≤ z
    · have m : dMulI (.int z) (.int 1) G = .ok (.int z) G := by
        show (if decide (-(2 ^ 64) < z ∧ z < 2 ^ 64 ∨ -(2 ^ 64) < (1 : Int) ∧ (1 : Int) < 2 ^ 64) = true then R.ok (D.int (z * 1)) G else .no) = _
        rw [if_pos (decide_eq_true (.inr (by decide))), Int.mul_one]
      exists p, h, m, Int.mul_one
    · have m : dMulI (.int z) (.int 0) G = .ok (.int 0) G := by
        show (if decide (-(2 ^ 64) < z ∧ z < 2 ^ 64 ∨ -(2 ^ 64) < (0 : Int) ∧ (0 : Int) < 2 ^ 64) = true then R.ok (D.int (z * 0)) G else .no) = _
        rw [if_pos (decide_eq_true (.inr (by decide))), Int.mul_zero]
      exists p, h, m, Int.mul_zero
  obtain ⟨d, G', e, rfl, rfl⟩ := R.wp_ex_iff.mp wp
  exact e
noncomputable def F_some : List D → GH → R D := defF ["_law_source_here", "_law_names_here", "_law_share", "_law_name"] (b__law_some F_draw)
theorem m_some (w : Src) (n : Nat) (G : GH) (k : Int) (ns : List Str) (hg : G[n]? = some w.cell) (ok : w.ok k) (hk : k + 100 ≤ 1000000000) (hn : ns.length ≤ 8) :
    ∃ (ys : List Str) (w' : Src), F_some [.ref n, .lst (ns.map .str)] G = .ok (.ref G.length) (G.set n w'.cell ++ [.lst (ys.map .str)]) ∧ ys.Sublist ns ∧ w'.ok (k + 9) := by
  have lt := lt_of_get hg
  have wp : (F_some [.ref n, .lst (ns.map .str)] G).wp (fun d G' => ∃ (ys : List Str) (w' : Src), d = .ref G.length ∧ ys.Sublist ns ∧ w'.ok (k + 9) ∧ G' = G.set n w'.cell ++ [.lst (ys.map .str)]) noX := by
    unfold F_some b__law_some
    and_intros
    obtain ⟨r, w1, e1, r0, r1, ok1⟩ := m_draw w 4 n G k hg (by omega) (by omega) ok (by omega)
    exists e1
    refine lc_inv D.str ns (fun pre acc G' => ∃ (ys : List Str) (w2 : Src), acc = ys.map .str ∧ ys.Sublist pre ∧ w2.ok (k + 1 + pre.length) ∧ G' = G.set n w2.cell) ⟨[], w1, rfl, List.Sublist.refl _, by simpa using ok1, rfl⟩ (Nat.le_trans hn (by decide)) (fun pre x post acc G' e ⟨ys, w2, h1, h2, ok2, h4⟩ => ?_) fun acc G' ⟨ys, w2, h1, h2, ok2, h4⟩ => ?_
    · subst h1 h4
      have lp : ns.length = pre.length + (post.length + 1) := by rw [e]; simp
      obtain ⟨q, w3, e3, q0, q1, ok3⟩ := m_draw w2 4 n (G.set n w2.cell) (k + 1 + pre.length) (gn0 _ lt) (by omega) (by omega) ok2 (by omega)
      rw [List.set_set] at e3
      exists e3
      have ok4 : w3.ok (k + 1 + ((pre.length + 1 : Nat) : Int)) := ok3.mono (by omega)
      by_cases c : q < 1 + r
      · rw [if_pos c]
        exact ⟨ys ++ [x], w3, by simp, h2.append (List.Sublist.refl _), ok4, rfl⟩
      · rw [if_neg c]
        exact ⟨ys, w3, rfl, h2.trans (List.sublist_append_left ..), ok4, rfl⟩
    · subst h1 h4
      exists List.length_set
      exact ⟨ys, w2, h2, ok2.mono (by omega), rfl⟩
  obtain ⟨d, G', e, ys, w', rfl, h2, ok', rfl⟩ := R.wp_ex_iff.mp wp
  exact ⟨ys, w', e, h2, ok'⟩
/-- two neighbours change places -/
theorem swap_perm {α : Type} : ∀ (ys : List α) (i : Nat) (a b : α), ys[i]? = some a → ys[i + 1]? = some b → ((ys.set i b).set (i + 1) a).Perm ys
  | [], i, a, b, h, _ => by simp at h
  | [x], i, a, b, _, h => by simp at h
  | x :: y :: r, 0, a, b, h1, h2 => by
    simp at h1 h2
    subst h1 h2
    exact List.Perm.swap _ _ _
  | x :: y :: r, i + 1, a, b, h1, h2 => by
    have ih := swap_perm (y :: r) i a b (by simpa using h1) (by simpa using h2)
    exact ih.cons x
end OA
end CF
end
section
set_option maxRecDepth 100000
set_option maxHeartbeats 4000000
namespace CF
namespace OA
open PySem PySem.Spec PyProof.Rows L2 
local macro_rules
  | `(tactic| exists $es,*) => `(tactic| simp (disch := first | assumption | omega | (simp only [List.length_set, List.length_append, List.length_cons, List.length_nil]; omega)) only [↓wp_ok, ↓wp_ex, ↓wp_bind, ↓wp_guard, ↓wp_nox, ↓sp_nx, ↓sp_rt, ↓sp_bk, ↓sp_ct, ↓sp_ex, ↓sp_seq, ↓sp_thn, ↓sp_guard,
      ↓w_eC, ↓w_eVar, ↓w_aNil, ↓w_aCons, ↓w_eTup, ↓w_eTupP, ↓w_eLst, ↓w_eLstM, ↓w_eOp, ↓w_eChain, ↓w_asB, ↓w_tAnd, ↓w_tOr, ↓w_tNot, ↓w_eTru, ↓w_eIf, ↓w_sNext, ↓w_sSeq, ↓w_sRet, ↓w_sRetN, ↓w_sIf, ↓w_sSet, ↓w_sDrop, ↓w_sBreak, ↓w_sCont, ↓w_gNm, ↓w_gsNil, ↓w_gsCons, ↓w_gTp, ↓w_sAsg, ↓w_eOne, ↓w_eUn, ↓w_eCB, ↓w_one, ↓w_eCall, ↓w_eAnd, ↓w_eOr, ↓w_eNot, ↓w_iSeq, ↓w_eLc, ↓w_mkF, ↓w_mkM, ↓w_tYes, ↓w_eMt, ↓w_eMt0, ↓w_iRg1, ↓w_sPut, ↓w_gPut, ↓w_sPar2, ↓w_sPar3, ↓w_sAugD, ↓w_eDict0, ↓w_mkKF, ↓w_mkKM, ↓w_eRev, ↓w_eGet2, ↓w_eLenSet2, ↓w_iEn, ↓w_iZp, ↓w_eCm, ↓w_cmDn, ↓w_cmDc, ↓w_emLd, ↓w_emKd, keyD_str, keyD_int, dKOf_dK, dKOf_ref, celL_ref, celD_ref, lstIts_lst, tupIts_tup, tupIts_pt, tupIts_lst, tupIts_scr, tupIts_ref, strsOf_map,
      wipeD_nil, wipeD_cons, List.cons_append, List.nil_append, List.append_nil, ap_setI, eSl_ap, eOpt_none, eOpt_some,
      List.getElem?_cons_zero, List.getElem?_cons_succ, List.set_cons_zero, List.set_cons_succ, List.length_cons, List.length_nil, List.length_set, Nat.zero_add, Nat.reduceAdd, Nat.reduceSub, Nat.add_one_sub_one, List.length_append,
      itsD_tup, itsD_pt, itsD_lst, itsD_scr, dIx_tup, dIx_pt, dIx_lst, dIx_scr, atI_0, atI_1, atI_2, dAdd_int, dAdd_tup, dAdd_pt, dAdd_lst, dAdd_str, dInt_int, dInt_bl, dStr_int, dStr_str, dIsi_ap, dLen_lst, dLen_tup, dLen_pt, dLen_scr, dIsN_non, dNotN_non, dNeg_ap, dIB_ap, dI_ap,
      dEq_int, dNe_int, truD_bl, truD_non, truD_int, dSl_tup, dSl_pt, dSl_lst, dSl_scr, dTupP_lst, decide_true, decide_false, if_true, if_false, Bool.false_eq_true, Bool.not_true, Bool.not_false, eq_self, true_and, and_true, sz_le, sz_lt, rngIts_items, rngIts_chk, beq_self_eq_true, R.bind_ok, R.nox_ok, tyM_ref, mAppend_ref, mExtend_ref, ge1, ge2a, ge2b, ge3a, ge3b, ge3c, ge3d, st1, st2a, st2b, st3a, st3b, st3c, st3d, tyN, Bool.and_self, Bool.and_true, Bool.true_and, Bool.and_false, Bool.false_and, Bool.or_true, Bool.true_or, Bool.or_false, Bool.false_or, Int.reduceLT, Int.reduceLE, Int.reduceGT, Int.reduceNeg, Int.reduceAdd, Int.reduceSub, Int.reduceBEq, Int.reduceBNe, Int.reduceEq, Int.reduceToNat, Nat.reduceEqDiff, Nat.reduceLeDiff, reduceCtorEq, Int.natCast_zero, Int.cast_ofNat_Int, Int.lt_irrefl, List.map_nil, decide_eq_true_eq,
      isi_NoneType_int, isi_NoneType_str, isi_NoneType_bool, isi_NoneType_tuple, isi_NoneType_list, isi_NoneType_dict, isi_bool_int, isi_bool_str, isi_bool_bool, isi_bool_tuple, isi_bool_list, isi_bool_dict, isi_int_int, isi_int_str, isi_int_bool, isi_int_tuple, isi_int_list, isi_int_dict, isi_str_int, isi_str_str, isi_str_bool, isi_str_tuple, isi_str_list, isi_str_dict, isi_tuple_int, isi_tuple_str, isi_tuple_bool, isi_tuple_tuple, isi_tuple_list, isi_tuple_dict, isi_list_int, isi_list_str, isi_list_bool, isi_list_tuple, isi_list_list, isi_list_dict, isi_dict_int, isi_dict_str, isi_dict_bool, isi_dict_tuple, isi_dict_list, isi_dict_dict, $[$es:term],*])
  | `(tactic| and_intros) => `(tactic| (rw [wp_def]; simp only [startD, List.map_cons, List.map_nil, List.length_cons, List.length_nil, Nat.zero_add, Nat.reduceAdd, Nat.reduceSub, List.replicate, List.cons_append, List.nil_append]))
/-! ### orders -/
section
variable {G J : GH} {n : Nat} (w v a x c : Cell)
theorem hN (h : n < G.length) : (G.set n w ++ [a] ++ J)[n]? = some w := by rw [List.append_assoc, List.getElem?_append_left (by simpa using h)]; simp [h]
theorem hNs (h : n < G.length) : (G.set n w ++ [a] ++ J).set n v = G.set n v ++ [a] ++ J := by rw [List.append_assoc, List.set_append_left _ _ (by simpa using h), List.set_set, List.append_assoc]
theorem h0 : (G.set n w ++ [a] ++ J)[G.length]? = some a := by simp
theorem h0s : (G.set n w ++ [a] ++ J).set G.length x = G.set n w ++ [x] ++ J := by simp
theorem hJ (i : Nat) : (G.set n w ++ [a] ++ J)[G.length + 1 + i]? = J[i]? := by
  rw [List.getElem?_append_right (by simp)]
  congr 1
  simp
theorem hJs (i : Nat) : (G.set n w ++ [a] ++ J).set (G.length + 1 + i) x = G.set n w ++ [a] ++ J.set i x := by
  rw [List.set_append_right _ _ (by simp)]
  congr 2
  simp
theorem hL : (G.set n w ++ [a] ++ J).length = G.length + 1 + J.length := by simp; omega
end
/-- an order as it stands while it is made -/
def Made (J : GH) (o : Ord × Nat) : Prop := o.1.1 = true → J[o.2]? = some (.lst (o.1.2.map .str))
def itm (b : Nat) (o : Ord × Nat) : D := if o.1.1 = true then .ref (b + 1 + o.2) else .tup (o.1.2.map .str)
/-- names of the eight, no one twice -/
def Row (ys : List Str) : Prop := ys.Nodup ∧ ys.length ≤ 8 ∧ ∀ x ∈ ys, x ∈ eight
theorem Row.sub {ys zs : List Str} (h : Row zs) (s : ys.Sublist zs) : Row ys := ⟨h.1.sublist s, Nat.le_trans s.length_le h.2.1, fun x hx => h.2.2 x (s.subset hx)⟩
theorem Row.perm {ys zs : List Str} (h : Row zs) (s : ys.Perm zs) : Row ys := ⟨s.nodup_iff.mpr h.1, by rw [s.length_eq]; exact h.2.1, fun x hx => h.2.2 x (s.mem_iff.mp hx)⟩
theorem Row.ord {ys : List Str} (h : Row ys) (k : Bool) : OrdOk (k, ys) := ⟨h.1, Nat.le_trans h.2.1 (by decide), fun x hx => eight_ok x (h.2.2 x hx)⟩
theorem eight_len : eight.length = 8 := rfl
theorem row_of {ns : List Str} (nd : ns.Nodup) (h : ∀ x ∈ ns, x ∈ eight) : Row ns := ⟨nd, by have := nd_le nd h; rwa [eight_len] at this, h⟩
/-- the state in the body: the new row lies last but one -/
abbrev StO (G : GH) (n : Nat) (mst way : Int) (ns : List Str) (a : Cell) (k : Int) (J : GH) (i : Int) (δ : DEnv) (G2 : GH) : Prop :=
  ∃ (w : Src) (X : GH) (r : Nat) (ys : List Str) (q : Option D), w.ok k ∧ Row ys ∧ δ = [some (.ref n), some (.int mst), some (.lst (ns.map .str)), some (.int way), some (.ref G.length), some (.int i), some (.ref (G.length + 1 + J.length + r)), q] ∧ G2 = G.set n w.cell ++ [a] ++ (J ++ X) ∧ X[r]? = some (.lst (ys.map .str))
theorem ord_swap {G : GH} {n : Nat} (lt : n < G.length) {mst way : Int} {ns : List Str} {a : Cell} {k : Int} {J : GH} {i : Int} {δ : DEnv} {G2 : GH} (hk : k + 10 ≤ 1000000000) (h : StO G n mst way ns a k J i δ G2) :
    ((sIf (tAndD (asB (eOp dGt (eCB (one dLen) (aCons (eVar 6) aNil)) (eC (.int 1)))) (tOrD (tAndD (asB (eOp dEq (eVar 3) (eC (.int 1)))) (asB (eOp dEq (eVar 5) (eC (.int 1))))) (tAndD (asB (eOp dEq (eVar 3) (eC (.int 2)))) (asB (eOp dEq (eCall 2 F_draw [] (aCons (eVar 0) (aCons (eC (.int 4)) aNil))) (eC (.int 0))))))) (sSeq (sSet 7 (eCall 2 F_draw [] (aCons (eVar 0) (aCons (eOp dSub (eCB (one dLen) (aCons (eVar 6) aNil)) (eC (.int 1))) aNil)))) (sAsg (eTup (aCons (eOp dIx (eVar 6) (eOp (dAdd mkF) (eVar 7) (eC (.int 1)))) (aCons (eOp dIx (eVar 6) (eVar 7)) aNil))) (gTp 2 (gsCons (gPut (eVar 6) (eVar 7)) (gsCons (gPut (eVar 6) (eOp (dAdd mkF) (eVar 7) (eC (.int 1)))) gsNil))))) sNext) δ G2).wp (StO G n mst way ns a (k + 2) J i) fR fS fS fX := by
  obtain ⟨w, X, r, ys, q, ok, row, e1, e2, gr⟩ := h
  subst e1 e2
  have gr2 : (G.set n w.cell ++ [a] ++ (J ++ X))[G.length + 1 + J.length + r]? = some (.lst (ys.map .str)) := by
    rw [Nat.add_assoc, hJ, List.getElem?_append_right (by omega), Nat.add_sub_cancel_left]
    exact gr
  have stay : StO G n mst way ns a (k + 2) J i [some (.ref n), some (.int mst), some (.lst (ns.map .str)), some (.int way), some (.ref G.length), some (.int i), some (.ref (G.length + 1 + J.length + r)), q] (G.set n w.cell ++ [a] ++ (J ++ X)) := ⟨w, X, r, ys, q, ok.mono (by omega), row, rfl, rfl, gr⟩
  have dl := dLen_ref _ _ gr2
  exists dl, List.length_map
  by_cases hl : 1 < (ys.length : Int)
  · rw [if_pos hl]
    have cond : (tOrD (tAndD (asB (eOp dEq (eVar 3) (eC (D.int 1)))) (asB (eOp dEq (eVar 5) (eC (D.int 1))))) (tAndD (asB (eOp dEq (eVar 3) (eC (D.int 2)))) (asB (eOp dEq (eCall 2 F_draw [] (aCons (eVar 0) (aCons (eC (D.int 4)) aNil))) (eC (D.int 0)))))
        [some (.ref n), some (.int mst), some (.lst (ns.map .str)), some (.int way), some (.ref G.length), some (.int i), some (.ref (G.length + 1 + J.length + r)), q] (G.set n w.cell ++ [a] ++ (J ++ X))).wp (fun b G3 => ∃ w' : Src, w'.ok (k + 1) ∧ G3 = G.set n w'.cell ++ [a] ++ (J ++ X)) noX := by
      obtain ⟨d, w1, e1, d0, d1, ok1⟩ := m_draw w 4 n _ k (hN (J := J ++ X) w.cell a lt) (by omega) (by omega) ok (by omega)
      rw [hNs _ _ _ lt] at e1
      have done : ∃ w' : Src, w'.ok (k + 1) ∧ G.set n w.cell ++ [a] ++ (J ++ X) = G.set n w'.cell ++ [a] ++ (J ++ X) := ⟨w, ok.mono (by omega), rfl⟩
      have done1 : ∃ w' : Src, w'.ok (k + 1) ∧ G.set n w1.cell ++ [a] ++ (J ++ X) = G.set n w'.cell ++ [a] ++ (J ++ X) := ⟨w1, ok1, rfl⟩
      by_cases c1 : way = 1
      · subst c1
        by_cases c2 : i = 1
        · subst c2
          exists nilL
          exact done
        · have c2' : (i == 1) = false := by simpa using c2
          exists c2'
          exact done
      · have c1' : (way == 1) = false := by simpa using c1
        by_cases c3 : way = 2
        · subst c3
          exists c1', e1
          exact done1
        · have c3' : (way == 2) = false := by simpa using c3
          exists c1', c3'
          exact done
    refine R.use cond fun b G3 ⟨w1, ok1, e1⟩ => ?_
    subst e1
    cases b with
    | false =>
      rw [if_neg Bool.false_ne_true]
      exists nilL
      exact ⟨w1, X, r, ys, q, ok1.mono (by omega), row, rfl, rfl, gr⟩
    | true =>
      rw [if_pos rfl]
      have gr3 : (G.set n w1.cell ++ [a] ++ (J ++ X))[G.length + 1 + J.length + r]? = some (.lst (ys.map .str)) := by
        rw [Nat.add_assoc, hJ, List.getElem?_append_right (by omega), Nat.add_sub_cancel_left]
        exact gr
      have dl1 := dLen_ref _ _ gr3
      obtain ⟨d, w2, e2, d0, d1, ok2⟩ := m_draw w1 ((ys.length : Int) - 1) n _ (k + 1) (hN (J := J ++ X) w1.cell a lt) (by omega) (by have := row.2.1; omega) ok1 (by omega)
      rw [hNs _ _ _ lt] at e2
      have gr4 : (G.set n w2.cell ++ [a] ++ (J ++ X))[G.length + 1 + J.length + r]? = some (.lst (ys.map .str)) := by
        rw [Nat.add_assoc, hJ, List.getElem?_append_right (by omega), Nat.add_sub_cancel_left]
        exact gr
      obtain ⟨t, rfl⟩ : ∃ t : Nat, d = (t : Int) := ⟨d.toNat, by omega⟩
      have j0 : t < ys.length := by omega
      have j1 : t + 1 < ys.length := by omega
      have ed1 : (t : Int) + 1 = ((t + 1 : Nat) : Int) := by omega
      have x0 : dIx (.ref (G.length + 1 + J.length + r)) (.int (t : Int)) (G.set n w2.cell ++ [a] ++ (J ++ X)) = .ok (.str ys[t]) (G.set n w2.cell ++ [a] ++ (J ++ X)) := by
        rw [dIx_ref _ _ _ gr4, atI_nat2]
        simp [j0]
      have x1 : dIx (.ref (G.length + 1 + J.length + r)) (.int ((t : Int) + 1)) (G.set n w2.cell ++ [a] ++ (J ++ X)) = .ok (.str ys[t + 1]) (G.set n w2.cell ++ [a] ++ (J ++ X)) := by
        rw [dIx_ref _ _ _ gr4, ed1, atI_nat2]
        simp [j1]
      have ix : ∀ (m i : Nat), i < m → ixN m (i : Int) = some i := fun m i h => by
        unfold ixN
        rw [if_pos (by omega), if_pos (by omega)]
        simp
      have p0 := putO_list (z := (t : Int)) (j := t) (.str ys[t + 1]) gr4 (by exact ix _ _ (by simpa using j0))
      have sL : ∀ (X : GH) (c : Cell), (G.set n w2.cell ++ [a] ++ (J ++ X)).set (G.length + 1 + J.length + r) c = G.set n w2.cell ++ [a] ++ (J ++ X.set r c) := fun X c => by
        rw [Nat.add_assoc, hJs, List.set_append_right _ _ (by omega), Nat.add_sub_cancel_left]
      rw [sL] at p0
      have rl : r < X.length := (List.getElem?_eq_some_iff.mp gr).1
      have gr5 : (G.set n w2.cell ++ [a] ++ (J ++ X.set r (.lst ((ys.map D.str).set t (.str ys[t + 1])))))[G.length + 1 + J.length + r]? = some (.lst ((ys.map D.str).set t (.str ys[t + 1]))) := by
        rw [Nat.add_assoc, hJ, List.getElem?_append_right (by omega), Nat.add_sub_cancel_left]
        simp [rl]
      have p1 := putO_list (z := (t : Int) + 1) (j := t + 1) (.str ys[t]) gr5 (by rw [ed1]; exact ix _ _ (by simpa using j1))
      have e9 : ((ys.map D.str).set t (.str ys[t + 1])).set (t + 1) (.str ys[t]) = (((ys.set t ys[t + 1]).set (t + 1) ys[t])).map D.str := by rw [List.map_set, List.map_set]
      rw [sL, List.set_set, e9] at p1
      exists dl1, List.length_map, e2, x0, x1, p0, p1
      exact ⟨w2, _, r, (ys.set t ys[t + 1]).set (t + 1) ys[t], _, ok2.mono (by omega), row.perm (swap_perm ys t _ _ (by simp [j0]) (by simp [j1])), rfl, rfl, by simp [rl]⟩
  · rw [if_neg hl]
    exists nilL
    exact stay
end OA
end CF
end
section
set_option maxRecDepth 100000
set_option maxHeartbeats 4000000
namespace CF
namespace OA
open PySem PySem.Spec PyProof.Rows L2 
local macro_rules
  | `(tactic| exists $es,*) => `(tactic| simp (disch := first | assumption | omega | (simp only [List.length_set, List.length_append, List.length_cons, List.length_nil]; omega)) only [↓wp_ok, ↓wp_ex, ↓wp_bind, ↓wp_guard, ↓wp_nox, ↓sp_nx, ↓sp_rt, ↓sp_bk, ↓sp_ct, ↓sp_ex, ↓sp_seq, ↓sp_thn, ↓sp_guard,
      ↓w_eC, ↓w_eVar, ↓w_aNil, ↓w_aCons, ↓w_eTup, ↓w_eTupP, ↓w_eLst, ↓w_eLstM, ↓w_eOp, ↓w_eChain, ↓w_asB, ↓w_tAnd, ↓w_tOr, ↓w_tNot, ↓w_eTru, ↓w_eIf, ↓w_sNext, ↓w_sSeq, ↓w_sRet, ↓w_sRetN, ↓w_sIf, ↓w_sSet, ↓w_sDrop, ↓w_sBreak, ↓w_sCont, ↓w_gNm, ↓w_gsNil, ↓w_gsCons, ↓w_gTp, ↓w_sAsg, ↓w_eOne, ↓w_eUn, ↓w_eCB, ↓w_one, ↓w_eCall, ↓w_eAnd, ↓w_eOr, ↓w_eNot, ↓w_iSeq, ↓w_eLc, ↓w_mkF, ↓w_mkM, ↓w_tYes, ↓w_eMt, ↓w_eMt0, ↓w_iRg1, ↓w_sPut, ↓w_gPut, ↓w_sPar2, ↓w_sPar3, ↓w_sAugD, ↓w_eDict0, ↓w_mkKF, ↓w_mkKM, ↓w_eRev, ↓w_eGet2, ↓w_eLenSet2, ↓w_iEn, ↓w_iZp, ↓w_eCm, ↓w_cmDn, ↓w_cmDc, ↓w_emLd, ↓w_emKd, keyD_str, keyD_int, dKOf_dK, dKOf_ref, celL_ref, celD_ref, lstIts_lst, tupIts_tup, tupIts_pt, tupIts_lst, tupIts_scr, tupIts_ref, strsOf_map,
      wipeD_nil, wipeD_cons, List.cons_append, List.nil_append, List.append_nil, ap_setI, eSl_ap, eOpt_none, eOpt_some,
      List.getElem?_cons_zero, List.getElem?_cons_succ, List.set_cons_zero, List.set_cons_succ, List.length_cons, List.length_nil, List.length_set, Nat.zero_add, Nat.reduceAdd, Nat.reduceSub, Nat.add_one_sub_one, List.length_append,
      itsD_tup, itsD_pt, itsD_lst, itsD_scr, dIx_tup, dIx_pt, dIx_lst, dIx_scr, atI_0, atI_1, atI_2, dAdd_int, dAdd_tup, dAdd_pt, dAdd_lst, dAdd_str, dInt_int, dInt_bl, dStr_int, dStr_str, dIsi_ap, dLen_lst, dLen_tup, dLen_pt, dLen_scr, dIsN_non, dNotN_non, dNeg_ap, dIB_ap, dI_ap,
      dEq_int, dNe_int, truD_bl, truD_non, truD_int, dSl_tup, dSl_pt, dSl_lst, dSl_scr, dTupP_lst, decide_true, decide_false, if_true, if_false, Bool.false_eq_true, Bool.not_true, Bool.not_false, eq_self, true_and, and_true, sz_le, sz_lt, rngIts_items, rngIts_chk, beq_self_eq_true, R.bind_ok, R.nox_ok, tyM_ref, mAppend_ref, mExtend_ref, ge1, ge2a, ge2b, ge3a, ge3b, ge3c, ge3d, st1, st2a, st2b, st3a, st3b, st3c, st3d, tyN, Bool.and_self, Bool.and_true, Bool.true_and, Bool.and_false, Bool.false_and, Bool.or_true, Bool.true_or, Bool.or_false, Bool.false_or, Int.reduceLT, Int.reduceLE, Int.reduceGT, Int.reduceNeg, Int.reduceAdd, Int.reduceSub, Int.reduceBEq, Int.reduceBNe, Int.reduceEq, Int.reduceToNat, Nat.reduceEqDiff, Nat.reduceLeDiff, reduceCtorEq, Int.natCast_zero, Int.cast_ofNat_Int, Int.lt_irrefl, List.map_nil, decide_eq_true_eq,
      isi_NoneType_int, isi_NoneType_str, isi_NoneType_bool, isi_NoneType_tuple, isi_NoneType_list, isi_NoneType_dict, isi_bool_int, isi_bool_str, isi_bool_bool, isi_bool_tuple, isi_bool_list, isi_bool_dict, isi_int_int, isi_int_str, isi_int_bool, isi_int_tuple, isi_int_list, isi_int_dict, isi_str_int, isi_str_str, isi_str_bool, isi_str_tuple, isi_str_list, isi_str_dict, isi_tuple_int, isi_tuple_str, isi_tuple_bool, isi_tuple_tuple, isi_tuple_list, isi_tuple_dict, isi_list_int, isi_list_str, isi_list_bool, isi_list_tuple, isi_list_list, isi_list_dict, isi_dict_int, isi_dict_str, isi_dict_bool, isi_dict_tuple, isi_dict_list, isi_dict_dict, $[$es:term],*])
  | `(tactic| and_intros) => `(tactic| (rw [wp_def]; simp only [startD, List.map_cons, List.map_nil, List.length_cons, List.length_nil, Nat.zero_add, Nat.reduceAdd, Nat.reduceSub, List.replicate, List.cons_append, List.nil_append]))
theorem ord_three {G : GH} {n : Nat} (lt : n < G.length) {mst way : Int} {ns : List Str} {a : Cell} {k : Int} {J : GH} {i : Int} {δ : DEnv} {G2 : GH} (hk : k + 200 ≤ 1000000000) (h : StO G n mst way ns a k J i δ G2) :
    ((sIf (asB (eOp dEq (eVar 3) (eC (.int 3)))) (sSet 6 (eCall 2 F_some [] (aCons (eVar 0) (aCons (eCall 1 F_nm [] (aCons (eVar 0) aNil)) aNil)))) sNext) δ G2).wp (StO G n mst way ns a (k + 18) J i) fR fS fS fX := by
  obtain ⟨w, X, r, ys, q, ok, row, e1, e2, gr⟩ := h
  subst e1 e2
  by_cases c : way = 3
  · subst c
    obtain ⟨ms, w1, e1, nd, inE, ne, ok1⟩ := m_nm w n _ k (hN (J := J ++ X) w.cell a lt) ok (by omega)
    rw [hNs _ _ _ lt] at e1
    have rm := row_of nd inE
    obtain ⟨zs, w2, e2, sub, ok2⟩ := m_some w1 n _ (k + 9) ms (hN (J := J ++ X) w1.cell a lt) ok1 (by omega) rm.2.1
    rw [hNs _ _ _ lt, hL] at e2
    exists e1, e2
    exact ⟨w2, X ++ [.lst (zs.map .str)], X.length, zs, q, ok2.mono (by omega), rm.sub sub, by rw [Nat.add_assoc (G.length + 1)], by simp [List.append_assoc], by simp⟩
  · have c' : (way == 3) = false := by simpa using c
    exists c'
    exact ⟨w, X, r, ys, q, ok.mono (by omega), row, rfl, rfl, gr⟩
/-- the state at a turn's start -/
def StL (G : GH) (n : Nat) (mst way : Int) (ns : List Str) (k : Int) (m : Nat) (δ : DEnv) (G2 : GH) : Prop :=
  ∃ (w : Src) (es : List (Ord × Nat)) (J : GH), w.ok k ∧ es.length = m ∧ (∀ o ∈ es, Made J o ∧ Row o.1.2) ∧ (∃ a b c, δ = [some (.ref n), some (.int mst), some (.lst (ns.map .str)), some (.int way), some (.ref G.length), a, b, c]) ∧ G2 = G.set n w.cell ++ [.lst (es.map (itm G.length))] ++ J
theorem ord_last {G : GH} {n : Nat} (lt : n < G.length) {mst way : Int} {ns : List Str} {es : List (Ord × Nat)} {k : Int} {J : GH} {i : Int} {m : Nat} {δ : DEnv} {G2 : GH} (hk : k + 200 ≤ 1000000000) (hm : es.length = m) (hm2 : m ≤ 1000) (hes : ∀ o ∈ es, Made J o ∧ Row o.1.2)
    (h : StO G n mst way ns (.lst (es.map (itm G.length))) k J i δ G2) :
    ((sSeq (sIf (asB (eOp dEq (eCall 2 F_draw [] (aCons (eVar 0) (aCons (eC (.int 2)) aNil))) (eC (.int 0)))) (sSet 6 (eCB (one dTuple) (aCons (eVar 6) aNil))) sNext) (sDrop (eMt "list" mAppend (eVar 4) (aCons (eVar 6) aNil)))) δ G2).wp (StL G n mst way ns (k + 1) (m + 1)) fR fS fS fX := by
  obtain ⟨w, X, r, ys, q, ok, row, e1, e2, gr⟩ := h
  subst e1 e2
  obtain ⟨d, w1, e1, d0, d1, ok1⟩ := m_draw w 2 n _ k (hN (J := J ++ X) w.cell (.lst (es.map (itm G.length))) lt) (by omega) (by omega) ok (by omega)
  rw [hNs _ _ _ lt] at e1
  have gr3 : (G.set n w1.cell ++ [.lst (es.map (itm G.length))] ++ (J ++ X))[G.length + 1 + J.length + r]? = some (.lst (ys.map .str)) := by
    rw [Nat.add_assoc, hJ, List.getElem?_append_right (by omega), Nat.add_sub_cancel_left]
    exact gr
  have g0 := h0 (G := G) (n := n) (J := J ++ X) w1.cell (.lst (es.map (itm G.length)))
  have lz : (es.map (itm G.length)).length < sizeLine := by rw [List.length_map]; exact sz_lt' (by omega)
  have old : ∀ o ∈ es, Made (J ++ X) o ∧ Row o.1.2 := fun o ho => ⟨fun k => by
    have := (hes o ho).1 k
    rw [List.getElem?_append_left (List.getElem?_eq_some_iff.mp this).1]
    exact this, (hes o ho).2⟩
  by_cases c : d = 0
  · subst c
    have dt : dTuple (.ref (G.length + 1 + J.length + r)) (G.set n w1.cell ++ [.lst (es.map (itm G.length))] ++ (J ++ X)) = .ok (.tup (ys.map .str)) (G.set n w1.cell ++ [.lst (es.map (itm G.length))] ++ (J ++ X)) := by
      show (match lstOf _ (.ref (G.length + 1 + J.length + r)) with | some xs => R.ok (D.tup xs) _ | none => .no) = _
      rw [lstOf_ref, gr3]
    exists e1, dt, tyM_ref, g0, mAppend_ap g0 lz, h0s
    refine ⟨w1, es ++ [((false, ys), 0)], J ++ X, ok1, by simp [hm], fun o ho => ?_, ⟨_, _, _, rfl⟩, ?_⟩
    · rcases List.mem_append.mp ho with k | k
      · exact old o k
      · simp at k
        subst k
        exact ⟨fun (k : false = true) => (nomatch k), row⟩
    · rw [List.map_append]
      rfl
  · have c' : (d == 0) = false := by simpa using c
    exists e1, c', tyM_ref, g0, mAppend_ap g0 lz, h0s
    refine ⟨w1, es ++ [((true, ys), J.length + r)], J ++ X, ok1, by simp [hm], fun o ho => ?_, ⟨_, _, _, rfl⟩, ?_⟩
    · rcases List.mem_append.mp ho with k | k
      · exact old o k
      · simp at k
        subst k
        refine ⟨fun k => ?_, row⟩
        show (J ++ X)[J.length + r]? = _
        rw [List.getElem?_append_right (by omega), Nat.add_sub_cancel_left]
        exact gr
    · rw [List.map_append]
      show _ = G.set n w1.cell ++ [.lst (es.map (itm G.length) ++ [.ref (G.length + 1 + (J.length + r))])] ++ (J ++ X)
      rw [Nat.add_assoc (G.length + 1)]
end OA
end CF
end
section
set_option maxRecDepth 100000
set_option maxHeartbeats 4000000
namespace CF
namespace OA
open PySem PySem.Spec PyProof.Rows L2 
local macro_rules
  | `(tactic| exists $es,*) => `(tactic| simp (disch := first | assumption | omega | (simp only [List.length_set, List.length_append, List.length_cons, List.length_nil]; omega)) only [↓wp_ok, ↓wp_ex, ↓wp_bind, ↓wp_guard, ↓wp_nox, ↓sp_nx, ↓sp_rt, ↓sp_bk, ↓sp_ct, ↓sp_ex, ↓sp_seq, ↓sp_thn, ↓sp_guard,
      ↓w_eC, ↓w_eVar, ↓w_aNil, ↓w_aCons, ↓w_eTup, ↓w_eTupP, ↓w_eLst, ↓w_eLstM, ↓w_eOp, ↓w_eChain, ↓w_asB, ↓w_tAnd, ↓w_tOr, ↓w_tNot, ↓w_eTru, ↓w_eIf, ↓w_sNext, ↓w_sSeq, ↓w_sRet, ↓w_sRetN, ↓w_sIf, ↓w_sSet, ↓w_sDrop, ↓w_sBreak, ↓w_sCont, ↓w_gNm, ↓w_gsNil, ↓w_gsCons, ↓w_gTp, ↓w_sAsg, ↓w_eOne, ↓w_eUn, ↓w_eCB, ↓w_one, ↓w_eCall, ↓w_eAnd, ↓w_eOr, ↓w_eNot, ↓w_iSeq, ↓w_eLc, ↓w_mkF, ↓w_mkM, ↓w_tYes, ↓w_eMt, ↓w_eMt0, ↓w_iRg1, ↓w_sPut, ↓w_gPut, ↓w_sPar2, ↓w_sPar3, ↓w_sAugD, ↓w_eDict0, ↓w_mkKF, ↓w_mkKM, ↓w_eRev, ↓w_eGet2, ↓w_eLenSet2, ↓w_iEn, ↓w_iZp, ↓w_eCm, ↓w_cmDn, ↓w_cmDc, ↓w_emLd, ↓w_emKd, keyD_str, keyD_int, dKOf_dK, dKOf_ref, celL_ref, celD_ref, lstIts_lst, tupIts_tup, tupIts_pt, tupIts_lst, tupIts_scr, tupIts_ref, strsOf_map,
      wipeD_nil, wipeD_cons, List.cons_append, List.nil_append, List.append_nil, ap_setI, eSl_ap, eOpt_none, eOpt_some,
      List.getElem?_cons_zero, List.getElem?_cons_succ, List.set_cons_zero, List.set_cons_succ, List.length_cons, List.length_nil, List.length_set, Nat.zero_add, Nat.reduceAdd, Nat.reduceSub, Nat.add_one_sub_one, List.length_append,
      itsD_tup, itsD_pt, itsD_lst, itsD_scr, dIx_tup, dIx_pt, dIx_lst, dIx_scr, atI_0, atI_1, atI_2, dAdd_int, dAdd_tup, dAdd_pt, dAdd_lst, dAdd_str, dInt_int, dInt_bl, dStr_int, dStr_str, dIsi_ap, dLen_lst, dLen_tup, dLen_pt, dLen_scr, dIsN_non, dNotN_non, dNeg_ap, dIB_ap, dI_ap,
      dEq_int, dNe_int, truD_bl, truD_non, truD_int, dSl_tup, dSl_pt, dSl_lst, dSl_scr, dTupP_lst, decide_true, decide_false, if_true, if_false, Bool.false_eq_true, Bool.not_true, Bool.not_false, eq_self, true_and, and_true, sz_le, sz_lt, rngIts_items, rngIts_chk, beq_self_eq_true, R.bind_ok, R.nox_ok, tyM_ref, mAppend_ref, mExtend_ref, ge1, ge2a, ge2b, ge3a, ge3b, ge3c, ge3d, st1, st2a, st2b, st3a, st3b, st3c, st3d, tyN, Bool.and_self, Bool.and_true, Bool.true_and, Bool.and_false, Bool.false_and, Bool.or_true, Bool.true_or, Bool.or_false, Bool.false_or, Int.reduceLT, Int.reduceLE, Int.reduceGT, Int.reduceNeg, Int.reduceAdd, Int.reduceSub, Int.reduceBEq, Int.reduceBNe, Int.reduceEq, Int.reduceToNat, Nat.reduceEqDiff, Nat.reduceLeDiff, reduceCtorEq, Int.natCast_zero, Int.cast_ofNat_Int, Int.lt_irrefl, List.map_nil, decide_eq_true_eq,
      isi_NoneType_int, isi_NoneType_str, isi_NoneType_bool, isi_NoneType_tuple, isi_NoneType_list, isi_NoneType_dict, isi_bool_int, isi_bool_str, isi_bool_bool, isi_bool_tuple, isi_bool_list, isi_bool_dict, isi_int_int, isi_int_str, isi_int_bool, isi_int_tuple, isi_int_list, isi_int_dict, isi_str_int, isi_str_str, isi_str_bool, isi_str_tuple, isi_str_list, isi_str_dict, isi_tuple_int, isi_tuple_str, isi_tuple_bool, isi_tuple_tuple, isi_tuple_list, isi_tuple_dict, isi_list_int, isi_list_str, isi_list_bool, isi_list_tuple, isi_list_list, isi_list_dict, isi_dict_int, isi_dict_str, isi_dict_bool, isi_dict_tuple, isi_dict_list, isi_dict_dict, $[$es:term],*])
  | `(tactic| and_intros) => `(tactic| (rw [wp_def]; simp only [startD, List.map_cons, List.map_nil, List.length_cons, List.length_nil, Nat.zero_add, Nat.reduceAdd, Nat.reduceSub, List.replicate, List.cons_append, List.nil_append]))
theorem RS.use {r : RS} {nx nx' : SP} {rt : D → GH → Prop} {bk ct : SP} {ex : Ex → DEnv → GH → Prop} (h : r.wp nx fR fS fS fX) (i : ∀ δ G, nx δ G → nx' δ G) : r.wp nx' rt bk ct ex :=
  RS.wp_mono h i (fun _ _ z => z.elim) (fun _ _ z => z.elim) (fun _ _ z => z.elim) fun _ _ _ z => z.elim
abbrev N_ord : List Str := ["_law_source_here", "_law_most", "_law_names_here", "_law_way", "_law_found", "_law_k", "_law_some_here", "_law_at"]
noncomputable def F_ord0 : List D → GH → R D := defF N_ord (b__law_orders F_nm F_draw F_some)
noncomputable def F_ord : List D → GH → R D := fun ds G => fzR G (F_ord0 ds G)
theorem made_fz {G J : GH} {w : Cell} {n : Nat} {a : Cell} : ∀ {es : List (Ord × Nat)}, (∀ o ∈ es, Made J o ∧ Row o.1.2) → fzWs (fzr (G.set n w ++ [a] ++ J) G.length 3) (es.map (itm G.length)) = some (es.map fun o => encO o.1)
  | [], _ => rfl
  | o :: es, h => by
    rw [List.map_cons, fzWs, made_fz fun p hp => h p (List.mem_cons_of_mem _ hp)]
    have e : fzW (fzr (G.set n w ++ [a] ++ J) G.length 3) (itm G.length o) = some (encO o.1) := by
      obtain ⟨⟨k, xs⟩, r⟩ := o
      cases k with
      | true =>
        have g := (h _ (List.mem_cons_self ..)).1 rfl
        show fzW _ (.ref (G.length + 1 + r)) = some (.lst (xs.map .str))
        rw [fzW]
        exact fzr_lst (by omega) (by rw [hJ]; exact g) (pures0_map (fun a => pure0_str a) _)
      | false =>
        show fzW _ (.tup (xs.map .str)) = some (.tup (xs.map .str))
        exact pure0_tup (pures0_map (fun a => pure0_str a) _) _
    rw [e]
    rfl
theorem m_ord (w : Src) (n : Nat) (G : GH) (k : Int) (mst : Nat) (hg : G[n]? = some w.cell) (ok : w.ok k) (hk : k + 2000 ≤ 1000000000) (hm : mst ≤ 7) :
    ∃ (os : List Ord) (w' : Src), F_ord [.ref n, .int mst] G = .ok (.lst (os.map encO)) (G.set n w'.cell) ∧ OrdsOk os ∧ os.length ≤ mst ∧ (∀ o ∈ os, Row o.2) ∧ w'.ok (k + 400) := by
  have lt := lt_of_get hg
  have wp : (F_ord0 [.ref n, .int mst] G).wp (fun d G' => ∃ (w' : Src) (es : List (Ord × Nat)) (J : GH), w'.ok (k + 400) ∧ es.length ≤ mst ∧ (∀ o ∈ es, Made J o ∧ Row o.1.2) ∧ d = .ref G.length ∧ G' = G.set n w'.cell ++ [.lst (es.map (itm G.length))] ++ J) noX := by
    unfold F_ord0 b__law_orders
    generalize hB : sSeq (sSet 6 (eCall 2 F_some [] (aCons (eVar 0) (aCons (eVar 2) aNil)))) (sSeq (sIf (tAndD (asB (eOp dGt (eCB (one dLen) (aCons (eVar 6) aNil)) (eC (.int 1)))) (tOrD (tAndD (asB (eOp dEq (eVar 3) (eC (.int 1)))) (asB (eOp dEq (eVar 5) (eC (.int 1))))) (tAndD (asB (eOp dEq (eVar 3) (eC (.int 2)))) (asB (eOp dEq (eCall 2 F_draw [] (aCons (eVar 0) (aCons (eC (.int 4)) aNil))) (eC (.int 0))))))) (sSeq (sSet 7 (eCall 2 F_draw [] (aCons (eVar 0) (aCons (eOp dSub (eCB (one dLen) (aCons (eVar 6) aNil)) (eC (.int 1))) aNil)))) (sAsg (eTup (aCons (eOp dIx (eVar 6) (eOp (dAdd mkF) (eVar 7) (eC (.int 1)))) (aCons (eOp dIx (eVar 6) (eVar 7)) aNil))) (gTp 2 (gsCons (gPut (eVar 6) (eVar 7)) (gsCons (gPut (eVar 6) (eOp (dAdd mkF) (eVar 7) (eC (.int 1)))) gsNil))))) sNext) (sSeq (sIf (asB (eOp dEq (eVar 3) (eC (.int 3)))) (sSet 6 (eCall 2 F_some [] (aCons (eVar 0) (aCons (eCall 1 F_nm [] (aCons (eVar 0) aNil)) aNil)))) sNext) (sSeq (sIf (asB (eOp dEq (eCall 2 F_draw [] (aCons (eVar 0) (aCons (eC (.int 2)) aNil))) (eC (.int 0)))) (sSet 6 (eCB (one dTuple) (aCons (eVar 6) aNil))) sNext) (sDrop (eMt "list" mAppend (eVar 4) (aCons (eVar 6) aNil)))))) = B
    and_intros
    obtain ⟨ns, w1, e1, nd, inE, ne, ok1⟩ := m_nm w n G k hg ok (by omega)
    have rn := row_of nd inE
    obtain ⟨way, w2, e2, d0, d1, ok2⟩ := m_draw w1 4 n (G.set n w1.cell) (k + 9) (gn0 _ lt) (by omega) (by omega) ok1 (by omega)
    rw [List.set_set] at e2
    obtain ⟨t, w3, e3, t0, t1, ok3⟩ := m_draw w2 ((mst : Int) + 1) n (G.set n w2.cell ++ [.lst []]) (k + 9 + 1) (gn1 _ _ lt) (by omega) (by omega) ok2 (by omega)
    rw [sn1 _ _ _ lt] at e3
    obtain ⟨c, rfl⟩ : ∃ c : Nat, t = (c : Int) := ⟨t.toNat, by omega⟩
    have rk : ∀ G, rng1K [.int (c : Int)] G = .ok (rngIts 0 c) G := fun G => rng1K_nat (by omega)
    exists e1, e2
    rw [w_sFor, sp_thn, w_iRg1, wp_bind]
    have ea : aCons (eCall 2 F_draw [] (aCons (eVar 0) (aCons (eOp (dAdd mkF) (eVar 1) (eC (.int 1))) aNil))) aNil [some (.ref n), some (.int mst), some (.lst (ns.map .str)), some (.int way), some (.ref G.length), none, none, none] (G.set n w2.cell ++ [.lst []]) = .ok [.int (c : Int)] (G.set n w3.cell ++ [.lst []]) := by
      simp [e3]
    rw [ea, wp_ok, rk, wp_ok, if_pos (show (rngIts 0 c).chk (G.set n w3.cell ++ [.lst []]) = true from rfl), rngIts_items]
    refine for_inv (fun i : Nat => D.int (0 + (i : Nat))) (List.range c) (fun pre δ G2 => StL G n mst way ns (k + 11 + 40 * (pre.length : Int)) pre.length δ G2) ⟨w3, [], [], ok3.mono (by simp; omega), rfl, (fun o h => nomatch h), ⟨_, _, _, rfl⟩, by simp⟩ (fun pre i post δ G2 e ⟨w4, es, J, ok4, le, hes, ⟨p, q, r, e5⟩, e6⟩ => ?_) fun δ G2 ⟨w4, es, J, ok4, le, hes, ⟨p, q, r, e5⟩, e6⟩ => ?_
    · subst e5 e6
      have lp : c = pre.length + (post.length + 1) := by have := congrArg List.length e; simpa using this
      obtain ⟨ys, w5, e7, sub, ok5⟩ := m_some w4 n (G.set n w4.cell ++ [.lst (es.map (itm G.length))] ++ J) (k + 11 + 40 * (pre.length : Int)) ns (hN w4.cell _ lt) ok4 (by omega) rn.2.1
      rw [hNs _ _ _ lt, hL] at e7
      rw [w_gNm, sp_nx, ← hB, w_sSeq, sp_seq]
      have s0 : ((sSet 6 (eCall 2 F_some [] (aCons (eVar 0) (aCons (eVar 2) aNil)))) ([some (.ref n), some (.int mst), some (.lst (ns.map .str)), some (.int way), some (.ref G.length), p, q, r].set 5 (some (.int (0 + (i : Nat))))) (G.set n w4.cell ++ [.lst (es.map (itm G.length))] ++ J)).wp (StO G n mst way ns (.lst (es.map (itm G.length))) (k + 11 + 40 * (pre.length : Int) + 9) J (0 + (i : Nat))) fR fS fS fX := by
        exists e7
        exact ⟨w5, [.lst (ys.map .str)], 0, ys, _, ok5, rn.sub sub, rfl, by simp [List.append_assoc], rfl⟩
      refine RS.use s0 fun δ1 G1 h1 => ?_
      rw [w_sSeq, sp_seq]
      refine RS.use (ord_swap lt (by omega) h1) fun δ2 G2 h2 => ?_
      rw [w_sSeq, sp_seq]
      refine RS.use (ord_three lt (by omega) h2) fun δ3 G3 h3 => ?_
      refine RS.use (ord_last lt (by omega) le (by omega) hes h3) fun δ4 G4 ⟨w6, es6, J6, ok6, le6, hes6, hδ, e8⟩ => ?_
      refine ⟨rfl, w6, es6, J6, ok6.mono ?_, by rw [le6]; simp, hes6, hδ, e8⟩
      rw [List.length_append, List.length_singleton]
      omega
    · subst e5 e6
      exists nilL
      rw [List.length_range] at ok4 le
      exact ⟨w4, es, J, ok4.mono (by omega), by omega, hes, rfl⟩
  obtain ⟨d, G', e, w', es, J, ok', le, hes, rfl, rfl⟩ := R.wp_ex_iff.mp wp
  refine ⟨es.map (·.1), w', ?_, ⟨by rw [List.length_map]; omega, fun o ho => ?_⟩, by rw [List.length_map]; exact le, fun o ho => ?_, ok'⟩
  · unfold F_ord
    rw [e, List.append_assoc]
    refine fz_src lt ?_
    show fzW (fzr _ G.length 4) (.ref G.length) = _
    rw [fzW, fzr, if_neg (by omega), ← List.append_assoc, h0]
    dsimp only
    rw [made_fz hes, List.map_map]
    rfl
  · obtain ⟨p, hp, rfl⟩ := List.mem_map.mp ho
    exact (hes p hp).2.ord _
  · obtain ⟨p, hp, rfl⟩ := List.mem_map.mp ho
    exact (hes p hp).2
end OA
end CF
end
section
set_option maxRecDepth 100000
set_option maxHeartbeats 4000000
namespace CF
namespace OA
open PySem PySem.Spec PyProof.Rows L2 
local macro_rules
  | `(tactic| exists $es,*) => `(tactic| simp (disch := first | assumption | omega | (simp only [List.length_set, List.length_append, List.length_cons, List.length_nil]; omega)) only [↓wp_ok, ↓wp_ex, ↓wp_bind, ↓wp_guard, ↓wp_nox, ↓sp_nx, ↓sp_rt, ↓sp_bk, ↓sp_ct, ↓sp_ex, ↓sp_seq, ↓sp_thn, ↓sp_guard,
      ↓w_eC, ↓w_eVar, ↓w_aNil, ↓w_aCons, ↓w_eTup, ↓w_eTupP, ↓w_eLst, ↓w_eLstM, ↓w_eOp, ↓w_eChain, ↓w_asB, ↓w_tAnd, ↓w_tOr, ↓w_tNot, ↓w_eTru, ↓w_eIf, ↓w_sNext, ↓w_sSeq, ↓w_sRet, ↓w_sRetN, ↓w_sIf, ↓w_sSet, ↓w_sDrop, ↓w_sBreak, ↓w_sCont, ↓w_gNm, ↓w_gsNil, ↓w_gsCons, ↓w_gTp, ↓w_sAsg, ↓w_eOne, ↓w_eUn, ↓w_eCB, ↓w_one, ↓w_eCall, ↓w_eAnd, ↓w_eOr, ↓w_eNot, ↓w_iSeq, ↓w_eLc, ↓w_mkF, ↓w_mkM, ↓w_tYes, ↓w_eMt, ↓w_eMt0, ↓w_iRg1, ↓w_sPut, ↓w_gPut, ↓w_sPar2, ↓w_sPar3, ↓w_sAugD, ↓w_eDict0, ↓w_mkKF, ↓w_mkKM, ↓w_eRev, ↓w_eGet2, ↓w_eLenSet2, ↓w_iEn, ↓w_iZp, ↓w_eCm, ↓w_cmDn, ↓w_cmDc, ↓w_emLd, ↓w_emKd, keyD_str, keyD_int, dKOf_dK, dKOf_ref, celL_ref, celD_ref, lstIts_lst, tupIts_tup, tupIts_pt, tupIts_lst, tupIts_scr, tupIts_ref, strsOf_map,
      wipeD_nil, wipeD_cons, List.cons_append, List.nil_append, List.append_nil, ap_setI, eSl_ap, eOpt_none, eOpt_some,
      List.getElem?_cons_zero, List.getElem?_cons_succ, List.set_cons_zero, List.set_cons_succ, List.length_cons, List.length_nil, List.length_set, Nat.zero_add, Nat.reduceAdd, Nat.reduceSub, Nat.add_one_sub_one, List.length_append,
      itsD_tup, itsD_pt, itsD_lst, itsD_scr, dIx_tup, dIx_pt, dIx_lst, dIx_scr, atI_0, atI_1, atI_2, dAdd_int, dAdd_tup, dAdd_pt, dAdd_lst, dAdd_str, dInt_int, dInt_bl, dStr_int, dStr_str, dIsi_ap, dLen_lst, dLen_tup, dLen_pt, dLen_scr, dIsN_non, dNotN_non, dNeg_ap, dIB_ap, dI_ap,
      dEq_int, dNe_int, truD_bl, truD_non, truD_int, dSl_tup, dSl_pt, dSl_lst, dSl_scr, dTupP_lst, decide_true, decide_false, if_true, if_false, Bool.false_eq_true, Bool.not_true, Bool.not_false, eq_self, true_and, and_true, sz_le, sz_lt, rngIts_items, rngIts_chk, beq_self_eq_true, R.bind_ok, R.nox_ok, tyM_ref, mAppend_ref, mExtend_ref, ge1, ge2a, ge2b, ge3a, ge3b, ge3c, ge3d, st1, st2a, st2b, st3a, st3b, st3c, st3d, tyN, Bool.and_self, Bool.and_true, Bool.true_and, Bool.and_false, Bool.false_and, Bool.or_true, Bool.true_or, Bool.or_false, Bool.false_or, Int.reduceLT, Int.reduceLE, Int.reduceGT, Int.reduceNeg, Int.reduceAdd, Int.reduceSub, Int.reduceBEq, Int.reduceBNe, Int.reduceEq, Int.reduceToNat, Nat.reduceEqDiff, Nat.reduceLeDiff, reduceCtorEq, Int.natCast_zero, Int.cast_ofNat_Int, Int.lt_irrefl, List.map_nil, decide_eq_true_eq,
      isi_NoneType_int, isi_NoneType_str, isi_NoneType_bool, isi_NoneType_tuple, isi_NoneType_list, isi_NoneType_dict, isi_bool_int, isi_bool_str, isi_bool_bool, isi_bool_tuple, isi_bool_list, isi_bool_dict, isi_int_int, isi_int_str, isi_int_bool, isi_int_tuple, isi_int_list, isi_int_dict, isi_str_int, isi_str_str, isi_str_bool, isi_str_tuple, isi_str_list, isi_str_dict, isi_tuple_int, isi_tuple_str, isi_tuple_bool, isi_tuple_tuple, isi_tuple_list, isi_tuple_dict, isi_list_int, isi_list_str, isi_list_bool, isi_list_tuple, isi_list_list, isi_list_dict, isi_dict_int, isi_dict_str, isi_dict_bool, isi_dict_tuple, isi_dict_list, isi_dict_dict, $[$es:term],*])
  | `(tactic| and_intros) => `(tactic| (rw [wp_def]; simp only [startD, List.map_cons, List.map_nil, List.length_cons, List.length_nil, Nat.zero_add, Nat.reduceAdd, Nat.reduceSub, List.replicate, List.cons_append, List.nil_append]))
/-! ### forerunners -/
def befO (xs : List Str) (x : Str) : List Str := match posS x xs with
  | some j => xs.take j
  | none => []
def ahO (os : List Ord) (x : Str) : List Str := os.flatMap fun o => befO o.2 x
abbrev kA (ns : List Str) (f : Str → List Str) : List (Key × D) := ns.map fun x => ((Sum.inr x : Key), D.lst ((f x).map .str))
theorem posS_at {x : Str} : ∀ {pp po : List Str}, x ∉ pp → posS x (pp ++ x :: po) = some pp.length
  | [], po, _ => by rw [List.nil_append, posS, if_pos rfl]; rfl
  | y :: pp, po, h => by
    have h1 : ¬ y = x := fun e => h (by rw [e]; exact List.mem_cons_self ..)
    rw [List.cons_append, posS, if_neg h1, posS_at fun k => h (List.mem_cons_of_mem _ k)]
    rfl
theorem posS_no {x : Str} : ∀ {xs : List Str}, x ∉ xs → posS x xs = none
  | [], _ => rfl
  | y :: r, h => by
    have h1 : ¬ y = x := fun e => h (by rw [e]; exact List.mem_cons_self ..)
    rw [posS, if_neg h1, posS_no fun k => h (List.mem_cons_of_mem _ k)]
    rfl
theorem bef_len (xs : List Str) (x : Str) : (befO xs x).length ≤ xs.length := by
  unfold befO
  split
  · rw [List.length_take]; omega
  · simp
theorem ah_len {os : List Ord} (h : ∀ o ∈ os, o.2.length ≤ 40) (x : Str) : (ahO os x).length ≤ 40 * os.length := by
  induction os with
  | nil => simp [ahO]
  | cons o r ih =>
    have := ih fun q hq => h q (List.mem_cons_of_mem _ hq)
    have h1 := h o (List.mem_cons_self ..)
    have h2 := bef_len o.2 x
    unfold ahO at this ⊢
    rw [List.flatMap_cons, List.length_append, List.length_cons]
    omega
/-- while the items pp of the order xs are done -/
def ahP (os : List Ord) (xs pp : List Str) (x : Str) : List Str := ahO os x ++ if x ∈ pp then befO xs x else []
theorem get_kA {G : GH} {n : Nat} {ns : List Str} {f : Str → List Str} (hg : G[n]? = some (.dK (kA ns f))) (x : Str) : dGetO G (.ref n) (.str x) = some (if x ∈ ns then some (.lst ((f x).map .str)) else none) := by
  unfold dGetO
  rw [dKOf_ref, hg, keyD_str]
  dsimp only
  by_cases c : x ∈ ns
  · rw [lookK_map ns (fun y => .lst ((f y).map .str)) c, if_pos c]
  · rw [lookK_none ns (fun y => .lst ((f y).map .str)) c, if_neg c]
theorem put_kA {G : GH} {n : Nat} {ns : List Str} {f : Str → List Str} (hg : G[n]? = some (.dK (kA ns f))) (x : Str) (v : List Str) (hl : ns.length < 100000) : putO G (.ref n) (.str x) (.lst (v.map .str)) = some (G.set n (.dK (kA (step_dedup ns x) fun y => if y = x then v else f y))) := by
  have lz : (kA ns f).length < sizeLine := by rw [List.length_map]; exact sz_lt' hl
  unfold putO
  rw [celL_ref, celD_ref, hg, keyD_str]
  dsimp only
  rw [if_pos lz]
  unfold kA
  rw [putD_map]
  congr 3
  refine List.map_congr_left fun y _ => ?_
  by_cases c : y = x <;> simp [c]
noncomputable def F_ah0 : List D → GH → R D := defF ["_law_orders_here", "_law_found", "_law_one", "_law_at", "_law_name"] b__law_ahead
noncomputable def F_ah : List D → GH → R D := fun ds G => fzR G (F_ah0 ds G)
theorem m_ah {os : List Ord} (h : OrdsOk os) (G : GH) : F_ah [.lst (os.map encO)] G = .ok (.dK (kA (nmsO os) (ahO os))) G := by
  have w : (F_ah0 [.lst (os.map encO)] G).wp (fun d G' => d = .ref G.length ∧ G' = G ++ [.dK (kA (nmsO os) (ahO os))]) noX := by
    have hl := h.1
    have ho := h.2
    unfold F_ah0 b__law_ahead
    and_intros
    exists nilL
    rw [w_sFor, sp_thn]
    exists nilL
    refine for_inv encO os (fun pre δ G2 => (∃ a b c, δ = [some (.lst (os.map encO)), some (.ref G.length), a, b, c]) ∧ G2 = G ++ [.dK (kA (met (pre.flatMap (·.2))) (ahO pre))]) ⟨⟨_, _, _, rfl⟩, rfl⟩ (fun pre x post δ G2 e ⟨⟨a, b, c, e1⟩, e2⟩ => ?_) fun δ G2 ⟨⟨a, b, c, e1⟩, e2⟩ => ?_
    · subst e1 e2
      have li := items_len (os := os) fun o k => (ho o k).2.1
      have hx := ho x (by rw [e]; simp)
      obtain ⟨kk, xs⟩ := x
      have nd : xs.Nodup := hx.1
      have lx : xs.length ≤ 40 := hx.2.1
      rw [e] at li hl
      simp only [List.flatMap_append, List.flatMap_cons, List.length_append, List.length_cons] at li hl
      have lpre : pre.length ≤ 39 := by omega
      have la : ∀ y, (ahO pre y).length ≤ 1600 := fun y => by
        have := ah_len (os := pre) (fun o k => (ho o (by rw [e]; simp [k])).2.1) y
        omega
      have key : (sForL (fun _ => true) (gTp 2 (gsCons (gNm 3) (gsCons (gNm 4) gsNil))) (sPut (eVar 1) (eVar 4) (eOp (dAdd mkF) (eGet2 (eVar 1) (eVar 4) (eLst aNil)) (eCB (one (dList mkF)) (aCons (eSl mkF (eVar 2) none (some (eVar 3))) aNil))))
          (xs.zipIdx.map fun p => D.tup [.int (p.2 : Nat), .str p.1]) [some (.lst (os.map encO)), some (.ref G.length), some (encO (kk, xs)), b, c] (G ++ [.dK (kA (met (pre.flatMap (·.2))) (ahO pre))])).wp
          (fun δ2 G2 => true = true ∧ (∃ a b c, δ2 = [some (.lst (os.map encO)), some (.ref G.length), a, b, c]) ∧ G2 = G ++ [.dK (kA (met ((pre ++ [(kk, xs)]).flatMap (·.2))) (ahO (pre ++ [(kk, xs)])))]) fR fS fS fX := by
        refine for_inv (fun p : Str × Nat => D.tup [.int (p.2 : Nat), .str p.1]) xs.zipIdx (fun pp δ G2 => (∃ a b, δ = [some (.lst (os.map encO)), some (.ref G.length), some (encO (kk, xs)), a, b]) ∧ G2 = G ++ [.dK (kA (met (pre.flatMap (·.2) ++ pp.map (·.1))) (ahP pre xs (pp.map (·.1))))]) ⟨⟨_, _, rfl⟩, ?_⟩ (fun pp x po δ G2 e ⟨⟨a, b, e1⟩, e2⟩ => ?_) fun δ G2 ⟨⟨a, b, e1⟩, e2⟩ => ?_
        · have : ahP pre xs [] = ahO pre := by funext y; simp [ahP]
          simp [this]
        · subst e1 e2
          obtain ⟨x, i⟩ := x
          have ex : xs = pp.map (·.1) ++ x :: po.map (·.1) := by
            have := congrArg (List.map Prod.fst) e
            simpa using this
          have ei : i = pp.length := by
            have h1 : xs.zipIdx[pp.length]? = some (x, i) := by rw [e]; simp
            rw [List.getElem?_zipIdx] at h1
            cases q : xs[pp.length]? with
            | none => rw [q] at h1; simp at h1
            | some y => rw [q] at h1; simp at h1; exact h1.2.symm
          subst ei
          have nx : x ∉ pp.map (·.1) := by
            rw [ex] at nd
            exact fun k => (List.nodup_append.mp nd).2.2 x k x (List.mem_cons_self ..) rfl
          have lp : (pp.map (·.1)).length = pp.length := List.length_map ..
          have tk : List.take pp.length (xs.map D.str) = (pp.map (·.1)).map D.str := by
            rw [ex, List.map_append, List.take_left' (by simp)]
          have l5 : pp.length + (po.length + 1) = xs.length := by
            have := congrArg List.length ex
            simpa using this.symm
          have g1 := ge1 G (.dK (kA (met (pre.flatMap (·.2) ++ pp.map (·.1))) (ahP pre xs (pp.map (·.1)))))
          have fx : ahP pre xs (pp.map (·.1)) x = ahO pre x := by unfold ahP; rw [if_neg nx, List.append_nil]
          have lm := met_len (pre.flatMap (·.2) ++ pp.map (·.1))
          rw [List.length_append, lp] at lm
          have lax := la x
          have put : ∀ kd : List D, kd = (ahO pre x).map D.str → putO (G ++ [.dK (kA (met (pre.flatMap (·.2) ++ pp.map (·.1))) (ahP pre xs (pp.map (·.1))))]) (.ref G.length) (.str x) (.lst (kd ++ (pp.map (·.1)).map D.str)) =
              some (G ++ [.dK (kA (met (pre.flatMap (·.2) ++ (pp ++ [(x, pp.length)]).map (·.1))) (ahP pre xs ((pp ++ [(x, pp.length)]).map (·.1))))]) := fun kd ek => by
            rw [ek, ← List.map_append, put_kA g1 x _ (by omega), st1, List.map_append, ← List.append_assoc]
            show some (G ++ [Cell.dK (kA _ _)]) = some (G ++ [Cell.dK (kA (met (pre.flatMap (·.2) ++ pp.map (·.1) ++ [x])) _)])
            rw [met_snoc]
            congr 5
            funext y
            by_cases c : y = x
            · subst c
              rw [if_pos rfl]
              unfold ahP
              rw [if_pos (by simp)]
              congr 1
              unfold befO
              have := posS_at (x := y) (pp := pp.map (·.1)) (po := po.map (·.1)) nx
              rw [← ex] at this
              rw [this]
              dsimp only
              rw [ex, List.take_left' rfl]
            · rw [if_neg c]
              show ahO pre y ++ (if y ∈ pp.map (·.1) then befO xs y else []) = ahO pre y ++ (if y ∈ pp.map (·.1) ++ [(x, pp.length)].map (·.1) then befO xs y else [])
              have mm : (y ∈ pp.map (·.1) ++ [(x, pp.length)].map (·.1)) = (y ∈ pp.map (·.1)) := by simp [c]
              simp only [mm]
          have emp : x ∉ met (pre.flatMap (·.2) ++ pp.map (·.1)) → ahO pre x = [] := fun k => by
            unfold ahO
            rw [List.flatMap_eq_nil_iff]
            intro o hoo
            have : x ∉ o.2 := fun q => k (met_mem.mpr (List.mem_append_left _ (List.mem_flatMap.mpr ⟨o, hoo, q⟩)))
            unfold befO
            rw [posS_no this]
          have gk := get_kA g1 x
          rw [fx] at gk
          have dl1 : ∀ ds G, dList mkF (.lst ds) G = .ok (.lst ds) G := fun _ _ => rfl
          have dl2 : ∀ ds G, dList mkF (.tup ds) G = .ok (.lst ds) G := fun _ _ => rfl
          by_cases c : x ∈ met (pre.flatMap (·.2) ++ pp.map (·.1))
          · rw [if_pos c] at gk
            have pt := put _ rfl
            cases kk
            all_goals
              exists encO, gk, cut_hi, tk, dl1, dl2, List.length_map, pt
              exact ⟨_, _, rfl⟩
          · rw [if_neg c] at gk
            have pt := put [] (by rw [emp c]; rfl)
            rw [List.nil_append] at pt
            cases kk
            all_goals
              exists encO, gk, cut_hi, tk, dl1, dl2, List.length_map, pt
              exact ⟨_, _, rfl⟩
        · subst e1 e2
          refine ⟨rfl, ⟨_, _, _, rfl⟩, ?_⟩
          have z : xs.zipIdx.map (·.1) = xs := by simp
          have f : ahP pre xs xs = ahO (pre ++ [(kk, xs)]) := by
            funext y
            unfold ahP ahO
            rw [List.flatMap_append]
            congr 1
            by_cases c : y ∈ xs
            · simp [c]
            · rw [if_neg c]
              simp [befO, posS_no c]
          rw [z, f]
          simp
      cases kk
      all_goals
        exists encO
        rw [w_sFor, sp_thn]
        exists enumD_map
        exact RS.use key fun _ _ z => z
    · subst e1 e2
      exists nilL
      rfl
  obtain ⟨d, G', e, rfl, rfl⟩ := R.wp_ex_iff.mp w
  unfold F_ah
  rw [e]
  refine fzR_ok ?_
  show fzW (fzr (G ++ [.dK (kA (nmsO os) (ahO os))]) G.length 4) (.ref G.length) = _
  have fk : ∀ (rf : Nat → Option D) (l : List Str), fzWk rf (kA l (ahO os)) = some (kA l (ahO os)) := fun rf l => by
    induction l with
    | nil => rw [kA, List.map_nil, fzWk]
    | cons x r ih => rw [kA, List.map_cons, fzWk, pure0_lst (pures0_map (fun a => pure0_str a) _), ih]
  rw [fzW, fzr, if_neg (by omega), ge1]
  dsimp only
  rw [fk]
end OA
end CF
end
section
set_option maxRecDepth 100000
set_option maxHeartbeats 4000000
namespace CF
namespace OA
open PySem PySem.Spec PyProof.Rows L2 
local macro_rules
  | `(tactic| exists $es,*) => `(tactic| simp (disch := first | assumption | omega | (simp only [List.length_set, List.length_append, List.length_cons, List.length_nil]; omega)) only [↓wp_ok, ↓wp_ex, ↓wp_bind, ↓wp_guard, ↓wp_nox, ↓sp_nx, ↓sp_rt, ↓sp_bk, ↓sp_ct, ↓sp_ex, ↓sp_seq, ↓sp_thn, ↓sp_guard,
      ↓w_eC, ↓w_eVar, ↓w_aNil, ↓w_aCons, ↓w_eTup, ↓w_eTupP, ↓w_eLst, ↓w_eLstM, ↓w_eOp, ↓w_eChain, ↓w_asB, ↓w_tAnd, ↓w_tOr, ↓w_tNot, ↓w_eTru, ↓w_eIf, ↓w_sNext, ↓w_sSeq, ↓w_sRet, ↓w_sRetN, ↓w_sIf, ↓w_sSet, ↓w_sDrop, ↓w_sBreak, ↓w_sCont, ↓w_gNm, ↓w_gsNil, ↓w_gsCons, ↓w_gTp, ↓w_sAsg, ↓w_eOne, ↓w_eUn, ↓w_eCB, ↓w_one, ↓w_eCall, ↓w_eAnd, ↓w_eOr, ↓w_eNot, ↓w_iSeq, ↓w_eLc, ↓w_mkF, ↓w_mkM, ↓w_tYes, ↓w_eMt, ↓w_eMt0, ↓w_iRg1, ↓w_sPut, ↓w_gPut, ↓w_sPar2, ↓w_sPar3, ↓w_sAugD, ↓w_eDict0, ↓w_mkKF, ↓w_mkKM, ↓w_eRev, ↓w_eGet2, ↓w_eLenSet2, ↓w_iEn, ↓w_iZp, ↓w_eCm, ↓w_cmDn, ↓w_cmDc, ↓w_emLd, ↓w_emKd, keyD_str, keyD_int, dKOf_dK, dKOf_ref, celL_ref, celD_ref, lstIts_lst, tupIts_tup, tupIts_pt, tupIts_lst, tupIts_scr, tupIts_ref, strsOf_map,
      wipeD_nil, wipeD_cons, List.cons_append, List.nil_append, List.append_nil, ap_setI, eSl_ap, eOpt_none, eOpt_some,
      List.getElem?_cons_zero, List.getElem?_cons_succ, List.set_cons_zero, List.set_cons_succ, List.length_cons, List.length_nil, List.length_set, Nat.zero_add, Nat.reduceAdd, Nat.reduceSub, Nat.add_one_sub_one, List.length_append,
      itsD_tup, itsD_pt, itsD_lst, itsD_scr, dIx_tup, dIx_pt, dIx_lst, dIx_scr, atI_0, atI_1, atI_2, dAdd_int, dAdd_tup, dAdd_pt, dAdd_lst, dAdd_str, dInt_int, dInt_bl, dStr_int, dStr_str, dIsi_ap, dLen_lst, dLen_tup, dLen_pt, dLen_scr, dIsN_non, dNotN_non, dNeg_ap, dIB_ap, dI_ap,
      dEq_int, dNe_int, truD_bl, truD_non, truD_int, dSl_tup, dSl_pt, dSl_lst, dSl_scr, dTupP_lst, decide_true, decide_false, if_true, if_false, Bool.false_eq_true, Bool.not_true, Bool.not_false, eq_self, true_and, and_true, sz_le, sz_lt, rngIts_items, rngIts_chk, beq_self_eq_true, R.bind_ok, R.nox_ok, tyM_ref, mAppend_ref, mExtend_ref, ge1, ge2a, ge2b, ge3a, ge3b, ge3c, ge3d, st1, st2a, st2b, st3a, st3b, st3c, st3d, tyN, Bool.and_self, Bool.and_true, Bool.true_and, Bool.and_false, Bool.false_and, Bool.or_true, Bool.true_or, Bool.or_false, Bool.false_or, Int.reduceLT, Int.reduceLE, Int.reduceGT, Int.reduceNeg, Int.reduceAdd, Int.reduceSub, Int.reduceBEq, Int.reduceBNe, Int.reduceEq, Int.reduceToNat, Nat.reduceEqDiff, Nat.reduceLeDiff, reduceCtorEq, Int.natCast_zero, Int.cast_ofNat_Int, Int.lt_irrefl, List.map_nil, decide_eq_true_eq,
      isi_NoneType_int, isi_NoneType_str, isi_NoneType_bool, isi_NoneType_tuple, isi_NoneType_list, isi_NoneType_dict, isi_bool_int, isi_bool_str, isi_bool_bool, isi_bool_tuple, isi_bool_list, isi_bool_dict, isi_int_int, isi_int_str, isi_int_bool, isi_int_tuple, isi_int_list, isi_int_dict, isi_str_int, isi_str_str, isi_str_bool, isi_str_tuple, isi_str_list, isi_str_dict, isi_tuple_int, isi_tuple_str, isi_tuple_bool, isi_tuple_tuple, isi_tuple_list, isi_tuple_dict, isi_list_int, isi_list_str, isi_list_bool, isi_list_tuple, isi_list_list, isi_list_dict, isi_dict_int, isi_dict_str, isi_dict_bool, isi_dict_tuple, isi_dict_list, isi_dict_dict, $[$es:term],*])
  | `(tactic| and_intros) => `(tactic| (rw [wp_def]; simp only [startD, List.map_cons, List.map_nil, List.length_cons, List.length_nil, Nat.zero_add, Nat.reduceAdd, Nat.reduceSub, List.replicate, List.cons_append, List.nil_append]))
/-! ### the law's least order -/
def freeL (ss : List Str) (ah : Str → List Str) (found : List Str) : List Str := (ss.filter fun x => !decide (x ∈ found)).filter fun x => decide ((ah x).filter (fun y => !decide (y ∈ found)) = [])
def leastP (ss : List Str) (ah : Str → List Str) : Nat → List Str → Option (List Str)
  | 0, found => some found
  | n + 1, found => match freeL ss ah found with
    | [] => none
    | x :: _ => leastP ss ah n (found ++ [x])
theorem leastP_eq (ss : List Str) (ah : Str → List Str) (n : Nat) (found : List Str) : leastP ss ah (n + 1) found = match freeL ss ah found with
    | [] => none
    | x :: _ => leastP ss ah n (found ++ [x]) := rfl
def leastO (os : List Ord) : Option (List Str) := leastP (sortS (nmsO os)) (ahO os) (nmsO os).length []
theorem notIn_cell {G : GH} {n : Nat} {zs : List Str} (x : Str) (h : G[n]? = some (.lst (zs.map .str))) : dNotIn (.str x) (.ref n) G = .ok (.bl (!decide (x ∈ zs))) G := by
  have e : inD G (.str x) (.ref n) = some (decide (x ∈ zs)) := by
    show (match lstOf G (.ref n) with | some ys => dInS (.str x) ys | none => (dGetO G (.ref n) (.str x)).map Option.isSome) = _
    rw [lstOf_ref, h]
    show dInS (.str x) (zs.map .str) = _
    unfold dInS
    have f : (zs.map D.str).all flatD = true := by simp [flatD]
    rw [f]
    simp only [flatD, Bool.and_self, if_true]
    congr 1
    rw [List.any_map]
    by_cases c : x ∈ zs
    · rw [decide_eq_true c]
      exact List.any_eq_true.mpr ⟨x, c, by simp [eqF_str]⟩
    · rw [decide_eq_false c]
      refine List.any_eq_false.mpr fun y hy => ?_
      simp [eqF_str]
      exact fun k => c (k ▸ hy)
  unfold dNotIn
  rw [e]
theorem dIx_kA {os : List Ord} {x : Str} (h : x ∈ nmsO os) (G : GH) : dIx (.dK (kA (nmsO os) (ahO os))) (.str x) G = .ok (.lst ((ahO os x).map .str)) G := dIx_dK (nmsO os) (fun x => .lst ((ahO os x).map .str)) h G
theorem posS_mem {x : Str} {zs : List Str} {j : Nat} (h : posS x zs = some j) : x ∈ zs := List.mem_of_getElem? (posS_some h).1
theorem ah_names {os : List Ord} {x y : Str} (h : y ∈ ahO os x) : y ∈ nmsO os := by
  obtain ⟨o, ho, k⟩ := List.mem_flatMap.mp h
  refine names_of ho ?_
  unfold befO at k
  split at k
  · exact List.mem_of_mem_take k
  · cases k
noncomputable def F_lst0 : List D → GH → R D := defF ["_law_orders_here", "_law_ahead_here", "_law_found", "_law_free", "_law_name", "_law_one"] (b__law_least F_ah)
noncomputable def F_lst : List D → GH → R D := fun ds G => fzR G (F_lst0 ds G)
theorem m_lst {os : List Ord} (h : OrdsOk os) (G : GH) : F_lst [.lst (os.map encO)] G = .ok (match leastO os with | none => .non | some ns => .lst (ns.map .str)) G := by
  have hn := nms_len h
  have ss : ∀ x ∈ sortS (nmsO os), x ∈ nmsO os := fun x hx => (sortS_perm _).mem_iff.mp hx
  have sl : (sortS (nmsO os)).length = (nmsO os).length := (sortS_perm _).length_eq
  have w : (F_lst0 [.lst (os.map encO)] G).wp (fun d G' => ∃ found, G' = G ++ [.lst (found.map .str)] ∧ match leastO os with
      | none => d = .non
      | some ns => d = .ref G.length ∧ found = ns) noX := by
    unfold F_lst0 b__law_least
    and_intros
    exists m_ah h
    refine wh_inv (fun m δ G2 => ∃ found, found.length + m = (nmsO os).length ∧ leastP (sortS (nmsO os)) (ahO os) m found = leastO os ∧ (∃ a b c, δ = [some (.lst (os.map encO)), some (.dK (kA (nmsO os) (ahO os))), some (.ref G.length), a, b, c]) ∧ G2 = G ++ [.lst (found.map .str)]) (nmsO os).length 1000000
      ⟨[], by simp, rfl, ⟨_, _, _, rfl⟩, rfl⟩ (by omega) (fun m δ G2 ⟨found, lf, ek, ⟨a, b, c, e1⟩, e2⟩ => ?_)
    subst e1 e2
    have g1 := ge1 G (.lst (found.map .str))
    have dl1 := dLen_ref _ _ g1
    have dl2 : ∀ G, dLen (.dK (kA (nmsO os) (ahO os))) G = .ok (.int (nmsO os).length) G := fun G => by
      show (match lenO G (.dK (kA (nmsO os) (ahO os))) with | some n => R.ok (D.int n) G | none => .no) = _
      rw [lenO_dK, List.length_map]
    have sk : ∀ G, dSorted2 mkF (.dK (kA (nmsO os) (ahO os))) G = mkF ((sortS (nmsO os)).map D.str) G := fun G => sorted_keys mkF (nmsO os) _ G
    cases m with
    | zero =>
      have c1 : ¬ ((found.length : Int) < ((nmsO os).length : Int)) := by omega
      exists dl1, List.length_map, dl2, c1
      refine ⟨found, rfl, ?_⟩
      have ek : some found = leastO os := ek
      rw [← ek]
    | succ m =>
      have c1 : ((found.length : Int) < ((nmsO os).length : Int)) := by omega
      exists dl1, List.length_map, dl2, c1, sk
      refine lc_pure D.str (sortS (nmsO os)) (fun x => !decide (x ∈ found)) D.str (Nat.le_trans (by omega : (sortS (nmsO os)).length ≤ 1600) (by decide)) rfl (fun x hx => ?_) ?_
      · exists notIn_cell x g1
        exact fun _ => trivial
      · exists nilL
        have fl : ((sortS (nmsO os)).filter fun x => !decide (x ∈ found)).length ≤ 1600 := by
          have := List.length_filter_le (fun x => !decide (x ∈ found)) (sortS (nmsO os))
          omega
        refine lc_pure D.str ((sortS (nmsO os)).filter fun x => !decide (x ∈ found)) (fun x => decide ((ahO os x).filter (fun y => !decide (y ∈ found)) = [])) D.str (Nat.le_trans fl (by decide)) rfl (fun x hx => ?_) ?_
        · have xn : x ∈ nmsO os := ss x (List.mem_filter.mp hx).1
          exists dIx_kA xn
          have la := ah_len (os := os) (fun o k => (h.2 o k).2.1) x
          have l1 := h.1
          refine lc_pure D.str (ahO os x) (fun y => !decide (y ∈ found)) D.str (Nat.le_trans (by omega : (ahO os x).length ≤ 1600) (by decide)) rfl (fun y hy => ?_) ?_
          · exists notIn_cell y g1
            exact fun _ => trivial
          · have de := dEq_strs (xs := (ahO os x).filter fun y => !decide (y ∈ found)) (ys := []) (fun y hy => ord_str h (ah_names (List.mem_filter.mp hy).1)) (fun y hy => nomatch hy) (G ++ [.lst (found.map .str)])
            rw [List.map_nil] at de
            exists de
            exact fun _ => trivial
        · rw [leastP_eq] at ek
          have fr : (((sortS (nmsO os)).filter fun x => !decide (x ∈ found)).filter fun x => decide ((ahO os x).filter (fun y => !decide (y ∈ found)) = [])) = freeL (sortS (nmsO os)) (ahO os) found := rfl
          rw [fr]
          have fn : ∀ x ∈ freeL (sortS (nmsO os)) (ahO os) found, x ∈ nmsO os := fun x hx => ss x (List.mem_filter.mp (List.mem_filter.mp hx).1).1
          have de := dEq_strs (xs := freeL (sortS (nmsO os)) (ahO os) found) (ys := []) (fun y hy => ord_str h (fn y hy)) (fun y hy => nomatch hy) (G ++ [.lst (found.map .str)])
          rw [List.map_nil] at de
          cases ef : freeL (sortS (nmsO os)) (ahO os) found with
          | nil =>
            rw [ef] at ek de
            exists de
            refine ⟨found, rfl, ?_⟩
            have ek : none = leastO os := ek
            rw [← ek]
          | cons x r =>
            rw [ef] at ek de
            have lz : (List.map D.str found).length < sizeLine := by rw [List.length_map]; exact sz_lt' (by omega)
            have dn : decide (x :: r = []) = false := by simp
            rw [dn] at de
            have dx : ∀ G, dIx (.lst ((x :: r).map .str)) (.int 0) G = .ok (.str x) G := fun G => by rw [List.map_cons, dIx_lst, atI_0]
            exists de, dx, lz
            refine ⟨m, Nat.lt_succ_self _, found ++ [x], by simp; omega, ek, ⟨_, _, _, rfl⟩, ?_⟩
            rw [List.map_append]
            rfl
  obtain ⟨d, G', e, found, rfl, k⟩ := R.wp_ex_iff.mp w
  unfold F_lst
  rw [e]
  cases q : leastO os with
  | none =>
    rw [q] at k
    subst k
    exact fzR_ok (pure0_non _)
  | some ns =>
    rw [q] at k
    obtain ⟨rfl, rfl⟩ := k
    refine fzR_ok ?_
    show fzW (fzr (G ++ [.lst (found.map .str)]) G.length 4) (.ref G.length) = _
    rw [fzW]
    exact fzr_lst (Nat.le_refl _) (ge1 ..) (pures0_map (fun a => pure0_str a) _)
end OA
end CF
end
section
set_option maxRecDepth 100000
set_option maxHeartbeats 4000000
namespace CF
namespace OA
open PySem PySem.Spec PyProof.Rows L2 
local macro_rules
  | `(tactic| exists $es,*) => `(tactic| simp (disch := first | assumption | omega | (simp only [List.length_set, List.length_append, List.length_cons, List.length_nil]; omega)) only [↓wp_ok, ↓wp_ex, ↓wp_bind, ↓wp_guard, ↓wp_nox, ↓sp_nx, ↓sp_rt, ↓sp_bk, ↓sp_ct, ↓sp_ex, ↓sp_seq, ↓sp_thn, ↓sp_guard,
      ↓w_eC, ↓w_eVar, ↓w_aNil, ↓w_aCons, ↓w_eTup, ↓w_eTupP, ↓w_eLst, ↓w_eLstM, ↓w_eOp, ↓w_eChain, ↓w_asB, ↓w_tAnd, ↓w_tOr, ↓w_tNot, ↓w_eTru, ↓w_eIf, ↓w_sNext, ↓w_sSeq, ↓w_sRet, ↓w_sRetN, ↓w_sIf, ↓w_sSet, ↓w_sDrop, ↓w_sBreak, ↓w_sCont, ↓w_gNm, ↓w_gsNil, ↓w_gsCons, ↓w_gTp, ↓w_sAsg, ↓w_eOne, ↓w_eUn, ↓w_eCB, ↓w_one, ↓w_eCall, ↓w_eAnd, ↓w_eOr, ↓w_eNot, ↓w_iSeq, ↓w_eLc, ↓w_mkF, ↓w_mkM, ↓w_tYes, ↓w_eMt, ↓w_eMt0, ↓w_iRg1, ↓w_sPut, ↓w_gPut, ↓w_sPar2, ↓w_sPar3, ↓w_sAugD, ↓w_eDict0, ↓w_mkKF, ↓w_mkKM, ↓w_eRev, ↓w_eGet2, ↓w_eLenSet2, ↓w_iEn, ↓w_iZp, ↓w_eCm, ↓w_cmDn, ↓w_cmDc, ↓w_emLd, ↓w_emKd, keyD_str, keyD_int, dKOf_dK, dKOf_ref, celL_ref, celD_ref, lstIts_lst, tupIts_tup, tupIts_pt, tupIts_lst, tupIts_scr, tupIts_ref, strsOf_map,
      wipeD_nil, wipeD_cons, List.cons_append, List.nil_append, List.append_nil, ap_setI, eSl_ap, eOpt_none, eOpt_some,
      List.getElem?_cons_zero, List.getElem?_cons_succ, List.set_cons_zero, List.set_cons_succ, List.length_cons, List.length_nil, List.length_set, Nat.zero_add, Nat.reduceAdd, Nat.reduceSub, Nat.add_one_sub_one, List.length_append,
      itsD_tup, itsD_pt, itsD_lst, itsD_scr, dIx_tup, dIx_pt, dIx_lst, dIx_scr, atI_0, atI_1, atI_2, dAdd_int, dAdd_tup, dAdd_pt, dAdd_lst, dAdd_str, dInt_int, dInt_bl, dStr_int, dStr_str, dIsi_ap, dLen_lst, dLen_tup, dLen_pt, dLen_scr, dIsN_non, dNotN_non, dNeg_ap, dIB_ap, dI_ap,
      dEq_int, dNe_int, truD_bl, truD_non, truD_int, dSl_tup, dSl_pt, dSl_lst, dSl_scr, dTupP_lst, decide_true, decide_false, if_true, if_false, Bool.false_eq_true, Bool.not_true, Bool.not_false, eq_self, true_and, and_true, sz_le, sz_lt, rngIts_items, rngIts_chk, beq_self_eq_true, R.bind_ok, R.nox_ok, tyM_ref, mAppend_ref, mExtend_ref, ge1, ge2a, ge2b, ge3a, ge3b, ge3c, ge3d, st1, st2a, st2b, st3a, st3b, st3c, st3d, tyN, Bool.and_self, Bool.and_true, Bool.true_and, Bool.and_false, Bool.false_and, Bool.or_true, Bool.true_or, Bool.or_false, Bool.false_or, Int.reduceLT, Int.reduceLE, Int.reduceGT, Int.reduceNeg, Int.reduceAdd, Int.reduceSub, Int.reduceBEq, Int.reduceBNe, Int.reduceEq, Int.reduceToNat, Nat.reduceEqDiff, Nat.reduceLeDiff, reduceCtorEq, Int.natCast_zero, Int.cast_ofNat_Int, Int.lt_irrefl, List.map_nil, decide_eq_true_eq,
      isi_NoneType_int, isi_NoneType_str, isi_NoneType_bool, isi_NoneType_tuple, isi_NoneType_list, isi_NoneType_dict, isi_bool_int, isi_bool_str, isi_bool_bool, isi_bool_tuple, isi_bool_list, isi_bool_dict, isi_int_int, isi_int_str, isi_int_bool, isi_int_tuple, isi_int_list, isi_int_dict, isi_str_int, isi_str_str, isi_str_bool, isi_str_tuple, isi_str_list, isi_str_dict, isi_tuple_int, isi_tuple_str, isi_tuple_bool, isi_tuple_tuple, isi_tuple_list, isi_tuple_dict, isi_list_int, isi_list_str, isi_list_bool, isi_list_tuple, isi_list_list, isi_list_dict, isi_dict_int, isi_dict_str, isi_dict_bool, isi_dict_tuple, isi_dict_list, isi_dict_dict, $[$es:term],*])
  | `(tactic| and_intros) => `(tactic| (rw [wp_def]; simp only [startD, List.map_cons, List.map_nil, List.length_cons, List.length_nil, Nat.zero_add, Nat.reduceAdd, Nat.reduceSub, List.replicate, List.cons_append, List.nil_append]))
/-! ### both find the same order -/
theorem cnt_zero {ls : List Lnk} {found : List Str} {x : Str} : (cntO ls found x == 0) = true ↔ ∀ y, Lk1 ls y x → y ∈ found := by
  constructor
  · intro h y ⟨i, hl⟩
    have h := eq_of_beq h
    unfold cntO at h
    have h0 : (ls.filter fun l => l.2.1 == x && !(found.contains l.1)) = [] := List.length_eq_zero_iff.mp (by omega)
    have := List.filter_eq_nil_iff.mp h0 _ hl
    simpa using this
  · intro h
    cases q : cntO ls found x == 0 with
    | true => rfl
    | false =>
      obtain ⟨y, nf, l⟩ := cnt_pos q
      exact absurd (h y l) nf
theorem link_of {os : List Ord} {o : Ord} (ho : o ∈ os) {i : Nat} {a b : Str} (h1 : o.2[i]? = some a) (h2 : o.2[i + 1]? = some b) : Lk1 (linksO os) a b := by
  obtain ⟨t, ht⟩ := List.mem_iff_getElem?.mp ho
  refine ⟨t, ?_⟩
  unfold linksO linksZ
  refine List.mem_flatMap.mpr ⟨(o, t), List.mk_mem_zipIdx_iff_getElem?.mpr ht, List.mem_map.mpr ⟨(a, b), ?_, rfl⟩⟩
  unfold prs
  refine List.mem_iff_getElem?.mpr ⟨i, ?_⟩
  rw [List.getElem?_zip_eq_some]
  exact ⟨h1, by rw [List.getElem?_tail]; exact h2⟩
theorem of_link {os : List Ord} {a b : Str} (h : Lk1 (linksO os) a b) : ∃ o ∈ os, ∃ i, o.2[i]? = some a ∧ o.2[i + 1]? = some b := by
  obtain ⟨t, h⟩ := h
  obtain ⟨o, ho, _, hp⟩ := links_mem h
  unfold prs at hp
  obtain ⟨i, hi⟩ := List.mem_iff_getElem?.mp hp
  rw [List.getElem?_zip_eq_some] at hi
  exact ⟨o, ho, i, hi.1, by rw [← List.getElem?_tail]; exact hi.2⟩
theorem nd_at {xs : List Str} (nd : xs.Nodup) {i j : Nat} {x : Str} (h1 : xs[i]? = some x) (h2 : xs[j]? = some x) : i = j := by
  have l1 := (List.getElem?_eq_some_iff.mp h1).1
  exact (List.getElem?_inj l1 nd).mp (h1.trans h2.symm)
theorem posS_nd {xs : List Str} (nd : xs.Nodup) {j : Nat} {x : Str} (h : xs[j]? = some x) : posS x xs = some j := by
  obtain ⟨k, hk⟩ := posS_none (List.mem_of_getElem? h)
  rw [hk, nd_at nd (posS_some hk).1 h]
theorem link_ah {os : List Ord} (h : OrdsOk os) {y x : Str} (l : Lk1 (linksO os) y x) : y ∈ ahO os x := by
  obtain ⟨o, ho, i, h1, h2⟩ := of_link l
  refine List.mem_flatMap.mpr ⟨o, ho, ?_⟩
  unfold befO
  rw [posS_nd (h.2 o ho).1 h2]
  refine List.mem_iff_getElem?.mpr ⟨i, ?_⟩
  rw [List.getElem?_take_of_lt (Nat.lt_succ_self _)]
  exact h1
def ClosedF (ls : List Lnk) (found : List Str) : Prop := ∀ x ∈ found, ∀ y, Lk1 ls y x → y ∈ found
theorem ah_found {os : List Ord} {found : List Str} (hc : ClosedF (linksO os) found) {x : Str} (hx : ∀ y, Lk1 (linksO os) y x → y ∈ found) : ∀ y ∈ ahO os x, y ∈ found := by
  intro y hy
  obtain ⟨o, ho, k⟩ := List.mem_flatMap.mp hy
  unfold befO at k
  cases q : posS x o.2 with
  | none => rw [q] at k; cases k
  | some j =>
    rw [q] at k
    have hj := (posS_some q).1
    have jl := (List.getElem?_eq_some_iff.mp hj).1
    have back : ∀ d i, i + d + 1 = j → ∀ z, o.2[i]? = some z → z ∈ found := by
      intro d
      induction d with
      | zero =>
        intro i e z hz
        exact hx z (link_of ho hz (by rw [← hj]; congr 1))
      | succ d ih =>
        intro i e z hz
        have h1 : o.2[i + 1]? = some o.2[i + 1] := List.getElem?_eq_getElem (by omega)
        exact hc _ (ih (i + 1) (by omega) _ h1) z (link_of ho hz h1)
    obtain ⟨i, hi⟩ := List.mem_iff_getElem?.mp k
    have il : i < j := by
      have := (List.getElem?_eq_some_iff.mp hi).1
      rw [List.length_take] at this
      omega
    rw [List.getElem?_take_of_lt il] at hi
    exact back (j - i - 1) i (by omega) y hi
theorem head_find {α : Type} (p : α → Bool) : ∀ l : List α, l.find? p = (l.filter p).head?
  | [] => rfl
  | x :: r => by
    rw [List.find?_cons, List.filter_cons]
    cases p x with
    | true => rfl
    | false => exact head_find p r
theorem kept_least_go {os : List Ord} (h : OrdsOk os) (ss : List Str) (nd : ss.Nodup) : ∀ (n : Nat) (found : List Str), ClosedF (linksO os) found → keptP (linksO os) n (ss.filter fun x => !decide (x ∈ found)) found = leastP ss (ahO os) n found
  | 0, _, _ => rfl
  | n + 1, found, hc => by
    rw [keptP_eq, leastP_eq]
    have e : ((ss.filter fun x => !decide (x ∈ found)).filter fun x => cntO (linksO os) found x == 0) = freeL ss (ahO os) found := by
      unfold freeL
      refine List.filter_congr fun x _ => ?_
      rw [Bool.eq_iff_iff, cnt_zero, decide_eq_true_eq, List.filter_eq_nil_iff]
      constructor
      · intro k y hy
        simpa using ah_found hc k y hy
      · intro k y l
        simpa using k y (link_ah h l)
    rw [head_find, e]
    cases q : freeL ss (ahO os) found with
    | nil => rfl
    | cons x r =>
      have hx : x ∈ (ss.filter fun x => !decide (x ∈ found)).filter fun x => cntO (linksO os) found x == 0 := by rw [e, q]; simp
      obtain ⟨h1, h2⟩ := List.mem_filter.mp hx
      have xc := cnt_zero.mp h2
      have ee : (ss.filter fun y => !decide (y ∈ found)).erase x = ss.filter fun y => !decide (y ∈ found ++ [x]) := by
        rw [List.Nodup.erase_eq_filter (nd.filter _), List.filter_filter]
        refine List.filter_congr fun y _ => ?_
        by_cases c : y = x
        · simp [c]
        · simp [c]
      show keptP (linksO os) n ((ss.filter fun y => !decide (y ∈ found)).erase x) (found ++ [x]) = leastP ss (ahO os) n (found ++ [x])
      rw [ee]
      refine kept_least_go h ss nd n (found ++ [x]) fun z hz y l => ?_
      rcases List.mem_append.mp hz with k | k
      · exact List.mem_append_left _ (hc z k y l)
      · simp at k
        subst k
        exact List.mem_append_left _ (xc y l)
theorem kept_least {os : List Ord} (h : OrdsOk os) : keptO os = leastO os := by
  have := kept_least_go h (sortS (nmsO os)) ((sortS_perm _).nodup_iff.mpr (met_nd _)) (nmsO os).length [] (fun x hx => nomatch hx)
  have e : ((sortS (nmsO os)).filter fun x => !decide (x ∈ ([] : List Str))) = sortS (nmsO os) := by simp
  rw [e] at this
  exact this
/-! the orders' own order does not matter -/
theorem leastP_congr {ss : List Str} {ah ah2 : Str → List Str} (h : ∀ x y, y ∈ ah x ↔ y ∈ ah2 x) : ∀ (n : Nat) (found : List Str), leastP ss ah n found = leastP ss ah2 n found
  | 0, _ => rfl
  | n + 1, found => by
    have e : freeL ss ah found = freeL ss ah2 found := by
      unfold freeL
      refine List.filter_congr fun x _ => ?_
      rw [Bool.eq_iff_iff, decide_eq_true_eq, decide_eq_true_eq, List.filter_eq_nil_iff, List.filter_eq_nil_iff]
      exact ⟨fun k y hy => k y ((h x y).mpr hy), fun k y hy => k y ((h x y).mp hy)⟩
    rw [leastP_eq, leastP_eq, e]
    cases freeL ss ah2 found with
    | nil => rfl
    | cons x r => exact leastP_congr h n _
theorem leS_antisymm {a b : Str} (h1 : leS a b = true) (h2 : leS b a = true) : a = b := by
  rw [leS_def] at h1 h2
  have h1 := of_decide_eq_true h1
  have h2 := of_decide_eq_true h2
  have e := List.le_antisymm h1 h2
  cases a; cases b
  simp only at e
  congr 1
  exact Array.toList_inj.mp e
theorem sortS_same {xs ys : List Str} (h : xs.Perm ys) : sortS xs = sortS ys :=
  ((sortS_perm xs).trans (h.trans (sortS_perm ys).symm)).eq_of_pairwise (fun a b _ _ h1 h2 => leS_antisymm h1 h2) (sortS_sorted xs) (sortS_sorted ys)
theorem nd_perm {xs ys : List Str} (h1 : xs.Nodup) (h2 : ys.Nodup) (h : ∀ x, x ∈ xs ↔ x ∈ ys) : xs.Perm ys := (List.perm_ext_iff_of_nodup h1 h2).mpr h
theorem least_rev (os : List Ord) : leastO os.reverse = leastO os := by
  have pn : (nmsO os.reverse).Perm (nmsO os) := nd_perm (met_nd _) (met_nd _) fun x => by
    unfold nmsO
    rw [met_mem, met_mem]
    simp
  unfold leastO
  rw [sortS_same pn, pn.length_eq]
  exact leastP_congr (fun x y => by unfold ahO; simp) _ _
theorem ordsOk_rev {os : List Ord} (h : OrdsOk os) : OrdsOk os.reverse := ⟨by rw [List.length_reverse]; exact h.1, fun o ho => h.2 o (by simpa using ho)⟩
end OA
end CF
end
section
set_option maxRecDepth 100000
set_option maxHeartbeats 4000000
namespace CF
namespace OA
open PySem PySem.Spec PyProof.Rows L2 
local macro_rules
  | `(tactic| exists $es,*) => `(tactic| simp (disch := first | assumption | omega | (simp only [List.length_set, List.length_append, List.length_cons, List.length_nil]; omega)) only [↓wp_ok, ↓wp_ex, ↓wp_bind, ↓wp_guard, ↓wp_nox, ↓sp_nx, ↓sp_rt, ↓sp_bk, ↓sp_ct, ↓sp_ex, ↓sp_seq, ↓sp_thn, ↓sp_guard,
      ↓w_eC, ↓w_eVar, ↓w_aNil, ↓w_aCons, ↓w_eTup, ↓w_eTupP, ↓w_eLst, ↓w_eLstM, ↓w_eOp, ↓w_eChain, ↓w_asB, ↓w_tAnd, ↓w_tOr, ↓w_tNot, ↓w_eTru, ↓w_eIf, ↓w_sNext, ↓w_sSeq, ↓w_sRet, ↓w_sRetN, ↓w_sIf, ↓w_sSet, ↓w_sDrop, ↓w_sBreak, ↓w_sCont, ↓w_gNm, ↓w_gsNil, ↓w_gsCons, ↓w_gTp, ↓w_sAsg, ↓w_eOne, ↓w_eUn, ↓w_eCB, ↓w_one, ↓w_eCall, ↓w_eAnd, ↓w_eOr, ↓w_eNot, ↓w_iSeq, ↓w_eLc, ↓w_mkF, ↓w_mkM, ↓w_tYes, ↓w_eMt, ↓w_eMt0, ↓w_iRg1, ↓w_sPut, ↓w_gPut, ↓w_sPar2, ↓w_sPar3, ↓w_sAugD, ↓w_eDict0, ↓w_mkKF, ↓w_mkKM, ↓w_eRev, ↓w_eGet2, ↓w_eLenSet2, ↓w_iEn, ↓w_iZp, ↓w_eCm, ↓w_cmDn, ↓w_cmDc, ↓w_emLd, ↓w_emKd, keyD_str, keyD_int, dKOf_dK, dKOf_ref, celL_ref, celD_ref, lstIts_lst, tupIts_tup, tupIts_pt, tupIts_lst, tupIts_scr, tupIts_ref, strsOf_map,
      wipeD_nil, wipeD_cons, List.cons_append, List.nil_append, List.append_nil, ap_setI, eSl_ap, eOpt_none, eOpt_some,
      List.getElem?_cons_zero, List.getElem?_cons_succ, List.set_cons_zero, List.set_cons_succ, List.length_cons, List.length_nil, List.length_set, Nat.zero_add, Nat.reduceAdd, Nat.reduceSub, Nat.add_one_sub_one, List.length_append,
      itsD_tup, itsD_pt, itsD_lst, itsD_scr, dIx_tup, dIx_pt, dIx_lst, dIx_scr, atI_0, atI_1, atI_2, dAdd_int, dAdd_tup, dAdd_pt, dAdd_lst, dAdd_str, dInt_int, dInt_bl, dStr_int, dStr_str, dIsi_ap, dLen_lst, dLen_tup, dLen_pt, dLen_scr, dIsN_non, dNotN_non, dNeg_ap, dIB_ap, dI_ap,
      dEq_int, dNe_int, truD_bl, truD_non, truD_int, dSl_tup, dSl_pt, dSl_lst, dSl_scr, dTupP_lst, decide_true, decide_false, if_true, if_false, Bool.false_eq_true, Bool.not_true, Bool.not_false, eq_self, true_and, and_true, sz_le, sz_lt, rngIts_items, rngIts_chk, beq_self_eq_true, R.bind_ok, R.nox_ok, tyM_ref, mAppend_ref, mExtend_ref, ge1, ge2a, ge2b, ge3a, ge3b, ge3c, ge3d, st1, st2a, st2b, st3a, st3b, st3c, st3d, tyN, Bool.and_self, Bool.and_true, Bool.true_and, Bool.and_false, Bool.false_and, Bool.or_true, Bool.true_or, Bool.or_false, Bool.false_or, Int.reduceLT, Int.reduceLE, Int.reduceGT, Int.reduceNeg, Int.reduceAdd, Int.reduceSub, Int.reduceBEq, Int.reduceBNe, Int.reduceEq, Int.reduceToNat, Nat.reduceEqDiff, Nat.reduceLeDiff, reduceCtorEq, Int.natCast_zero, Int.cast_ofNat_Int, Int.lt_irrefl, List.map_nil, decide_eq_true_eq,
      isi_NoneType_int, isi_NoneType_str, isi_NoneType_bool, isi_NoneType_tuple, isi_NoneType_list, isi_NoneType_dict, isi_bool_int, isi_bool_str, isi_bool_bool, isi_bool_tuple, isi_bool_list, isi_bool_dict, isi_int_int, isi_int_str, isi_int_bool, isi_int_tuple, isi_int_list, isi_int_dict, isi_str_int, isi_str_str, isi_str_bool, isi_str_tuple, isi_str_list, isi_str_dict, isi_tuple_int, isi_tuple_str, isi_tuple_bool, isi_tuple_tuple, isi_tuple_list, isi_tuple_dict, isi_list_int, isi_list_str, isi_list_bool, isi_list_tuple, isi_list_list, isi_list_dict, isi_dict_int, isi_dict_str, isi_dict_bool, isi_dict_tuple, isi_dict_list, isi_dict_dict, $[$es:term],*])
  | `(tactic| and_intros) => `(tactic| (rw [wp_def]; simp only [startD, List.map_cons, List.map_nil, List.length_cons, List.length_nil, Nat.zero_add, Nat.reduceAdd, Nat.reduceSub, List.replicate, List.cons_append, List.nil_append]))
/-! ### the law's look at a ring -/
theorem ring_len {os : List Ord} (h : OrdsOk os) {ring : List Lnk} (r : RingOk (ringL os) ring) : 2 ≤ ring.length ∧ ring.length ≤ 1600 := by
  constructor
  · rcases ring with _ | ⟨a, _ | ⟨b, t⟩⟩
    · exact absurd rfl r.ne
    · have e := r.back a a rfl rfl
      obtain ⟨o, ho, i, h1, h2⟩ := of_link ⟨a.2.2, (ringL_mem.mp (r.sub a (by simp))).1⟩
      rw [e] at h2
      have := nd_at (h.2 o ho).1 h1 h2
      omega
    · simp
  · have n1 := nd_le r.nd (ys := nmsO os) fun x hx => by
      obtain ⟨l, hl, rfl⟩ := List.mem_map.mp hx
      exact (links_names (ringL_mem.mp (r.sub l hl)).1).1
    rw [List.length_map] at n1
    have := nms_len h
    omega
theorem ring_at {os : List Ord} (h : OrdsOk os) {ring : List Lnk} (r : RingOk (ringL os) ring) {k : Nat} {l : Lnk} (hk : ring[k]? = some l) :
    ∃ l' o i, ring[(k + 1) % ring.length]? = some l' ∧ os[l.2.2]? = some o ∧ posS l.1 o.2 = some i ∧ posS l'.1 o.2 = some (i + 1) := by
  have kl := (List.getElem?_eq_some_iff.mp hk).1
  obtain ⟨l', e1, e2⟩ : ∃ l', ring[(k + 1) % ring.length]? = some l' ∧ l.2.1 = l'.1 := by
    by_cases c : k + 1 < ring.length
    · rw [Nat.mod_eq_of_lt c]
      exact ⟨ring[k + 1], by simp [c], r.chain k l _ hk (by simp [c])⟩
    · have ek : k + 1 = ring.length := by omega
      rw [ek, Nat.mod_self]
      refine ⟨ring[0]'(by omega), by simp, r.back _ _ (by rw [List.head?_eq_getElem?]; simp) ?_⟩
      rw [List.getLast?_eq_getElem?, ← hk]
      congr 1
      omega
  have lm := (ringL_mem.mp (r.sub l (List.mem_of_getElem? hk))).1
  obtain ⟨o, ho, eo, hp⟩ := links_mem lm
  unfold prs at hp
  obtain ⟨i, hi⟩ := List.mem_iff_getElem?.mp hp
  rw [List.getElem?_zip_eq_some] at hi
  have h2 : o.2[i + 1]? = some l.2.1 := by rw [← List.getElem?_tail]; exact hi.2
  exact ⟨l', o, i, e1, eo, posS_nd (h.2 o ho).1 hi.1, by rw [← e2]; exact posS_nd (h.2 o ho).1 h2⟩
theorem notIn_lst {zs : List Str} {x : Str} (h : x ∈ zs) (G : GH) : dNotIn (.str x) (.lst (zs.map .str)) G = .ok (.bl false) G := by
  have a := dIn_strs zs x G
  rw [decide_eq_true h] at a
  unfold dIn at a
  unfold dNotIn
  cases q : inD G (.str x) (.lst (zs.map .str)) with
  | none => rw [q] at a; cases a
  | some b =>
    rw [q] at a
    have : b = true := by cases a; rfl
    rw [this]
    rfl
abbrev encS (l : Lnk) : D := .tup [.str l.1, .int (l.2.2 : Nat)]
noncomputable def F_isr : List D → GH → R D := defF ["_law_orders_here", "_law_ring", "_law_step", "_law_names_here", "_law_k", "_law_one", "_law_name", "_law_other"] b__law_is_ring
theorem m_isr {os : List Ord} (h : OrdsOk os) {ring : List Lnk} (r : RingOk (ringL os) ring) {G : GH} {n : Nat} (hg : G[n]? = some (.lst (encR ring))) : F_isr [.lst (os.map encO), .ref n] G = .ok (.bl true) G := by
  obtain ⟨l2, l1600⟩ := ring_len h r
  have hg : G[n]? = some (.lst (ring.map encS)) := hg
  have dl := dLen_ref _ _ hg
  have w : (F_isr [.lst (os.map encO), .ref n] G).wp (fun d G' => d = .bl true ∧ G' = G) noX := by
    unfold F_isr b__law_is_ring
    and_intros
    have c1 : ¬ ((ring.length : Int) < 2) := by omega
    exists hg, dl, List.length_map, c1
    rw [w_sFor, sp_thn]
    exists itsD_ref, lstIts_cell hg, hg
    refine for_inv encS ring (fun pre δ G2 => G2 = G ∧ ∃ a, δ = [some (.lst (os.map encO)), some (.ref n), a, none, none, none, none, none]) ⟨rfl, _, rfl⟩ (fun pre x post δ G2 e ⟨e2, a, e1⟩ => ?_) fun δ G2 ⟨e2, a, e1⟩ => ?_
    · subst e1 e2
      obtain ⟨o, _, eo, _⟩ := links_mem (ringL_mem.mp (r.sub x (by rw [e]; simp))).1
      have lo : x.2.2 < os.length := (List.getElem?_eq_some_iff.mp eo).1
      have c2 : (0 : Int) ≤ (x.2.2 : Int) := by omega
      have c3 : ((x.2.2 : Nat) : Int) < (os.length : Int) := by omega
      exists List.length_map, c2, c3, hg
      exact ⟨_, rfl⟩
    · subst e1 e2
      exists itsD_ref, lstIts_cell hg, hg
      refine lc_pure encS ring (fun _ => true) (fun l => .str l.1) (Nat.le_trans l1600 (by decide)) (by simpa using hg) (fun x hx => ?_) ?_
      · exists nilL
        exact fun _ => trivial
      · rw [show ring.filter (fun _ => true) = ring by simp]
        have es : ring.map (fun l => D.str l.1) = (ring.map (·.1)).map D.str := by rw [List.map_map]; rfl
        rw [es]
        have sq : ∀ G, seqD G (.lst ((ring.map (·.1)).map D.str)) = some ((ring.map (·.1)).map D.str) := fun _ => rfl
        have lt4 : ring.length < 4000 := by omega
        have c4 : ¬ ((ring.length : Int) < (ring.length : Int)) := by omega
        exists sq, Option.bind_some, met_nodup r.nd, List.length_map, lt4, c4
        rw [w_sFor, sp_thn, w_iRg1, wp_bind]
        have ea : aCons (eCB (one dLen) (aCons (eVar 1) aNil)) aNil [some (.lst (os.map encO)), some (.ref n), a, some (.lst ((ring.map (·.1)).map D.str)), none, none, none, none] G2 = .ok [.int (ring.length : Int)] G2 := by
          simp [dl]
        rw [ea, wp_ok, rng1K_nat (by omega), wp_ok, if_pos (show (rngIts 0 ring.length).chk G2 = true from rfl), rngIts_items]
        refine for_inv (fun i : Nat => D.int (0 + (i : Nat))) (List.range ring.length) (fun pre δ G3 => G3 = G2 ∧ ∃ b c d e, δ = [some (.lst (os.map encO)), some (.ref n), a, some (.lst ((ring.map (·.1)).map D.str)), b, c, d, e]) ⟨rfl, _, _, _, _, rfl⟩ (fun pre x post δ G3 e ⟨e2, b, c, d, e', e1⟩ => ?_) fun δ G3 ⟨e2, b, c, d, e', e1⟩ => ?_
        · subst e1 e2
          have xl : x < ring.length := by
            have : x ∈ List.range ring.length := by rw [e]; simp
            simpa using this
          have xe : ring[x]? = some ring[x] := by simp [xl]
          obtain ⟨l', o, i, f1, f2, f3, f4⟩ := ring_at h r xe
          generalize hl : ring[x] = l at *
          have dx1 : dIx (.ref n) (.int (0 + (x : Int))) G3 = .ok (encS l) G3 := by
            rw [dIx_ref _ _ _ hg, Int.zero_add, atI_nat2, List.getElem?_map, xe]
            rfl
          have dx2 : ∀ G, dIx (.lst (os.map encO)) (.int ((l.2.2 : Nat) : Int)) G = .ok (encO o) G := fun G => by
            rw [dIx_lst, atI_nat2, List.getElem?_map, f2]
            rfl
          have dx3 : ∀ G, dIx (.lst ((ring.map (·.1)).map D.str)) (.int (0 + (x : Int))) G = .ok (.str l.1) G := fun G => by
            rw [dIx_lst, Int.zero_add, atI_nat2, List.getElem?_map, List.getElem?_map, xe]
            rfl
          have dx4 : ∀ G, dIx (.lst ((ring.map (·.1)).map D.str)) (.int (((x + 1) % ring.length : Nat) : Int)) G = .ok (.str l'.1) G := fun G => by
            rw [dIx_lst, atI_nat2, List.getElem?_map, List.getElem?_map, f1]
            rfl
          have dm : ∀ G, dMod (.int (0 + (x : Int) + 1)) (.int (ring.length : Int)) G = .ok (.int (((x + 1) % ring.length : Nat) : Int)) G := fun G => by
            show (if decide ((0 : Int) < (ring.length : Int)) = true then R.ok (D.int ((0 + (x : Int) + 1) % (ring.length : Int))) G else .no) = _
            rw [if_pos (decide_eq_true (by omega)), Int.zero_add]
            rfl
          have dlo : ∀ G, dList mkF (encO o) G = .ok (.lst (o.2.map .str)) G := fun G => by
            obtain ⟨k, xs⟩ := o
            cases k <;> rfl
          have ni1 : ∀ G, dNotIn (.str l.1) (.lst (o.2.map .str)) G = .ok (.bl false) G := fun G => notIn_lst (posS_mem f3) G
          have ni2 : ∀ G, dNotIn (.str l'.1) (.lst (o.2.map .str)) G = .ok (.bl false) G := fun G => notIn_lst (posS_mem f4) G
          have ix1 := mIdxS_lst f3 G3
          have ix2 := mIdxS_lst f4 G3
          have c5 : ¬ (((i + 1 : Nat) : Int) ≤ ((i : Nat) : Int)) := by omega
          exists dx1, dx2, dx3, dx4, dm, dlo, ni1, ni2, ix1, ix2, c5, dl, List.length_map, tyM_lst
          exact ⟨_, _, _, _, rfl⟩
        · subst e1 e2
          exists nilL
  obtain ⟨d, G', e, rfl, rfl⟩ := R.wp_ex_iff.mp w
  exact e
end OA
end CF
end
section
set_option maxRecDepth 100000
set_option maxHeartbeats 4000000
namespace CF
namespace OA
open PySem PySem.Spec PyProof.Rows L2 
local macro_rules
  | `(tactic| exists $es,*) => `(tactic| simp (disch := first | assumption | omega | (simp only [List.length_set, List.length_append, List.length_cons, List.length_nil]; omega)) only [↓wp_ok, ↓wp_ex, ↓wp_bind, ↓wp_guard, ↓wp_nox, ↓sp_nx, ↓sp_rt, ↓sp_bk, ↓sp_ct, ↓sp_ex, ↓sp_seq, ↓sp_thn, ↓sp_guard,
      ↓w_eC, ↓w_eVar, ↓w_aNil, ↓w_aCons, ↓w_eTup, ↓w_eTupP, ↓w_eLst, ↓w_eLstM, ↓w_eOp, ↓w_eChain, ↓w_asB, ↓w_tAnd, ↓w_tOr, ↓w_tNot, ↓w_eTru, ↓w_eIf, ↓w_sNext, ↓w_sSeq, ↓w_sRet, ↓w_sRetN, ↓w_sIf, ↓w_sSet, ↓w_sDrop, ↓w_sBreak, ↓w_sCont, ↓w_gNm, ↓w_gsNil, ↓w_gsCons, ↓w_gTp, ↓w_sAsg, ↓w_eOne, ↓w_eUn, ↓w_eCB, ↓w_one, ↓w_eCall, ↓w_eAnd, ↓w_eOr, ↓w_eNot, ↓w_iSeq, ↓w_eLc, ↓w_mkF, ↓w_mkM, ↓w_tYes, ↓w_eMt, ↓w_eMt0, ↓w_iRg1, ↓w_sPut, ↓w_gPut, ↓w_sPar2, ↓w_sPar3, ↓w_sAugD, ↓w_eDict0, ↓w_mkKF, ↓w_mkKM, ↓w_eRev, ↓w_eGet2, ↓w_eLenSet2, ↓w_iEn, ↓w_iZp, ↓w_eCm, ↓w_cmDn, ↓w_cmDc, ↓w_emLd, ↓w_emKd, keyD_str, keyD_int, dKOf_dK, dKOf_ref, celL_ref, celD_ref, lstIts_lst, tupIts_tup, tupIts_pt, tupIts_lst, tupIts_scr, tupIts_ref, strsOf_map,
      wipeD_nil, wipeD_cons, List.cons_append, List.nil_append, List.append_nil, ap_setI, eSl_ap, eOpt_none, eOpt_some,
      List.getElem?_cons_zero, List.getElem?_cons_succ, List.set_cons_zero, List.set_cons_succ, List.length_cons, List.length_nil, List.length_set, Nat.zero_add, Nat.reduceAdd, Nat.reduceSub, Nat.add_one_sub_one, List.length_append,
      itsD_tup, itsD_pt, itsD_lst, itsD_scr, dIx_tup, dIx_pt, dIx_lst, dIx_scr, atI_0, atI_1, atI_2, dAdd_int, dAdd_tup, dAdd_pt, dAdd_lst, dAdd_str, dInt_int, dInt_bl, dStr_int, dStr_str, dIsi_ap, dLen_lst, dLen_tup, dLen_pt, dLen_scr, dIsN_non, dNotN_non, dNeg_ap, dIB_ap, dI_ap,
      dEq_int, dNe_int, truD_bl, truD_non, truD_int, dSl_tup, dSl_pt, dSl_lst, dSl_scr, dTupP_lst, decide_true, decide_false, if_true, if_false, Bool.false_eq_true, Bool.not_true, Bool.not_false, eq_self, true_and, and_true, sz_le, sz_lt, rngIts_items, rngIts_chk, beq_self_eq_true, R.bind_ok, R.nox_ok, tyM_ref, mAppend_ref, mExtend_ref, ge1, ge2a, ge2b, ge3a, ge3b, ge3c, ge3d, st1, st2a, st2b, st3a, st3b, st3c, st3d, tyN, Bool.and_self, Bool.and_true, Bool.true_and, Bool.and_false, Bool.false_and, Bool.or_true, Bool.true_or, Bool.or_false, Bool.false_or, Int.reduceLT, Int.reduceLE, Int.reduceGT, Int.reduceNeg, Int.reduceAdd, Int.reduceSub, Int.reduceBEq, Int.reduceBNe, Int.reduceEq, Int.reduceToNat, Nat.reduceEqDiff, Nat.reduceLeDiff, reduceCtorEq, Int.natCast_zero, Int.cast_ofNat_Int, Int.lt_irrefl, List.map_nil, decide_eq_true_eq,
      isi_NoneType_int, isi_NoneType_str, isi_NoneType_bool, isi_NoneType_tuple, isi_NoneType_list, isi_NoneType_dict, isi_bool_int, isi_bool_str, isi_bool_bool, isi_bool_tuple, isi_bool_list, isi_bool_dict, isi_int_int, isi_int_str, isi_int_bool, isi_int_tuple, isi_int_list, isi_int_dict, isi_str_int, isi_str_str, isi_str_bool, isi_str_tuple, isi_str_list, isi_str_dict, isi_tuple_int, isi_tuple_str, isi_tuple_bool, isi_tuple_tuple, isi_tuple_list, isi_tuple_dict, isi_list_int, isi_list_str, isi_list_bool, isi_list_tuple, isi_list_list, isi_list_dict, isi_dict_int, isi_dict_str, isi_dict_bool, isi_dict_tuple, isi_dict_list, isi_dict_dict, $[$es:term],*])
  | `(tactic| and_intros) => `(tactic| (rw [wp_def]; simp only [startD, List.map_cons, List.map_nil, List.length_cons, List.length_nil, Nat.zero_add, Nat.reduceAdd, Nat.reduceSub, List.replicate, List.cons_append, List.nil_append]))
/-! ### repr of what is small -/
/-- small data: repr of it is short -/
structure Sm (W : Nat) (q : PyData) : Prop where
  sh : q.showable = true
  dp : q.depth ≤ 60
  cl : q.canLay0 = true
  sm : q.intsShort 64 = true
  wt : q.weight ≤ W
theorem repr2_ok {G : GH} {d : D} {q : PyData} (e : (rsv G 3 d).py = some q) (h : Sm 100000 q) : dRepr2 d G = .ok (.str q.shown) G := by
  have l := PyData.shown_le 64 (by decide) q (PyData.leavesShort_of_canLay0 64 q h.cl h.sm)
  have l2 : q.shown.length ≤ sizeLine := by
    have := h.wt
    rw [sizeLine_eq]
    omega
  unfold dRepr2
  rw [e]
  exact if_pos ⟨h.sh, h.dp, l2⟩
theorem sm_strs {xs : List Str} (hs : ∀ x ∈ xs, PyData.strOk x = true ∧ x.length ≤ 8) : PyData.showableAll (xs.map .str) = true ∧ PyData.canLayAll0 (xs.map .str) = true ∧ PyData.intsShortAll 64 (xs.map .str) = true ∧ PyData.weightAll (xs.map .str) ≤ 9 * xs.length := by
  induction xs with
  | nil => exact ⟨rfl, rfl, rfl, Nat.zero_le _⟩
  | cons x r ih =>
    obtain ⟨a, b, c, d⟩ := ih fun y hy => hs y (List.mem_cons_of_mem _ hy)
    obtain ⟨h1, h2⟩ := hs x (List.mem_cons_self ..)
    have h2 : x.cps.size ≤ 8 := h2
    refine ⟨?_, ?_, ?_, ?_⟩
    · rw [List.map_cons, PyData.showableAll, PyData.showable, a]; rfl
    · rw [List.map_cons, PyData.canLayAll0, PyData.canLay0, b, h1]; rfl
    · rw [List.map_cons, PyData.intsShortAll, PyData.intsShort, c]; rfl
    · rw [List.map_cons, PyData.weightAll, PyData.weight, List.length_cons]; omega
/-- an order as data -/
def pyO : Ord → PyData
  | (true, xs) => .list (xs.map .str)
  | (false, xs) => .tuple (xs.map .str)
theorem rsv_str (G : GH) (n : Nat) (x : Str) : rsv G n (.str x) = .str x := by cases n <;> rfl
theorem rsv_strs (G : GH) (n : Nat) (xs : List Str) : (xs.map D.str).map (rsv G n) = xs.map D.str := by
  rw [List.map_map]
  exact List.map_congr_left fun x _ => rsv_str G n x
theorem rsv_ord (G : GH) (n : Nat) (o : Ord) : rsv G (n + 1) (encO o) = encO o := by
  obtain ⟨k, xs⟩ := o
  cases k <;> (unfold encO; rw [rsv]; simp only [rsv_strs])
theorem py_ord {o : Ord} (h : ∀ x ∈ o.2, PyData.strOk x = true) : (encO o).py = some (pyO o) := by
  obtain ⟨k, xs⟩ := o
  cases k <;> (unfold encO pyO; rw [D.py, pyAll_strs h])
theorem py_ords {os : List Ord} (h : ∀ o ∈ os, ∀ x ∈ o.2, PyData.strOk x = true) : D.pyAll (os.map encO) = some (os.map pyO) := by
  induction os with
  | nil => rfl
  | cons o r ih => rw [List.map_cons, D.pyAll, py_ord (h o (List.mem_cons_self ..)), ih fun p hp => h p (List.mem_cons_of_mem _ hp)]; rfl
theorem nm_len {x : Str} (h : nmOk x = true) : x.length ≤ 8 := by
  unfold nmOk at h
  exact of_decide_eq_true (Bool.and_eq_true_iff.mp (Bool.and_eq_true_iff.mp h).1).2
theorem sm_ord {o : Ord} (h : OrdOk o) : (pyO o).showable = true ∧ (pyO o).depth ≤ 1 ∧ (pyO o).canLay0 = true ∧ (pyO o).intsShort 64 = true ∧ (pyO o).weight ≤ 360 := by
  obtain ⟨a, b, c, d⟩ := sm_strs (xs := o.2) fun x hx => ⟨(h.2.2 x hx).2, nm_len (h.2.2 x hx).1⟩
  have l := h.2.1
  have e : PyData.depthAll (o.2.map .str) = 0 := depth_strs _
  obtain ⟨k, xs⟩ := o
  have l : xs.length ≤ 40 := l
  have d : PyData.weightAll (xs.map .str) ≤ 9 * xs.length := d
  cases k
  all_goals
    refine ⟨?_, ?_, ?_, ?_, ?_⟩
    · unfold pyO; rw [PyData.showable]; exact a
    · unfold pyO; rw [PyData.depth]; have e : PyData.depthAll (xs.map .str) = 0 := e; omega
    · unfold pyO; rw [PyData.canLay0]; exact b
    · unfold pyO; rw [PyData.intsShort]; exact c
    · unfold pyO; rw [PyData.weight]; omega
theorem sm_ords {os : List Ord} (h : OrdsOk os) : Sm 100000 (.list (os.map pyO)) := by
  have key : ∀ os : List Ord, (∀ o ∈ os, OrdOk o) → PyData.showableAll (os.map pyO) = true ∧ PyData.depthAll (os.map pyO) ≤ 1 ∧ PyData.canLayAll0 (os.map pyO) = true ∧ PyData.intsShortAll 64 (os.map pyO) = true ∧ PyData.weightAll (os.map pyO) ≤ 361 * os.length := by
    intro os ho
    induction os with
    | nil => exact ⟨rfl, Nat.zero_le _, rfl, rfl, Nat.zero_le _⟩
    | cons o r ih =>
      obtain ⟨a, b, c, d, e⟩ := ih fun p hp => ho p (List.mem_cons_of_mem _ hp)
      obtain ⟨a1, b1, c1, d1, e1⟩ := sm_ord (ho o (List.mem_cons_self ..))
      refine ⟨?_, ?_, ?_, ?_, ?_⟩
      · rw [List.map_cons, PyData.showableAll, a, a1]; rfl
      · rw [List.map_cons, PyData.depthAll]; omega
      · rw [List.map_cons, PyData.canLayAll0, c, c1]; rfl
      · rw [List.map_cons, PyData.intsShortAll, d, d1]; rfl
      · rw [List.map_cons, PyData.weightAll, List.length_cons]; omega
  obtain ⟨a, b, c, d, e⟩ := key os h.2
  have l := h.1
  refine ⟨?_, ?_, ?_, ?_, ?_⟩
  · rw [PyData.showable]; exact a
  · rw [PyData.depth]; omega
  · rw [PyData.canLay0]; exact c
  · rw [PyData.intsShort]; exact d
  · rw [PyData.weight]; omega
theorem rep_ords {os : List Ord} (h : OrdsOk os) (G : GH) : dRepr2 (.lst (os.map encO)) G = .ok (.str (PyData.list (os.map pyO)).shown) G := by
  refine repr2_ok ?_ (sm_ords h)
  rw [rsv]
  have e : (os.map encO).map (rsv G 2) = os.map encO := by
    rw [List.map_map]
    exact List.map_congr_left fun o _ => rsv_ord G 1 o
  rw [e, D.py, py_ords fun o ho x hx => ((h.2 o ho).2.2 x hx).2]
end OA
end CF
end
section
set_option maxRecDepth 100000
set_option maxHeartbeats 4000000
namespace CF
namespace OA
open PySem PySem.Spec PyProof.Rows L2 
local macro_rules
  | `(tactic| exists $es,*) => `(tactic| simp (disch := first | assumption | omega | (simp only [List.length_set, List.length_append, List.length_cons, List.length_nil]; omega)) only [↓wp_ok, ↓wp_ex, ↓wp_bind, ↓wp_guard, ↓wp_nox, ↓sp_nx, ↓sp_rt, ↓sp_bk, ↓sp_ct, ↓sp_ex, ↓sp_seq, ↓sp_thn, ↓sp_guard,
      ↓w_eC, ↓w_eVar, ↓w_aNil, ↓w_aCons, ↓w_eTup, ↓w_eTupP, ↓w_eLst, ↓w_eLstM, ↓w_eOp, ↓w_eChain, ↓w_asB, ↓w_tAnd, ↓w_tOr, ↓w_tNot, ↓w_eTru, ↓w_eIf, ↓w_sNext, ↓w_sSeq, ↓w_sRet, ↓w_sRetN, ↓w_sIf, ↓w_sSet, ↓w_sDrop, ↓w_sBreak, ↓w_sCont, ↓w_gNm, ↓w_gsNil, ↓w_gsCons, ↓w_gTp, ↓w_sAsg, ↓w_eOne, ↓w_eUn, ↓w_eCB, ↓w_one, ↓w_eCall, ↓w_eAnd, ↓w_eOr, ↓w_eNot, ↓w_iSeq, ↓w_eLc, ↓w_mkF, ↓w_mkM, ↓w_tYes, ↓w_eMt, ↓w_eMt0, ↓w_iRg1, ↓w_sPut, ↓w_gPut, ↓w_sPar2, ↓w_sPar3, ↓w_sAugD, ↓w_eDict0, ↓w_mkKF, ↓w_mkKM, ↓w_eRev, ↓w_eGet2, ↓w_eLenSet2, ↓w_iEn, ↓w_iZp, ↓w_eCm, ↓w_cmDn, ↓w_cmDc, ↓w_emLd, ↓w_emKd, keyD_str, keyD_int, dKOf_dK, dKOf_ref, celL_ref, celD_ref, lstIts_lst, tupIts_tup, tupIts_pt, tupIts_lst, tupIts_scr, tupIts_ref, strsOf_map,
      wipeD_nil, wipeD_cons, List.cons_append, List.nil_append, List.append_nil, ap_setI, eSl_ap, eOpt_none, eOpt_some,
      List.getElem?_cons_zero, List.getElem?_cons_succ, List.set_cons_zero, List.set_cons_succ, List.length_cons, List.length_nil, List.length_set, Nat.zero_add, Nat.reduceAdd, Nat.reduceSub, Nat.add_one_sub_one, List.length_append,
      itsD_tup, itsD_pt, itsD_lst, itsD_scr, dIx_tup, dIx_pt, dIx_lst, dIx_scr, atI_0, atI_1, atI_2, dAdd_int, dAdd_tup, dAdd_pt, dAdd_lst, dAdd_str, dInt_int, dInt_bl, dStr_int, dStr_str, dIsi_ap, dLen_lst, dLen_tup, dLen_pt, dLen_scr, dIsN_non, dNotN_non, dNeg_ap, dIB_ap, dI_ap,
      dEq_int, dNe_int, truD_bl, truD_non, truD_int, dSl_tup, dSl_pt, dSl_lst, dSl_scr, dTupP_lst, decide_true, decide_false, if_true, if_false, Bool.false_eq_true, Bool.not_true, Bool.not_false, eq_self, true_and, and_true, sz_le, sz_lt, rngIts_items, rngIts_chk, beq_self_eq_true, R.bind_ok, R.nox_ok, tyM_ref, mAppend_ref, mExtend_ref, ge1, ge2a, ge2b, ge3a, ge3b, ge3c, ge3d, st1, st2a, st2b, st3a, st3b, st3c, st3d, tyN, Bool.and_self, Bool.and_true, Bool.true_and, Bool.and_false, Bool.false_and, Bool.or_true, Bool.true_or, Bool.or_false, Bool.false_or, Int.reduceLT, Int.reduceLE, Int.reduceGT, Int.reduceNeg, Int.reduceAdd, Int.reduceSub, Int.reduceBEq, Int.reduceBNe, Int.reduceEq, Int.reduceToNat, Nat.reduceEqDiff, Nat.reduceLeDiff, reduceCtorEq, Int.natCast_zero, Int.cast_ofNat_Int, Int.lt_irrefl, List.map_nil, decide_eq_true_eq,
      isi_NoneType_int, isi_NoneType_str, isi_NoneType_bool, isi_NoneType_tuple, isi_NoneType_list, isi_NoneType_dict, isi_bool_int, isi_bool_str, isi_bool_bool, isi_bool_tuple, isi_bool_list, isi_bool_dict, isi_int_int, isi_int_str, isi_int_bool, isi_int_tuple, isi_int_list, isi_int_dict, isi_str_int, isi_str_str, isi_str_bool, isi_str_tuple, isi_str_list, isi_str_dict, isi_tuple_int, isi_tuple_str, isi_tuple_bool, isi_tuple_tuple, isi_tuple_list, isi_tuple_dict, isi_list_int, isi_list_str, isi_list_bool, isi_list_tuple, isi_list_list, isi_list_dict, isi_dict_int, isi_dict_str, isi_dict_bool, isi_dict_tuple, isi_dict_list, isi_dict_dict, $[$es:term],*])
  | `(tactic| and_intros) => `(tactic| (rw [wp_def]; simp only [startD, List.map_cons, List.map_nil, List.length_cons, List.length_nil, Nat.zero_add, Nat.reduceAdd, Nat.reduceSub, List.replicate, List.cons_append, List.nil_append]))
/-! ### what is told, as data -/
theorem keptP_perm {ls : List Lnk} : ∀ (n : Nat) (left found r : List Str), left.length = n → keptP ls n left found = some r → r.Perm (left ++ found)
  | 0, left, found, r, hl, h => by
    have e : left = [] := List.length_eq_zero_iff.mp hl
    subst e
    have h : some found = some r := h
    cases h
    exact .refl _
  | n + 1, left, found, r, hl, h => by
    rw [keptP_eq] at h
    cases q : left.find? (fun x => cntO ls found x == 0) with
    | none => rw [q] at h; cases h
    | some x =>
      rw [q] at h
      have hx := List.mem_of_find?_eq_some q
      have ih := keptP_perm n (left.erase x) (found ++ [x]) r (by rw [List.length_erase_of_mem hx, hl]; rfl) h
      have p1 := List.perm_cons_erase hx
      have p2 : (left.erase x ++ (found ++ [x])).Perm (left ++ found) := by
        refine (List.Perm.append_left _ (List.perm_append_comm (l₁ := found) (l₂ := [x]))).trans ?_
        exact (List.perm_middle (l₁ := left.erase x) (a := x) (l₂ := found)).trans (List.Perm.append_right found p1.symm)
      exact ih.trans p2
theorem kept_perm {os : List Ord} {ns : List Str} (h : keptO os = some ns) : ns.Perm (nmsO os) := by
  have := keptP_perm _ _ _ _ (sortS_perm (nmsO os)).length_eq h
  rw [List.append_nil] at this
  exact this.trans (sortS_perm _)
def wO : Str := "order"
def wR : Str := "ring"
def pyS (l : Lnk) : PyData := .tuple [.str l.1, .int (l.2.2 : Nat)]
noncomputable def toldQ (os : List Ord) : PyData := match keptO os with
  | some ns => .tuple [.str wO, .list (ns.map .str)]
  | none => .tuple [.str wR, .list ((ringO (ringL os)).map pyS)]
theorem small_int : ∀ i : Nat, i < 40 → (PyData.int (i : Int)).showable = true ∧ (PyData.int (i : Int)).intsShort 64 = true ∧ (PyData.int (i : Int)).weight ≤ 6 := by decide +kernel
theorem nm_names {os : List Ord} (h : OrdsOk os) {x : Str} (hx : x ∈ nmsO os) : PyData.strOk x = true ∧ x.length ≤ 8 := by
  obtain ⟨o, ho, k⟩ := List.mem_flatMap.mp (met_mem.mp hx)
  exact ⟨((h.2 o ho).2.2 x k).2, nm_len ((h.2 o ho).2.2 x k).1⟩
theorem sm_pair {w : Str} {q : List PyData} (hw : PyData.strOk w = true ∧ w.length ≤ 8) (h : PyData.showableAll q = true ∧ PyData.depthAll q ≤ 1 ∧ PyData.canLayAll0 q = true ∧ PyData.intsShortAll 64 q = true ∧ PyData.weightAll q ≤ 90000) : Sm 100000 (.tuple [.str w, .list q]) := by
  obtain ⟨a, b, c, d, e⟩ := h
  have hl : w.cps.size ≤ 8 := hw.2
  refine ⟨?_, ?_, ?_, ?_, ?_⟩
  · simp only [PyData.showable, PyData.showableAll, a, Bool.and_self]
  · simp only [PyData.depth, PyData.depthAll]; omega
  · simp only [PyData.canLay0, PyData.canLayAll0, c, hw.1, Bool.and_self]
  · simp only [PyData.intsShort, PyData.intsShortAll, d, Bool.and_self]
  · simp only [PyData.weight, PyData.weightAll]; omega
theorem sm_told {os : List Ord} (h : OrdsOk os) : Sm 100000 (toldQ os) := by
  unfold toldQ
  cases q : keptO os with
  | some ns =>
    have pm := kept_perm q
    obtain ⟨a, b, c, d⟩ := sm_strs (xs := ns) fun x hx => nm_names h (pm.mem_iff.mp hx)
    have l := pm.length_eq
    have l2 := nms_len h
    exact sm_pair (by decide +kernel) ⟨a, by rw [depth_strs]; omega, b, c, by omega⟩
  | none =>
    dsimp only
    have sub : ∀ l ∈ ringO (ringL os), l ∈ ringL os := by
      obtain ⟨d, G', e, ring, ok, er, _⟩ := R.wp_ex_iff.mp (m_ring (kept_ring q) ringL_closed (Nat.le_trans (List.length_filter_le _ _) (links_len h)) (fun l hl => by
        have := links_names (ringL_mem.mp hl).1
        exact ⟨ord_str h this.1, ord_str h this.2⟩) [])
      rw [← er]
      exact ok.sub
    have len : (ringO (ringL os)).length ≤ 1600 := by
      obtain ⟨d, G', e, ring, ok, er, _⟩ := R.wp_ex_iff.mp (m_ring (kept_ring q) ringL_closed (Nat.le_trans (List.length_filter_le _ _) (links_len h)) (fun l hl => by
        have := links_names (ringL_mem.mp hl).1
        exact ⟨ord_str h this.1, ord_str h this.2⟩) [])
      rw [← er]
      exact (ring_len h ok).2
    generalize ringO (ringL os) = ring at sub len
    refine sm_pair (by decide +kernel) ?_
    have key : PyData.showableAll (ring.map pyS) = true ∧ PyData.depthAll (ring.map pyS) ≤ 1 ∧ PyData.canLayAll0 (ring.map pyS) = true ∧ PyData.intsShortAll 64 (ring.map pyS) = true ∧ PyData.weightAll (ring.map pyS) ≤ 17 * ring.length := by
      clear len
      induction ring with
      | nil => exact ⟨rfl, Nat.zero_le _, rfl, rfl, Nat.zero_le _⟩
      | cons l r ih =>
        obtain ⟨a, b, c, d, e⟩ := ih fun p hp => sub p (List.mem_cons_of_mem _ hp)
        have hl := (ringL_mem.mp (sub l (List.mem_cons_self ..))).1
        obtain ⟨o, _, eo, _⟩ := links_mem hl
        have lt : l.2.2 < 40 := Nat.lt_of_lt_of_le (List.getElem?_eq_some_iff.mp eo).1 h.1
        obtain ⟨i1, i2, i3⟩ := small_int l.2.2 lt
        obtain ⟨s1, s2⟩ := nm_names h (links_names hl).1
        have s2 : l.1.cps.size ≤ 8 := s2
        refine ⟨?_, ?_, ?_, ?_, ?_⟩
        · simp only [List.map_cons, PyData.showableAll, pyS, PyData.showable, a, Bool.and_self, Bool.and_true, Bool.true_and]
          exact i1
        · simp only [List.map_cons, PyData.depthAll, pyS, PyData.depth]; omega
        · simp only [List.map_cons, PyData.canLayAll0, pyS, PyData.canLay0, c, s1, Bool.and_self]
        · simp only [List.map_cons, PyData.intsShortAll, pyS, PyData.intsShort, d, Bool.and_self, Bool.and_true, Bool.true_and]
          exact i2
        · simp only [List.map_cons, PyData.weightAll, pyS, List.length_cons]
          rw [PyData.weight]
          simp only [PyData.weightAll]
          rw [PyData.weight]
          omega
    exact ⟨key.1, key.2.1, key.2.2.1, key.2.2.2.1, by have := key.2.2.2.2; omega⟩
theorem py_ring {ring : List Lnk} (h : ∀ l ∈ ring, PyData.strOk l.1 = true) : D.pyAll (encR ring) = some (ring.map pyS) := by
  induction ring with
  | nil => rfl
  | cons l r ih =>
    have ih := ih fun p hp => h p (List.mem_cons_of_mem _ hp)
    unfold encR at ih ⊢
    rw [List.map_cons, D.pyAll, ih]
    simp only [D.py, D.pyAll, h l (List.mem_cons_self ..), if_true]
    rfl
theorem rsv_ring (G : GH) (n : Nat) (ring : List Lnk) : (encR ring).map (rsv G (n + 1)) = encR ring := by
  unfold encR
  rw [List.map_map]
  refine List.map_congr_left fun l _ => ?_
  show rsv G (n + 1) (.tup [.str l.1, .int (l.2.2 : Nat)]) = _
  rw [rsv]
  simp only [List.map_cons, List.map_nil, rsv_str]
  cases n <;> rfl
theorem py_told {os : List Ord} (h : OrdsOk os) {G G' : GH} {d : D} (l : Least os G d G') : (rsv G' 3 d).py = some (toldQ os) := by
  obtain ⟨_, k, _, l⟩ := l
  unfold toldQ
  cases q : keptO os with
  | some ns =>
    rw [q] at l
    obtain ⟨rfl, g⟩ := l
    have pm := kept_perm q
    have e : rsv G' 3 (.tup [.str "order", .ref k]) = .tup [.str "order", .lst (ns.map .str)] := by
      rw [rsv]
      simp only [List.map_cons, List.map_nil, rsv_str]
      rw [rsv, g]
      simp only [rsv_strs]
    rw [e, D.py, D.pyAll, D.pyAll, D.pyAll, D.py, D.py, pyAll_strs fun x hx => (nm_names h (pm.mem_iff.mp hx)).1]
    rw [if_pos (by decide +kernel)]
    rfl
  | none =>
    rw [q] at l
    obtain ⟨ring, ok, er, rfl, g⟩ := l
    have e : rsv G' 3 (.tup [.str "ring", .ref k]) = .tup [.str "ring", .lst (encR ring)] := by
      rw [rsv]
      simp only [List.map_cons, List.map_nil, rsv_str]
      rw [rsv, g]
      simp only [rsv_ring]
    rw [e, D.py, D.pyAll, D.pyAll, D.pyAll, D.py, D.py, py_ring fun l hl => (nm_names h (links_names (ringL_mem.mp (ok.sub l hl)).1).1).1]
    rw [if_pos (by decide +kernel), er]
    rfl
theorem rep_told {os : List Ord} (h : OrdsOk os) {G G' : GH} {d : D} (l : Least os G d G') : dRepr2 d G' = .ok (.str (toldQ os).shown) G' := repr2_ok (py_told h l) (sm_told h)
end OA
end CF
end
section
set_option maxRecDepth 100000
set_option maxHeartbeats 4000000
namespace CF
namespace OA
open PySem PySem.Spec PyProof.Rows L2 
local macro_rules
  | `(tactic| exists $es,*) => `(tactic| simp (disch := first | assumption | omega | (simp only [List.length_set, List.length_append, List.length_cons, List.length_nil]; omega)) only [↓wp_ok, ↓wp_ex, ↓wp_bind, ↓wp_guard, ↓wp_nox, ↓sp_nx, ↓sp_rt, ↓sp_bk, ↓sp_ct, ↓sp_ex, ↓sp_seq, ↓sp_thn, ↓sp_guard,
      ↓w_eC, ↓w_eVar, ↓w_aNil, ↓w_aCons, ↓w_eTup, ↓w_eTupP, ↓w_eLst, ↓w_eLstM, ↓w_eOp, ↓w_eChain, ↓w_asB, ↓w_tAnd, ↓w_tOr, ↓w_tNot, ↓w_eTru, ↓w_eIf, ↓w_sNext, ↓w_sSeq, ↓w_sRet, ↓w_sRetN, ↓w_sIf, ↓w_sSet, ↓w_sDrop, ↓w_sBreak, ↓w_sCont, ↓w_gNm, ↓w_gsNil, ↓w_gsCons, ↓w_gTp, ↓w_sAsg, ↓w_eOne, ↓w_eUn, ↓w_eCB, ↓w_one, ↓w_eCall, ↓w_eAnd, ↓w_eOr, ↓w_eNot, ↓w_iSeq, ↓w_eLc, ↓w_mkF, ↓w_mkM, ↓w_tYes, ↓w_eMt, ↓w_eMt0, ↓w_iRg1, ↓w_sPut, ↓w_gPut, ↓w_sPar2, ↓w_sPar3, ↓w_sAugD, ↓w_eDict0, ↓w_mkKF, ↓w_mkKM, ↓w_eRev, ↓w_eGet2, ↓w_eLenSet2, ↓w_iEn, ↓w_iZp, ↓w_eCm, ↓w_cmDn, ↓w_cmDc, ↓w_emLd, ↓w_emKd, keyD_str, keyD_int, dKOf_dK, dKOf_ref, celL_ref, celD_ref, lstIts_lst, tupIts_tup, dEqT_str, dNeT_str, tupIts_pt, tupIts_lst, tupIts_scr, tupIts_ref, strsOf_map,
      wipeD_nil, wipeD_cons, List.cons_append, List.nil_append, List.append_nil, ap_setI, eSl_ap, eOpt_none, eOpt_some,
      List.getElem?_cons_zero, List.getElem?_cons_succ, List.set_cons_zero, List.set_cons_succ, List.length_cons, List.length_nil, List.length_set, Nat.zero_add, Nat.reduceAdd, Nat.reduceSub, Nat.add_one_sub_one, List.length_append,
      itsD_tup, itsD_pt, itsD_lst, itsD_scr, dIx_tup, dIx_pt, dIx_lst, dIx_scr, atI_0, atI_1, atI_2, dAdd_int, dAdd_tup, dAdd_pt, dAdd_lst, dAdd_str, dInt_int, dInt_bl, dStr_int, dStr_str, dIsi_ap, dLen_lst, dLen_tup, dLen_pt, dLen_scr, dIsN_non, dNotN_non, dNeg_ap, dIB_ap, dI_ap,
      dEq_int, dNe_int, truD_bl, truD_non, truD_int, dSl_tup, dSl_pt, dSl_lst, dSl_scr, dTupP_lst, decide_true, decide_false, if_true, if_false, Bool.false_eq_true, Bool.not_true, Bool.not_false, eq_self, true_and, and_true, sz_le, sz_lt, rngIts_items, rngIts_chk, beq_self_eq_true, R.bind_ok, R.nox_ok, tyM_ref, mAppend_ref, mExtend_ref, ge1, ge2a, ge2b, ge3a, ge3b, ge3c, ge3d, st1, st2a, st2b, st3a, st3b, st3c, st3d, tyN, Bool.and_self, Bool.and_true, Bool.true_and, Bool.and_false, Bool.false_and, Bool.or_true, Bool.true_or, Bool.or_false, Bool.false_or, Int.reduceLT, Int.reduceLE, Int.reduceGT, Int.reduceNeg, Int.reduceAdd, Int.reduceSub, Int.reduceBEq, Int.reduceBNe, Int.reduceEq, Int.reduceToNat, Nat.reduceEqDiff, Nat.reduceLeDiff, reduceCtorEq, Int.natCast_zero, Int.cast_ofNat_Int, Int.lt_irrefl, List.map_nil, decide_eq_true_eq,
      isi_NoneType_int, isi_NoneType_str, isi_NoneType_bool, isi_NoneType_tuple, isi_NoneType_list, isi_NoneType_dict, isi_bool_int, isi_bool_str, isi_bool_bool, isi_bool_tuple, isi_bool_list, isi_bool_dict, isi_int_int, isi_int_str, isi_int_bool, isi_int_tuple, isi_int_list, isi_int_dict, isi_str_int, isi_str_str, isi_str_bool, isi_str_tuple, isi_str_list, isi_str_dict, isi_tuple_int, isi_tuple_str, isi_tuple_bool, isi_tuple_tuple, isi_tuple_list, isi_tuple_dict, isi_list_int, isi_list_str, isi_list_bool, isi_list_tuple, isi_list_list, isi_list_dict, isi_dict_int, isi_dict_str, isi_dict_bool, isi_dict_tuple, isi_dict_list, isi_dict_dict, $[$es:term],*])
  | `(tactic| and_intros) => `(tactic| (rw [wp_def]; simp only [startD, List.map_cons, List.map_nil, List.length_cons, List.length_nil, Nat.zero_add, Nat.reduceAdd, Nat.reduceSub, List.replicate, List.cons_append, List.nil_append]))
/-! ### the law's look at one case -/
theorem rep_due {os : List Ord} {ns : List Str} (h : OrdsOk os) (q : keptO os = some ns) (G : GH) : dRepr2 (.tup [.str "order", .lst (ns.map .str)]) G = .ok (.str (toldQ os).shown) G := by
  refine repr2_ok ?_ (sm_told h)
  have e : rsv G 3 (.tup [.str "order", .lst (ns.map .str)]) = .tup [.str "order", .lst (ns.map .str)] := by
    rw [rsv]
    simp only [List.map_cons, List.map_nil, rsv_str]
    rw [rsv]
    simp only [rsv_strs]
  have pm := kept_perm q
  unfold toldQ
  rw [q]
  rw [e, D.py, D.pyAll, D.pyAll, D.pyAll, D.py, D.py, pyAll_strs fun x hx => (nm_names h (pm.mem_iff.mp hx)).1]
  rw [if_pos (by decide +kernel)]
  rfl
theorem told_rev {os : List Ord} (h : OrdsOk os) {ns : List Str} (q : keptO os = some ns) : toldQ os.reverse = toldQ os := by
  have e : keptO os.reverse = some ns := by rw [kept_least (ordsOk_rev h), least_rev, ← kept_least h, q]
  unfold toldQ
  rw [e, q]
abbrev N_right : List Str := ["_law_orders_here", "_law_original", "_law_told", "_law_due", "_law_kept"]
noncomputable def F_right : List D → GH → R D := defF N_right (b__law_right F_lst F_least F_isr)
theorem tail_of {G X G2 G4 J : GH} {k : Nat} {c : Cell} (lk : G.length ≤ k) (e : G2 = G ++ X) (e4 : G4 = G2.set k c ++ J) : ∃ J, G4 = G ++ J := by
  subst e
  rw [List.set_append_right _ _ lk, List.append_assoc] at e4
  exact ⟨_, e4⟩
theorem isN_lst (xs : List D) : isN (.lst xs) = false := rfl
theorem m_right {os : List Ord} (h : OrdsOk os) (G : GH) : (F_right [.lst (os.map encO)] G).wp (fun d G' => d = .bl true ∧ ∃ J, G' = G ++ J) noX := by
  unfold F_right b__law_right
  and_intros
  have ro := rep_ords h
  exists ro
  refine R.use (m_least h G) fun d G1 l => ?_
  have rt := rep_told h l
  obtain ⟨⟨J, eJ⟩, k, lk, ll⟩ := id l
  cases q : keptO os with
  | some ns =>
    rw [q] at ll
    obtain ⟨rfl, g⟩ := ll
    have ml := m_lst h
    rw [← kept_least h, q] at ml
    have rd := rep_due h q
    have er : (os.map encO).reverse = os.reverse.map encO := List.map_reverse.symm
    exists ml, g, isN_lst, rt, rd, lstOf_lst, er
    refine R.use (m_least (ordsOk_rev h) G1) fun d2 G2 l2 => ?_
    have rt2 := rep_told (ordsOk_rev h) l2
    rw [told_rev h q] at rt2
    obtain ⟨⟨J2, eJ2⟩, _⟩ := id l2
    have kl : k < G1.length := (List.getElem?_eq_some_iff.mp g).1
    have g2 : G2[k]? = some (.lst (ns.map .str)) := by rw [eJ2, List.getElem?_append_left kl]; exact g
    have lw : Least os G (.tup [.str "order", .ref k]) G2 := ⟨⟨J ++ J2, by rw [eJ2, eJ, List.append_assoc]⟩, k, lk, by rw [q]; exact ⟨rfl, g2⟩⟩
    have rt3 := rep_told h lw
    have lz : (List.map D.str ns).length < sizeLine := by
      have := (kept_perm q).length_eq
      have := nms_len h
      rw [List.length_map]; exact sz_lt' (by omega)
    exists isN_lst, rt2, rt3, tyM_ref, g2, mAppend_ap g2 lz
    refine R.use (m_least h _) fun d3 G4 l3 => ?_
    have rt4 := rep_told h l3
    obtain ⟨⟨J3, eJ3⟩, _⟩ := id l3
    exists rt4, ro
    exact tail_of lk (by rw [eJ2, eJ, List.append_assoc]) eJ3
  | none =>
    rw [q] at ll
    obtain ⟨ring, ok, er, rfl, g⟩ := ll
    have ml := m_lst h
    rw [← kept_least h, q] at ml
    have mi := m_isr h ok g
    have nr : ∀ G, dNe (.str "ring") (.str "ring") G = .ok (.bl false) G := fun G => by
      rw [dNe_str G (by decide +kernel) (by decide +kernel)]
      rfl
    have lz : (encR ring).length < sizeLine := by
      have := (ring_len h ok).2
      unfold encR
      rw [List.length_map]; exact sz_lt' (by omega)
    have n0 : isN .non = true := rfl
    exists ml, g, n0, nr, mi, rt, tyM_ref, mAppend_ap g lz
    refine R.use (m_least h _) fun d3 G4 l3 => ?_
    have rt4 := rep_told h l3
    obtain ⟨⟨J3, eJ3⟩, _⟩ := id l3
    exists rt4, ro
    exact tail_of lk eJ eJ3
end OA
end CF
end
section
set_option maxRecDepth 100000
set_option maxHeartbeats 4000000
namespace CF
namespace OA
open PySem PySem.Spec PyProof.Rows L2 
local macro_rules
  | `(tactic| exists $es,*) => `(tactic| simp (disch := first | assumption | omega | (simp only [List.length_set, List.length_append, List.length_cons, List.length_nil]; omega)) only [↓wp_ok, ↓wp_ex, ↓wp_bind, ↓wp_guard, ↓wp_nox, ↓sp_nx, ↓sp_rt, ↓sp_bk, ↓sp_ct, ↓sp_ex, ↓sp_seq, ↓sp_thn, ↓sp_guard,
      ↓w_eC, ↓w_eVar, ↓w_aNil, ↓w_aCons, ↓w_eTup, ↓w_eTupP, ↓w_eLst, ↓w_eLstM, ↓w_eOp, ↓w_eChain, ↓w_asB, ↓w_tAnd, ↓w_tOr, ↓w_tNot, ↓w_eTru, ↓w_eIf, ↓w_sNext, ↓w_sSeq, ↓w_sRet, ↓w_sRetN, ↓w_sIf, ↓w_sSet, ↓w_sDrop, ↓w_sBreak, ↓w_sCont, ↓w_gNm, ↓w_gsNil, ↓w_gsCons, ↓w_gTp, ↓w_sAsg, ↓w_eOne, ↓w_eUn, ↓w_eCB, ↓w_one, ↓w_eCall, ↓w_eAnd, ↓w_eOr, ↓w_eNot, ↓w_iSeq, ↓w_eLc, ↓w_mkF, ↓w_mkM, ↓w_tYes, ↓w_eMt, ↓w_eMt0, ↓w_iRg1, ↓w_sPut, ↓w_gPut, ↓w_sPar2, ↓w_sPar3, ↓w_sAugD, ↓w_eDict0, ↓w_mkKF, ↓w_mkKM, ↓w_eRev, ↓w_eGet2, ↓w_eLenSet2, ↓w_iEn, ↓w_iZp, ↓w_eCm, ↓w_cmDn, ↓w_cmDc, ↓w_emLd, ↓w_emKd, keyD_str, keyD_int, dKOf_dK, dKOf_ref, celL_ref, celD_ref, lstIts_lst, tupIts_tup, dEqT_str, dNeT_str, tupIts_pt, tupIts_lst, tupIts_scr, tupIts_ref, strsOf_map,
      wipeD_nil, wipeD_cons, List.cons_append, List.nil_append, List.append_nil, ap_setI, eSl_ap, eOpt_none, eOpt_some,
      List.getElem?_cons_zero, List.getElem?_cons_succ, List.set_cons_zero, List.set_cons_succ, List.length_cons, List.length_nil, List.length_set, Nat.zero_add, Nat.reduceAdd, Nat.reduceSub, Nat.add_one_sub_one, List.length_append,
      itsD_tup, itsD_pt, itsD_lst, itsD_scr, dIx_tup, dIx_pt, dIx_lst, dIx_scr, atI_0, atI_1, atI_2, dAdd_int, dAdd_tup, dAdd_pt, dAdd_lst, dAdd_str, dInt_int, dInt_bl, dStr_int, dStr_str, dIsi_ap, dLen_lst, dLen_tup, dLen_pt, dLen_scr, dIsN_non, dNotN_non, dNeg_ap, dIB_ap, dI_ap,
      dEq_int, dNe_int, truD_bl, truD_non, truD_int, dSl_tup, dSl_pt, dSl_lst, dSl_scr, dTupP_lst, decide_true, decide_false, if_true, if_false, Bool.false_eq_true, Bool.not_true, Bool.not_false, eq_self, true_and, and_true, sz_le, sz_lt, rngIts_items, rngIts_chk, beq_self_eq_true, R.bind_ok, R.nox_ok, tyM_ref, mAppend_ref, mExtend_ref, ge1, ge2a, ge2b, ge3a, ge3b, ge3c, ge3d, st1, st2a, st2b, st3a, st3b, st3c, st3d, tyN, Bool.and_self, Bool.and_true, Bool.true_and, Bool.and_false, Bool.false_and, Bool.or_true, Bool.true_or, Bool.or_false, Bool.false_or, Int.reduceLT, Int.reduceLE, Int.reduceGT, Int.reduceNeg, Int.reduceAdd, Int.reduceSub, Int.reduceBEq, Int.reduceBNe, Int.reduceEq, Int.reduceToNat, Nat.reduceEqDiff, Nat.reduceLeDiff, reduceCtorEq, Int.natCast_zero, Int.cast_ofNat_Int, Int.lt_irrefl, List.map_nil, decide_eq_true_eq,
      isi_NoneType_int, isi_NoneType_str, isi_NoneType_bool, isi_NoneType_tuple, isi_NoneType_list, isi_NoneType_dict, isi_bool_int, isi_bool_str, isi_bool_bool, isi_bool_tuple, isi_bool_list, isi_bool_dict, isi_int_int, isi_int_str, isi_int_bool, isi_int_tuple, isi_int_list, isi_int_dict, isi_str_int, isi_str_str, isi_str_bool, isi_str_tuple, isi_str_list, isi_str_dict, isi_tuple_int, isi_tuple_str, isi_tuple_bool, isi_tuple_tuple, isi_tuple_list, isi_tuple_dict, isi_list_int, isi_list_str, isi_list_bool, isi_list_tuple, isi_list_list, isi_list_dict, isi_dict_int, isi_dict_str, isi_dict_bool, isi_dict_tuple, isi_dict_list, isi_dict_dict, $[$es:term],*])
  | `(tactic| and_intros) => `(tactic| (rw [wp_def]; simp only [startD, List.map_cons, List.map_nil, List.length_cons, List.length_nil, Nat.zero_add, Nat.reduceAdd, Nat.reduceSub, List.replicate, List.cons_append, List.nil_append]))
/-! ### the law -/
theorem cut_mapD {α β : Type} (f : α → β) (xs : List α) (lo hi : Option Int) : cutD (xs.map f) lo hi = (cutD xs lo hi).map f := by
  unfold cutD
  rw [List.length_map, List.map_take, List.map_drop]
theorem cut_lenD {α : Type} (xs : List α) (lo hi : Option Int) : (cutD xs lo hi).length ≤ xs.length := by
  unfold cutD
  rw [List.length_take, List.length_drop]
  omega
noncomputable def F_at : List D → GH → R D := defF ["_law_script", "_law_k"] b__law_cell_at
theorem m_at (ns : List Int) (G : GH) : F_at [.scr (ns.map D.int), .int 0] G = .ok (.int (ns.getD 0 0)) G := by
  have h : (F_at [.scr (ns.map D.int), .int 0] G).wp (fun d G' => d = .int (ns.getD 0 0) ∧ G' = G) noX := by
    unfold F_at b__law_cell_at
    and_intros
    cases ns with
    | nil =>
      exists List.map_nil
      rfl
    | cons x r =>
      have h : (0 : Int) < (r.length : Int) + 1 := by omega
      exists List.map_cons, List.length_map, Int.natCast_add, h
      rfl
  obtain ⟨d, G', e, rfl, rfl⟩ := R.wp_ex_iff.mp h
  exact e
def cas0 : List (List Ord) := [[], [(true, [])], [(false, []), (true, ["a"])], [(true, ["b", "a"]), (false, ["a", "b"])], [(true, ["z"]), (true, ["a"])]]
def cas1 : List (List Ord) := [[(true, ["a", "b"]), (true, ["b", "c"]), (true, ["c", "a"])]]
theorem cas_ok : ∀ os ∈ cas0 ++ cas1, OrdsOk os := by
  unfold OrdsOk OrdOk
  decide +kernel
abbrev encOs (os : List Ord) : D := .lst (os.map encO)
noncomputable def lit0 : FE := (eLst (aCons (eLst aNil) (aCons (eLst (aCons (eLst aNil) aNil)) (aCons (eLst (aCons (eTup aNil) (aCons (eLst (aCons (eC (.str "a")) aNil)) aNil))) (aCons (eLst (aCons (eLst (aCons (eC (.str "b")) (aCons (eC (.str "a")) aNil))) (aCons (eTup (aCons (eC (.str "a")) (aCons (eC (.str "b")) aNil))) aNil))) (aCons (eLst (aCons (eLst (aCons (eC (.str "z")) aNil)) (aCons (eLst (aCons (eC (.str "a")) aNil)) aNil))) aNil))))))
noncomputable def lit1 : FE := (eLst (aCons (eLst (aCons (eLst (aCons (eC (.str "a")) (aCons (eC (.str "b")) aNil))) (aCons (eLst (aCons (eC (.str "b")) (aCons (eC (.str "c")) aNil))) (aCons (eLst (aCons (eC (.str "c")) (aCons (eC (.str "a")) aNil))) aNil)))) aNil))
theorem lit0_ap (δ : DEnv) (G : GH) : lit0 δ G = .ok (.lst (cas0.map encOs)) G := by
  unfold lit0 cas0
  simp [encO, sizeLine_eq]
theorem lit1_ap (δ : DEnv) (G : GH) : lit1 δ G = .ok (.lst (cas1.map encOs)) G := by
  unfold lit1 cas1
  simp [encO, sizeLine_eq]
abbrev N_law : List Str := ["_law_script", "_law_some_here", "_law_orders_here", "_law_cell"]
noncomputable def F_law : List D → GH → R D := defF N_law (b_law F_right F_at F_ord F_src)
theorem m_law (ns : List Int) (hl : ns.length ≤ 63) : ∃ G', F_law [.scr (ns.map D.int)] [] = .ok (.bl true) G' := by
  have h : (F_law [.scr (ns.map D.int)] []).wp (fun d _ => d = .bl true) noX := by
    unfold F_law b_law
    generalize h0 : (eLst (aCons (eLst aNil) (aCons (eLst (aCons (eLst aNil) aNil)) (aCons (eLst (aCons (eTup aNil) (aCons (eLst (aCons (eC (.str "a")) aNil)) aNil))) (aCons (eLst (aCons (eLst (aCons (eC (.str "b")) (aCons (eC (.str "a")) aNil))) (aCons (eTup (aCons (eC (.str "a")) (aCons (eC (.str "b")) aNil))) aNil))) (aCons (eLst (aCons (eLst (aCons (eC (.str "z")) aNil)) (aCons (eLst (aCons (eC (.str "a")) aNil)) aNil))) aNil)))))) = x0
    generalize h1 : (eLst (aCons (eLst (aCons (eLst (aCons (eC (.str "a")) (aCons (eC (.str "b")) aNil))) (aCons (eLst (aCons (eC (.str "b")) (aCons (eC (.str "c")) aNil))) (aCons (eLst (aCons (eC (.str "c")) (aCons (eC (.str "a")) aNil))) aNil)))) aNil)) = x1
    have h0 : x0 = lit0 := h0.symm
    have h1 : x1 = lit1 := h1.symm
    subst h0 h1
    and_intros
    have ea : cas0.map encOs ++ cas1.map encOs = (cas0 ++ cas1).map encOs := List.map_append.symm
    have la : (cas0.map encOs).length + (cas1.map encOs).length ≤ sizeLine := by
      rw [List.length_map, List.length_map]
      exact Nat.le_of_lt (sz_lt' (by decide))
    exists lit0_ap
    rw [w_sFor, sp_thn]
    exists lit1_ap, la, ea
    refine for_inv encOs (cas0 ++ cas1) (fun pre δ G2 => ∃ a, δ = [some (.scr (ns.map D.int)), some (.lst (cas0.map encOs)), a, none]) ⟨_, rfl⟩ (fun pre os post δ G2 e ⟨a, e1⟩ => ?_) fun δ G2 ⟨a, e1⟩ => ?_
    · subst e1
      exists nilL
      refine R.use (m_right (cas_ok os (by rw [e]; simp)) G2) fun d G3 ⟨hd, _⟩ => ?_
      subst hd
      exists nilL
      exact ⟨_, rfl⟩
    · subst e1
      have ec : ∀ G, dSl mkF (.scr (ns.map D.int)) (some 1) (some 8) G = .ok (.lst ((cutD ns (some 1) (some 8)).map D.int)) G := fun G => by
        rw [dSl_scr, cut_mapD]
        rfl
      have lc := cut_lenD ns (some 1) (some 8)
      have eb : D.int (ns.getD 0 0) :: (cutD ns (some 1) (some 8)).map D.int = (ns.getD 0 0 :: cutD ns (some 1) (some 8)).map D.int := rfl
      rw [w_sSeq, sp_seq, w_sFor, sp_thn]
      exists m_at, ec, List.length_map, eb
      refine for_inv D.int (ns.getD 0 0 :: cutD ns (some 1) (some 8)) (fun pre δ G2 => ∃ a b, δ = [some (.scr (ns.map D.int)), some (.lst (cas0.map encOs)), a, b]) ⟨_, _, rfl⟩ (fun pre z post δ G2 e ⟨a, b, e1⟩ => ?_) fun δ G2 ⟨a, b, e1⟩ => ?_
      · subst e1
        obtain ⟨w, e2, ok⟩ := m_src z G2
        obtain ⟨os, w2, e3, oks, _⟩ := m_ord w G2.length (G2 ++ [w.cell]) 1 7 (ge1 ..) ok (by decide) (by decide)
        have e3 : F_ord [.ref G2.length, .int 7] (G2 ++ [w.cell]) = .ok (.lst (os.map encO)) ((G2 ++ [w.cell]).set G2.length w2.cell) := e3
        exists e2, e3
        refine R.use (m_right oks _) fun d G3 ⟨hd, _⟩ => ?_
        subst hd
        exists nilL
        exact ⟨_, _, rfl⟩
      · subst e1
        exists nilL
  obtain ⟨d, G', e, rfl⟩ := R.wp_ex_iff.mp h
  exact ⟨G', e⟩
end OA
end CF
end
section
set_option maxRecDepth 100000
set_option maxHeartbeats 4000000
namespace CF
namespace K06
open PySem PySem.Spec PyProof.Rows L2 OA
def top (i : Nat) : Stmt := PySem.Challenge.pw_claimfield_k06_whole_least_orders.main.body.getD i (.Pass ⟨0, 0, 0, 0⟩)
/-- what the module's names are -/
structure Top (K : PySem.W.Frag) (mg : Str → Option Value) : Prop where
  z_all : mg "all" = none
  z_any : mg "any" = none
  z_bool : mg "bool" = none
  z_enumerate : mg "enumerate" = none
  z_int : mg "int" = none
  z_isinstance : mg "isinstance" = none
  z_len : mg "len" = none
  z_list : mg "list" = none
  z_range : mg "range" = none
  z_repr : mg "repr" = none
  z_set : mg "set" = none
  z_sorted : mg "sorted" = none
  z_str : mg "str" = none
  z_tuple : mg "tuple" = none
  z_zip : mg "zip" = none
  c_LETTERS : ∃ t, mg "LETTERS" = some (.str "abcdefghijklmnopqrstuvwxyz" t)
  c_MOST_ITEMS : ∃ t, mg "MOST_ITEMS" = some (.int (40) t)
  c_MOST_LETTERS : ∃ t, mg "MOST_LETTERS" = some (.int (8) t)
  c_MOST_ORDERS : ∃ t, mg "MOST_ORDERS" = some (.int (40) t)
/-! is_name -/
abbrev s_is_name : Stmt := top 7
theorem sc_is_name : FnScope ["value", "sign"] ["value"] (defScope s_is_name) := ⟨rfl, rfl, rfl, by decide +kernel, rfl, by decide +kernel, by decide +kernel⟩
theorem ok_is_name {P : Program} {w : World} {K : PySem.W.Frag} {mg : Str → Option Value} {base : Heap} {k : Nat} {f : Addr} {fd : FuncData} (T : Top K mg) (F : FnAt K "is_name" "is_name" s_is_name f fd)
     :
    FnD P w K mg base (k + 1) f fd ["value"] (defF ["value", "sign"] (b_is_name )) :=
  fnD F sc_is_name fun cdv A outer s H E hr gd => by
    have sc := sc_is_name
    have hu := hr.units
    have hu1 := hu_of hr
    exact
      (xs_cons (xs_if (xt_w (xw_or (xt_not (xt_tru (xe_isi (T := "str") (by decide) (by decide +kernel) T.z_isinstance T.z_str (by decide) (by decide) (xv 0)))) (xw_or1 (xt_not (xt_chain L2.op_le o2_intB L2.op_le o2_intB xe_int (xe_len T.z_len (xa_cons (xv 0) xa_nil)) (xe_gint T.c_MOST_LETTERS)))))) (xs_one (xs_ret xe_bl)) xs_nil)
      (xs_one (xs_ret (xe_all rfl T.z_all (xa_cons (xe_lc (own := [("sign", 1)]) mkF_ok rfl sc.nd (xi_seq (xv 0)) (blkOk_by (by kernel_rfl)) (fun _ _ _ _ _ => (xg_name (i := 1) (vs := [1]) sc.nd rfl (by first | exact .inl rfl | exact .inr rfl) (by decide))) (fun _ _ _ _ _ => xts_nil) (fun _ _ _ _ _ => (xe_cmp (opr_in hu1) o2_in (xv 1) (xe_gstr T.c_LETTERS) (by rfl)))) xa_nil)))))
/-! is_order -/
abbrev s_is_order : Stmt := top 11
theorem sc_is_order : FnScope ["value", "item"] ["value"] (defScope s_is_order) := ⟨rfl, rfl, rfl, by decide +kernel, rfl, by decide +kernel, by decide +kernel⟩
theorem ok_is_order {P : Program} {w : World} {K : PySem.W.Frag} {mg : Str → Option Value} {base : Heap} {k : Nat} {f : Addr} {fd : FuncData} (T : Top K mg) (F : FnAt K "is_order" "is_order" s_is_order f fd)
    {a_is_name : Addr} {d_is_name : FuncData} {f_is_name : List D → GH → R D}
    (t_is_name : Tx K mg "is_name" ["value"] [] a_is_name d_is_name)
    (g_is_name : FnD P w K mg base k a_is_name d_is_name ["value"] f_is_name) :
    FnD P w K mg base (k + 1) f fd ["value"] (defF ["value", "item"] (b_is_order f_is_name)) :=
  fnD F sc_is_order fun cdv A outer s H E hr gd => by
    have sc := sc_is_order
    have hu := hr.units
    have hu1 := hu_of hr
    exact
      (xs_cons (xs_if (xt_w (xw_or (xt_not (xt_tru (xe_isiT2 (T := "list") (U := "tuple") (by decide) (by decide) (by decide +kernel) (by decide +kernel) T.z_isinstance T.z_list T.z_tuple (by decide) (by decide) (by decide) (by decide) (xv 0)))) (xw_or1 (xt_not (xt_tru (xe_all rfl T.z_all (xa_cons (xe_lc (own := [("item", 1)]) mkF_ok rfl sc.nd (xi_seq (xv 0)) (blkOk_by (by kernel_rfl)) (fun _ _ _ _ _ => (xg_name (i := 1) (vs := [1]) sc.nd rfl (by first | exact .inl rfl | exact .inr rfl) (by decide))) (fun _ _ _ _ _ => xts_nil) (fun _ _ _ _ _ => (xe_call takes0 hr gd t_is_name g_is_name (fun _ => Reps.nil) rfl (xa_cons (xv 1) xa_nil)))) xa_nil))))))) (xs_one (xs_ret xe_bl)) xs_nil)
      (xs_one (xs_ret (xe_cmp (L2.op_eqD hu) o2_eq (xe_lenSet2 rfl T.z_len T.z_set (xv 0)) (xe_len T.z_len (xa_cons (xv 0) xa_nil)) (by rfl)))))
/-! check_orders -/
abbrev s_check_orders : Stmt := top 12
theorem sc_check_orders : FnScope ["orders", "one"] ["orders"] (defScope s_check_orders) := ⟨rfl, rfl, rfl, by decide +kernel, rfl, by decide +kernel, by decide +kernel⟩
theorem ok_check_orders {P : Program} {w : World} {K : PySem.W.Frag} {mg : Str → Option Value} {base : Heap} {k : Nat} {f : Addr} {fd : FuncData} (T : Top K mg) (F : FnAt K "check_orders" "check_orders" s_check_orders f fd)
    {a_is_order : Addr} {d_is_order : FuncData} {f_is_order : List D → GH → R D}
    (t_is_order : Tx K mg "is_order" ["value"] [] a_is_order d_is_order)
    (g_is_order : FnD P w K mg base k a_is_order d_is_order ["value"] f_is_order) :
    FnD P w K mg base (k + 1) f fd ["orders"] (defF ["orders", "one"] (b_check_orders f_is_order)) :=
  fnD F sc_check_orders fun cdv A outer s H E hr gd => by
    have sc := sc_check_orders
    have hu := hr.units
    have hu1 := hu_of hr
    exact
      (xs_cons (xs_if (xt_w (xw_or (xt_not (xt_tru (xe_isi (T := "list") (by decide) (by decide +kernel) T.z_isinstance T.z_list (by decide) (by decide) (xv 0)))) (xw_or1 (xt_not (xt_tru (xe_all rfl T.z_all (xa_cons (xe_lc (own := [("one", 1)]) mkF_ok rfl sc.nd (xi_seq (xv 0)) (blkOk_by (by kernel_rfl)) (fun _ _ _ _ _ => (xg_name (i := 1) (vs := [1]) sc.nd rfl (by first | exact .inl rfl | exact .inr rfl) (by decide))) (fun _ _ _ _ _ => xts_nil) (fun _ _ _ _ _ => (xe_call takes0 hr gd t_is_order g_is_order (fun _ => Reps.nil) rfl (xa_cons (xv 1) xa_nil)))) xa_nil))))))) (xs_one xs_dead) xs_nil)
      (xs_one (xs_if (xt_w (xw_or (xt_cmp L2.op_gt o2_intB (xe_len T.z_len (xa_cons (xv 0) xa_nil)) (xe_gint T.c_MOST_ORDERS) (by rfl)) (xw_or1 (xt_tru (xe_any rfl T.z_any (xa_cons (xe_lc (own := [("one", 1)]) mkF_ok rfl sc.nd (xi_seq (xv 0)) (blkOk_by (by kernel_rfl)) (fun _ _ _ _ _ => (xg_name (i := 1) (vs := [1]) sc.nd rfl (by first | exact .inl rfl | exact .inr rfl) (by decide))) (fun _ _ _ _ _ => xts_nil) (fun _ _ _ _ _ => (xe_cmp L2.op_gt o2_intB (xe_len T.z_len (xa_cons (xv 1) xa_nil)) (xe_gint T.c_MOST_ITEMS) (by rfl)))) xa_nil)))))) (xs_one xs_dead) xs_nil)))
/-! links_of -/
abbrev s_links_of : Stmt := top 13
theorem sc_links_of : FnScope ["orders", "at", "one", "item", "other"] ["orders"] (defScope s_links_of) := ⟨rfl, rfl, rfl, by decide +kernel, rfl, by decide +kernel, by decide +kernel⟩
theorem ok_links_of {P : Program} {w : World} {K : PySem.W.Frag} {mg : Str → Option Value} {base : Heap} {k : Nat} {f : Addr} {fd : FuncData} (T : Top K mg) (F : FnAt K "links_of" "links_of" s_links_of f fd)
     :
    FnD P w K mg base (k + 1) f fd ["orders"] (defF ["orders", "at", "one", "item", "other"] (b_links_of )) :=
  fnD F sc_links_of fun cdv A outer s H E hr gd => by
    have sc := sc_links_of
    have hu := hr.units
    have hu1 := hu_of hr
    exact
      (xs_one (xs_ret (xe_lc2 (own := [("at", 1), ("one", 2), ("item", 3), ("other", 4)]) (vs1 := [3, 4]) mkF_ok rfl sc.nd (xi_en rfl T.z_enumerate (xa_cons (xv 0) xa_nil)) (blkOk_by (by kernel_rfl)) (by decide) (fun _ _ _ _ _ => (xg_tup (us := [1, 2, 3, 4]) rfl (xgs_cons (xg_name (i := 1) (vs := [1, 2, 3, 4]) sc.nd rfl (by first | exact .inl rfl | exact .inr rfl) (by decide)) (xgs_cons (xg_name (i := 2) (vs := [1, 2, 3, 4]) sc.nd rfl (by first | exact .inl rfl | exact .inr rfl) (by decide)) xgs_nil)))) (fun _ _ _ _ _ => xts_nil) (fun _ _ _ _ _ => (xi_zp rfl T.z_zip (xa_cons (xv 2) (xa_cons (xe_sl mkF_ok (xv 2) (xO.some xe_int) xO.none) xa_nil)))) (fun _ _ _ _ _ => (xg_tup (us := [3, 4]) rfl (xgs_cons (xg_name (i := 3) (vs := [3, 4]) sc.nd rfl (by first | exact .inl rfl | exact .inr rfl) (by decide)) (xgs_cons (xg_name (i := 4) (vs := [3, 4]) sc.nd rfl (by first | exact .inl rfl | exact .inr rfl) (by decide)) xgs_nil)))) (fun _ _ _ _ _ => xts_nil) (fun _ _ _ _ _ => (xe_tup (xa_cons (xv 3) (xa_cons (xv 4) (xa_cons (xv 1) xa_nil))))))))
/-! nexts_of -/
abbrev s_nexts_of : Stmt := top 14
theorem sc_nexts_of : FnScope ["orders", "found", "one", "item", "other", "at"] ["orders"] (defScope s_nexts_of) := ⟨rfl, rfl, rfl, by decide +kernel, rfl, by decide +kernel, by decide +kernel⟩
theorem ok_nexts_of {P : Program} {w : World} {K : PySem.W.Frag} {mg : Str → Option Value} {base : Heap} {k : Nat} {f : Addr} {fd : FuncData} (T : Top K mg) (F : FnAt K "nexts_of" "nexts_of" s_nexts_of f fd)
    {a_links_of : Addr} {d_links_of : FuncData} {f_links_of : List D → GH → R D}
    (t_links_of : Tx K mg "links_of" ["orders"] [] a_links_of d_links_of)
    (g_links_of : FnD P w K mg base k a_links_of d_links_of ["orders"] f_links_of) :
    FnD P w K mg base (k + 1) f fd ["orders"] (defF ["orders", "found", "one", "item", "other", "at"] (b_nexts_of f_links_of)) :=
  fnD F sc_nexts_of fun cdv A outer s H E hr gd => by
    have sc := sc_nexts_of
    have hu := hr.units
    have hu1 := hu_of hr
    exact
      (xs_cons (xs_setDc2 (own := [("one", 2), ("item", 3)]) (i := 1) (vs1 := [3]) mkKF_ok rfl sc.nd rfl rfl (swD_true rfl rfl rfl (by decide +kernel)) (xi_seq (xv 0)) (blkOk_by (by kernel_rfl)) (by decide) (fun _ _ _ _ _ => (xg_name (i := 2) (vs := [2, 3]) sc.nd rfl (by first | exact .inl rfl | exact .inr rfl) (by decide))) (fun _ _ _ _ _ => xts_nil) (fun _ _ _ _ _ => (xi_seq (xv 2))) (fun _ _ _ _ _ => (xg_name (i := 3) (vs := [3]) sc.nd rfl (by first | exact .inl rfl | exact .inr rfl) (by decide))) (fun _ _ _ _ _ => xts_nil) (fun _ _ _ _ _ => (xv 3)) (fun _ _ _ _ _ => (xe_lstM xa_nil)))
      (xs_cons (xs_for (us := [3, 4, 5]) psB rfl (xi_seq (xe_call tkB hr gd t_links_of g_links_of (fun _ => Reps.nil) rfl (xa_cons (xv 0) xa_nil))) (xg_tup (us := [3, 4, 5]) rfl (xgs_cons (xg_name (i := 3) (vs := [3, 4, 5]) sc.nd rfl (by first | exact .inl rfl | exact .inr rfl) (by decide)) (xgs_cons (xg_name (i := 4) (vs := [3, 4, 5]) sc.nd rfl (by first | exact .inl rfl | exact .inr rfl) (by decide)) (xgs_cons (xg_name (i := 5) (vs := [3, 4, 5]) sc.nd rfl (by first | exact .inl rfl | exact .inr rfl) (by decide)) xgs_nil))))
        (xs_one (xs_expr (xe_append (xe_ix hu1 (xv 1) (xv 3)) (xa_cons (xv 4) xa_nil)))))
      (xs_one (xs_ret (xv 1)))))
/-! reached_from -/
abbrev s_reached_from : Stmt := top 15
theorem sc_reached_from : FnScope ["nexts", "start", "found", "waiting", "other"] ["nexts", "start"] (defScope s_reached_from) := ⟨rfl, rfl, rfl, by decide +kernel, rfl, by decide +kernel, by decide +kernel⟩
theorem ok_reached_from {P : Program} {w : World} {K : PySem.W.Frag} {mg : Str → Option Value} {base : Heap} {k : Nat} {f : Addr} {fd : FuncData} (T : Top K mg) (F : FnAt K "reached_from" "reached_from" s_reached_from f fd)
     :
    FnD P w K mg base (k + 1) f fd ["nexts", "start"] (defF ["nexts", "start", "found", "waiting", "other"] (b_reached_from )) :=
  fnD F sc_reached_from fun cdv A outer s H E hr gd => by
    have sc := sc_reached_from
    have hu := hr.units
    have hu1 := hu_of hr
    exact
      (xs_cons (xs_set (i := 2) sc.nd rfl (by first | exact .inl rfl | exact .inr rfl) (xe_dict0 mkKM_ok))
      (xs_cons (xs_set (i := 3) sc.nd rfl (by first | exact .inl rfl | exact .inr rfl) (xe_lstM (xa_cons (xv 1) xa_nil)))
      (xs_cons (xs_while 1000000 psB (xt_tru (xv 3))
        (xs_one (xs_for (us := [4]) psB rfl (xi_seq (xe_ix hu1 (xv 0) (xe_pop (xv 3)))) (xg_name (i := 4) (vs := [4]) sc.nd rfl (by first | exact .inl rfl | exact .inr rfl) (by decide))
        (xs_one (xs_if (xt_cmp (opr_notIn hu1) o2_notIn (xv 4) (xv 2) (by rfl)) (xs_cons (xs_put hu1 xe_bl (xv 2) (xv 4))
      (xs_one (xs_expr (xe_append (xv 3) (xa_cons (xv 4) xa_nil))))) xs_nil)))))
      (xs_one (xs_ret (xv 2))))))
/-! links_on_rings -/
abbrev s_links_on_rings : Stmt := top 16
theorem sc_links_on_rings : FnScope ["orders", "nexts", "reach", "item", "link"] ["orders"] (defScope s_links_on_rings) := ⟨rfl, rfl, rfl, by decide +kernel, rfl, by decide +kernel, by decide +kernel⟩
theorem ok_links_on_rings {P : Program} {w : World} {K : PySem.W.Frag} {mg : Str → Option Value} {base : Heap} {k : Nat} {f : Addr} {fd : FuncData} (T : Top K mg) (F : FnAt K "links_on_rings" "links_on_rings" s_links_on_rings f fd)
    {a_nexts_of : Addr} {d_nexts_of : FuncData} {f_nexts_of : List D → GH → R D}
    (t_nexts_of : Tx K mg "nexts_of" ["orders"] [] a_nexts_of d_nexts_of)
    (g_nexts_of : FnD P w K mg base k a_nexts_of d_nexts_of ["orders"] f_nexts_of)
    {a_reached_from : Addr} {d_reached_from : FuncData} {f_reached_from : List D → GH → R D}
    (t_reached_from : Tx K mg "reached_from" ["nexts", "start"] [] a_reached_from d_reached_from)
    (g_reached_from : FnD P w K mg base k a_reached_from d_reached_from ["nexts", "start"] f_reached_from)
    {a_links_of : Addr} {d_links_of : FuncData} {f_links_of : List D → GH → R D}
    (t_links_of : Tx K mg "links_of" ["orders"] [] a_links_of d_links_of)
    (g_links_of : FnD P w K mg base k a_links_of d_links_of ["orders"] f_links_of) :
    FnD P w K mg base (k + 1) f fd ["orders"] (defF ["orders", "nexts", "reach", "item", "link"] (b_links_on_rings f_nexts_of f_reached_from f_links_of)) :=
  fnD F sc_links_on_rings fun cdv A outer s H E hr gd => by
    have sc := sc_links_on_rings
    have hu := hr.units
    have hu1 := hu_of hr
    exact
      (xs_cons (xs_set (i := 1) sc.nd rfl (by first | exact .inl rfl | exact .inr rfl) (xe_call tkB hr gd t_nexts_of g_nexts_of (fun _ => Reps.nil) rfl (xa_cons (xv 0) xa_nil)))
      (xs_cons (xs_set (i := 2) sc.nd rfl (by first | exact .inl rfl | exact .inr rfl) (xe_dc1 (own := [("item", 3)]) mkKF_ok rfl sc.nd (xi_seq (xv 1)) (blkOk_by (by kernel_rfl)) (fun _ _ _ _ _ => (xg_name (i := 3) (vs := [3]) sc.nd rfl (by first | exact .inl rfl | exact .inr rfl) (by decide))) (fun _ _ _ _ _ => xts_nil) (fun _ _ _ _ _ => (xv 3)) (fun _ _ _ _ _ => (xe_call takes0 hr gd t_reached_from g_reached_from (fun _ => Reps.nil) rfl (xa_cons (xv 1) (xa_cons (xv 3) xa_nil))))))
      (xs_one (xs_ret (xe_lc (own := [("link", 4)]) mkF_ok rfl sc.nd (xi_seq (xe_call tkB hr gd t_links_of g_links_of (fun _ => Reps.nil) rfl (xa_cons (xv 0) xa_nil))) (blkOk_by (by kernel_rfl)) (fun _ _ _ _ _ => (xg_name (i := 4) (vs := [4]) sc.nd rfl (by first | exact .inl rfl | exact .inr rfl) (by decide))) (fun _ _ _ _ _ => (xts_one (xt_cmp (opr_in hu1) o2_in (xe_ix hu1 (xv 4) xe_int) (xe_ix hu1 (xv 2) (xe_ix hu1 (xv 4) xe_int)) (by rfl)))) (fun _ _ _ _ _ => (xv 4)))))))
/-! ring_in -/
abbrev s_ring_in : Stmt := top 17
theorem sc_ring_in : FnScope ["links", "walk", "items", "link", "item", "other", "at"] ["links"] (defScope s_ring_in) := ⟨rfl, rfl, rfl, by decide +kernel, rfl, by decide +kernel, by decide +kernel⟩
theorem ok_ring_in {P : Program} {w : World} {K : PySem.W.Frag} {mg : Str → Option Value} {base : Heap} {k : Nat} {f : Addr} {fd : FuncData} (T : Top K mg) (F : FnAt K "ring_in" "ring_in" s_ring_in f fd)
     :
    FnD P w K mg base (k + 1) f fd ["links"] (defF ["links", "walk", "items", "link", "item", "other", "at"] (b_ring_in )) :=
  fnD F sc_ring_in fun cdv A outer s H E hr gd => by
    have sc := sc_ring_in
    have hu := hr.units
    have hu1 := hu_of hr
    exact
      (xs_cons (xs_set (i := 1) sc.nd rfl (by first | exact .inl rfl | exact .inr rfl) (xe_lstM (xa_cons (xe_ix hu1 (xv 0) xe_int) xa_nil)))
      (xs_one (xs_while 1000000 psB (xt_tru xe_bl)
        (xs_cons (xs_setLc (own := [("link", 3)]) (i := 2) mkF_ok rfl sc.nd rfl rfl (sw_true rfl rfl rfl (by decide +kernel)) (xi_seq (xv 1)) (blkOk_by (by kernel_rfl)) (fun _ _ _ _ _ => (xg_name (i := 3) (vs := [3]) sc.nd rfl (by first | exact .inl rfl | exact .inr rfl) (by decide))) (fun _ _ _ _ _ => xts_nil) (fun _ _ _ _ _ => (xe_ix hu1 (xv 3) xe_int)))
      (xs_cons (xs_if (xt_cmp (opr_in hu1) o2_in (xe_ix hu1 (xe_ix hu1 (xv 1) (xe_neg xe_int)) xe_int) (xv 2) (by rfl)) (xs_one (xs_ret (xe_lc (own := [("item", 4), ("other", 5), ("at", 6)]) mkM_ok rfl sc.nd (xi_seq (xe_sl mkF_ok (xv 1) (xO.some (xe_idxS (xv 2) (xa_cons (xe_ix hu1 (xe_ix hu1 (xv 1) (xe_neg xe_int)) xe_int) xa_nil))) xO.none)) (blkOk_by (by kernel_rfl)) (fun _ _ _ _ _ => (xg_tup (us := [4, 5, 6]) rfl (xgs_cons (xg_name (i := 4) (vs := [4, 5, 6]) sc.nd rfl (by first | exact .inl rfl | exact .inr rfl) (by decide)) (xgs_cons (xg_name (i := 5) (vs := [4, 5, 6]) sc.nd rfl (by first | exact .inl rfl | exact .inr rfl) (by decide)) (xgs_cons (xg_name (i := 6) (vs := [4, 5, 6]) sc.nd rfl (by first | exact .inl rfl | exact .inr rfl) (by decide)) xgs_nil))))) (fun _ _ _ _ _ => xts_nil) (fun _ _ _ _ _ => (xe_tup (xa_cons (xv 4) (xa_cons (xv 6) xa_nil))))))) xs_nil)
      (xs_one (xs_expr (xe_append (xv 1) (xa_cons (xe_ix hu1 (xe_lc (own := [("link", 3)]) mkF_ok rfl sc.nd (xi_seq (xv 0)) (blkOk_by (by kernel_rfl)) (fun _ _ _ _ _ => (xg_name (i := 3) (vs := [3]) sc.nd rfl (by first | exact .inl rfl | exact .inr rfl) (by decide))) (fun _ _ _ _ _ => (xts_one (xt_cmp (L2.op_eqD hu) o2_eq (xe_ix hu1 (xv 3) xe_int) (xe_ix hu1 (xe_ix hu1 (xv 1) (xe_neg xe_int)) xe_int) (by rfl)))) (fun _ _ _ _ _ => (xv 3))) xe_int) xa_nil)))))))))
/-! first_free -/
abbrev s_first_free : Stmt := top 18
theorem sc_first_free : FnScope ["left", "counts", "item"] ["left", "counts"] (defScope s_first_free) := ⟨rfl, rfl, rfl, by decide +kernel, rfl, by decide +kernel, by decide +kernel⟩
theorem ok_first_free {P : Program} {w : World} {K : PySem.W.Frag} {mg : Str → Option Value} {base : Heap} {k : Nat} {f : Addr} {fd : FuncData} (T : Top K mg) (F : FnAt K "first_free" "first_free" s_first_free f fd)
     :
    FnD P w K mg base (k + 1) f fd ["left", "counts"] (defF ["left", "counts", "item"] (b_first_free )) :=
  fnD F sc_first_free fun cdv A outer s H E hr gd => by
    have sc := sc_first_free
    have hu := hr.units
    have hu1 := hu_of hr
    exact
      (xs_cons (xs_for (us := [2]) psB rfl (xi_seq (xv 0)) (xg_name (i := 2) (vs := [2]) sc.nd rfl (by first | exact .inl rfl | exact .inr rfl) (by decide))
        (xs_one (xs_if (xt_cmp (L2.op_eqD hu) o2_eq (xe_ix hu1 (xv 1) (xv 2)) xe_int (by rfl)) (xs_one (xs_ret (xv 2))) xs_nil)))
      (xs_one (xs_ret xe_non)))
/-! kept_order -/
abbrev s_kept_order : Stmt := top 19
theorem sc_kept_order : FnScope ["orders", "nexts", "counts", "item", "other", "at", "left", "found", "free"] ["orders"] (defScope s_kept_order) := ⟨rfl, rfl, rfl, by decide +kernel, rfl, by decide +kernel, by decide +kernel⟩
theorem ok_kept_order {P : Program} {w : World} {K : PySem.W.Frag} {mg : Str → Option Value} {base : Heap} {k : Nat} {f : Addr} {fd : FuncData} (T : Top K mg) (F : FnAt K "kept_order" "kept_order" s_kept_order f fd)
    {a_nexts_of : Addr} {d_nexts_of : FuncData} {f_nexts_of : List D → GH → R D}
    (t_nexts_of : Tx K mg "nexts_of" ["orders"] [] a_nexts_of d_nexts_of)
    (g_nexts_of : FnD P w K mg base k a_nexts_of d_nexts_of ["orders"] f_nexts_of)
    {a_links_of : Addr} {d_links_of : FuncData} {f_links_of : List D → GH → R D}
    (t_links_of : Tx K mg "links_of" ["orders"] [] a_links_of d_links_of)
    (g_links_of : FnD P w K mg base k a_links_of d_links_of ["orders"] f_links_of)
    {a_first_free : Addr} {d_first_free : FuncData} {f_first_free : List D → GH → R D}
    (t_first_free : Tx K mg "first_free" ["left", "counts"] [] a_first_free d_first_free)
    (g_first_free : FnD P w K mg base k a_first_free d_first_free ["left", "counts"] f_first_free) :
    FnD P w K mg base (k + 1) f fd ["orders"] (defF ["orders", "nexts", "counts", "item", "other", "at", "left", "found", "free"] (b_kept_order f_nexts_of f_links_of f_first_free)) :=
  fnD F sc_kept_order fun cdv A outer s H E hr gd => by
    have sc := sc_kept_order
    have hu := hr.units
    have hu1 := hu_of hr
    exact
      (xs_cons (xs_set (i := 1) sc.nd rfl (by first | exact .inl rfl | exact .inr rfl) (xe_call tkB hr gd t_nexts_of g_nexts_of (fun _ => Reps.nil) rfl (xa_cons (xv 0) xa_nil)))
      (xs_cons (xs_setDc1 (own := [("item", 3)]) (i := 2) mkKM_ok rfl sc.nd rfl rfl (swD_true rfl rfl rfl (by decide +kernel)) (xi_seq (xv 1)) (blkOk_by (by kernel_rfl)) (fun _ _ _ _ _ => (xg_name (i := 3) (vs := [3]) sc.nd rfl (by first | exact .inl rfl | exact .inr rfl) (by decide))) (fun _ _ _ _ _ => xts_nil) (fun _ _ _ _ _ => (xv 3)) (fun _ _ _ _ _ => xe_int))
      (xs_cons (xs_for (us := [3, 4, 5]) psB rfl (xi_seq (xe_call tkB hr gd t_links_of g_links_of (fun _ => Reps.nil) rfl (xa_cons (xv 0) xa_nil))) (xg_tup (us := [3, 4, 5]) rfl (xgs_cons (xg_name (i := 3) (vs := [3, 4, 5]) sc.nd rfl (by first | exact .inl rfl | exact .inr rfl) (by decide)) (xgs_cons (xg_name (i := 4) (vs := [3, 4, 5]) sc.nd rfl (by first | exact .inl rfl | exact .inr rfl) (by decide)) (xgs_cons (xg_name (i := 5) (vs := [3, 4, 5]) sc.nd rfl (by first | exact .inl rfl | exact .inr rfl) (by decide)) xgs_nil))))
        (xs_one (xs_augD (fop := (· + ·)) rd_add L2.in_add hu1 (xv 2) (xv 4) xe_int)))
      (xs_cons (xs_par2 (i := 6) (j := 7) rfl sc.nd rfl rfl (by decide) rfl rfl (xa_cons (xe_sorted2 mkM_ok rfl hu T.z_sorted (xa_cons (xv 1) xa_nil)) (xa_cons (xe_lstM xa_nil) xa_nil)) (by rfl))
      (xs_cons (xs_while 1000000 psB (xt_tru (xv 6))
        (xs_cons (xs_set (i := 8) sc.nd rfl (by first | exact .inl rfl | exact .inr rfl) (xe_call tkB hr gd t_first_free g_first_free (fun _ => Reps.nil) rfl (xa_cons (xv 6) (xa_cons (xv 2) xa_nil))))
      (xs_cons (xs_if (xt_cmp L2.op_isN o2_isN (xv 8) xe_non (by rfl)) (xs_one (xs_ret xe_non)) xs_nil)
      (xs_cons (xs_expr (xe_append (xv 7) (xa_cons (xv 8) xa_nil)))
      (xs_cons (xs_expr (xe_remS (xv 6) (xa_cons (xv 8) xa_nil)))
      (xs_one (xs_for (us := [4]) psB rfl (xi_seq (xe_ix hu1 (xv 1) (xv 8))) (xg_name (i := 4) (vs := [4]) sc.nd rfl (by first | exact .inl rfl | exact .inr rfl) (by decide))
        (xs_one (xs_augD (fop := (· - ·)) rd_sub L2.in_sub hu1 (xv 2) (xv 4) xe_int)))))))))
      (xs_one (xs_ret (xv 7))))))))
/-! least_order -/
abbrev s_least_order : Stmt := top 20
theorem sc_least_order : FnScope ["orders", "found"] ["orders"] (defScope s_least_order) := ⟨rfl, rfl, rfl, by decide +kernel, rfl, by decide +kernel, by decide +kernel⟩
theorem ok_least_order {P : Program} {w : World} {K : PySem.W.Frag} {mg : Str → Option Value} {base : Heap} {k : Nat} {f : Addr} {fd : FuncData} (T : Top K mg) (F : FnAt K "least_order" "least_order" s_least_order f fd)
    {a_check_orders : Addr} {d_check_orders : FuncData} {f_check_orders : List D → GH → R D}
    (t_check_orders : Tx K mg "check_orders" ["orders"] [] a_check_orders d_check_orders)
    (g_check_orders : FnD P w K mg base k a_check_orders d_check_orders ["orders"] f_check_orders)
    {a_kept_order : Addr} {d_kept_order : FuncData} {f_kept_order : List D → GH → R D}
    (t_kept_order : Tx K mg "kept_order" ["orders"] [] a_kept_order d_kept_order)
    (g_kept_order : FnD P w K mg base k a_kept_order d_kept_order ["orders"] f_kept_order)
    {a_ring_in : Addr} {d_ring_in : FuncData} {f_ring_in : List D → GH → R D}
    (t_ring_in : Tx K mg "ring_in" ["links"] [] a_ring_in d_ring_in)
    (g_ring_in : FnD P w K mg base k a_ring_in d_ring_in ["links"] f_ring_in)
    {a_links_on_rings : Addr} {d_links_on_rings : FuncData} {f_links_on_rings : List D → GH → R D}
    (t_links_on_rings : Tx K mg "links_on_rings" ["orders"] [] a_links_on_rings d_links_on_rings)
    (g_links_on_rings : FnD P w K mg base k a_links_on_rings d_links_on_rings ["orders"] f_links_on_rings) :
    FnD P w K mg base (k + 1) f fd ["orders"] (defF ["orders", "found"] (b_least_order f_check_orders f_kept_order f_ring_in f_links_on_rings)) :=
  fnD F sc_least_order fun cdv A outer s H E hr gd => by
    have sc := sc_least_order
    have hu := hr.units
    have hu1 := hu_of hr
    exact
      (xs_cons (xs_expr (xe_call tkB hr gd t_check_orders g_check_orders (fun _ => Reps.nil) rfl (xa_cons (xv 0) xa_nil)))
      (xs_cons (xs_set (i := 1) sc.nd rfl (by first | exact .inl rfl | exact .inr rfl) (xe_call tkB hr gd t_kept_order g_kept_order (fun _ => Reps.nil) rfl (xa_cons (xv 0) xa_nil)))
      (xs_cons (xs_if (xt_cmp L2.op_isN o2_isN (xv 1) xe_non (by rfl)) (xs_one (xs_ret (xe_tup (xa_cons xe_str (xa_cons (xe_call tkB hr gd t_ring_in g_ring_in (fun _ => Reps.nil) rfl (xa_cons (xe_call tkB hr gd t_links_on_rings g_links_on_rings (fun _ => Reps.nil) rfl (xa_cons (xv 0) xa_nil)) xa_nil)) xa_nil))))) xs_nil)
      (xs_one (xs_ret (xe_tup (xa_cons xe_str (xa_cons (xv 1) xa_nil))))))))
/-! _law_cell_at -/
abbrev s__law_cell_at : Stmt := top 22
theorem sc__law_cell_at : FnScope ["_law_script", "_law_k"] ["_law_script", "_law_k"] (defScope s__law_cell_at) := ⟨rfl, rfl, rfl, by decide +kernel, rfl, by decide +kernel, by decide +kernel⟩
theorem ok__law_cell_at {P : Program} {w : World} {K : PySem.W.Frag} {mg : Str → Option Value} {base : Heap} {k : Nat} {f : Addr} {fd : FuncData} (T : Top K mg) (F : FnAt K "_law_cell_at" "_law_cell_at" s__law_cell_at f fd)
     :
    FnD P w K mg base (k + 1) f fd ["_law_script", "_law_k"] (defF ["_law_script", "_law_k"] (b__law_cell_at )) :=
  fnD F sc__law_cell_at fun cdv A outer s H E hr gd => by
    have sc := sc__law_cell_at
    have hu := hr.units
    have hu1 := hu_of hr
    exact
      (xs_cons (xs_if (xt_cmp L2.op_lt o2_intB (xv 1) (xe_len T.z_len (xa_cons (xv 0) xa_nil)) (by rfl)) (xs_one (xs_ret (xe_ix hu1 (xv 0) (xv 1)))) xs_nil)
      (xs_one (xs_ret xe_int)))
/-! _law_source -/
abbrev s__law_source : Stmt := top 23
theorem sc__law_source : FnScope ["_law_cell"] ["_law_cell"] (defScope s__law_source) := ⟨rfl, rfl, rfl, by decide +kernel, rfl, by decide +kernel, by decide +kernel⟩
theorem ok__law_source {P : Program} {w : World} {K : PySem.W.Frag} {mg : Str → Option Value} {base : Heap} {k : Nat} {f : Addr} {fd : FuncData} (T : Top K mg) (F : FnAt K "_law_source" "_law_source" s__law_source f fd)
     :
    FnD P w K mg base (k + 1) f fd ["_law_cell"] (defF ["_law_cell"] (b__law_source )) :=
  fnD F sc__law_source fun cdv A outer s H E hr gd => by
    have sc := sc__law_source
    have hu := hr.units
    have hu1 := hu_of hr
    exact
      (xs_one (xs_ret (xe_lstM (xa_cons (xe_op L2.op_mul o2_mul (xv 0) (xe_int1 T.z_int (xa_cons (xe_cmp L2.op_ge o2_intB (xv 0) (xe_op L2.op_pow o2_pow xe_int xe_int) (by rfl)) xa_nil))) (xa_cons (xe_op L2.op_mod o2_mod (xv 0) xe_int) (xa_cons xe_int xa_nil))))))
/-! _law_draw -/
abbrev s__law_draw : Stmt := top 24
theorem sc__law_draw : FnScope ["_law_source_here", "_law_size", "_law_digit", "_law_number"] ["_law_source_here", "_law_size"] (defScope s__law_draw) := ⟨rfl, rfl, rfl, by decide +kernel, rfl, by decide +kernel, by decide +kernel⟩
theorem ok__law_draw {P : Program} {w : World} {K : PySem.W.Frag} {mg : Str → Option Value} {base : Heap} {k : Nat} {f : Addr} {fd : FuncData} (T : Top K mg) (F : FnAt K "_law_draw" "_law_draw" s__law_draw f fd)
     :
    FnD P w K mg base (k + 1) f fd ["_law_source_here", "_law_size"] (defF ["_law_source_here", "_law_size", "_law_digit", "_law_number"] (b__law_draw )) :=
  fnD F sc__law_draw fun cdv A outer s H E hr gd => by
    have sc := sc__law_draw
    have hu := hr.units
    have hu1 := hu_of hr
    exact
      (xs_cons (xs_if (xt_cmp L2.op_gt o2_intB (xe_ix hu1 (xv 0) xe_int) xe_int (by rfl)) (xs_cons (xs_set (i := 2) sc.nd rfl (by first | exact .inl rfl | exact .inr rfl) (xe_op L2.op_mod o2_mod (xe_ix hu1 (xv 0) xe_int) (xv 1)))
      (xs_cons (xs_put hu1 (xe_op L2.op_fdivW o2_div (xe_ix hu1 (xv 0) xe_int) (xv 1)) (xv 0) xe_int)
      (xs_one (xs_ret (xv 2))))) xs_nil)
      (xs_cons (xs_put hu1 (xe_op opr_add (o2_add mkF_ok) (xe_ix hu1 (xv 0) xe_int) xe_int) (xv 0) xe_int)
      (xs_cons (xs_set (i := 3) sc.nd rfl (by first | exact .inl rfl | exact .inr rfl) (xe_op L2.op_mod o2_mod (xe_op L2.op_pow o2_pow (xe_op opr_add (o2_add mkF_ok) (xe_op opr_add (o2_add mkF_ok) (xe_ix hu1 (xv 0) xe_int) (xe_op L2.op_mul o2_mul xe_int (xe_ix hu1 (xv 0) xe_int))) xe_int) xe_int) xe_int))
      (xs_cons (xs_set (i := 3) sc.nd rfl (by first | exact .inl rfl | exact .inr rfl) (xe_op L2.op_mod o2_mod (xe_op L2.op_mul o2_mul (xv 3) (xe_op opr_add (o2_add mkF_ok) (xe_op opr_add (o2_add mkF_ok) (xe_op L2.op_fdivW o2_div (xv 3) xe_int) xe_int) (xe_ix hu1 (xv 0) xe_int))) xe_int))
      (xs_one (xs_ret (xe_op L2.op_mod o2_mod (xe_op L2.op_fdivW o2_div (xe_op L2.op_mod o2_mod (xe_op L2.op_mul o2_mul (xv 3) (xe_op opr_add (o2_add mkF_ok) (xe_op L2.op_fdivW o2_div (xv 3) xe_int) xe_int)) xe_int) xe_int) (xv 1))))))))
/-! _law_names -/
abbrev s__law_names : Stmt := top 26
theorem sc__law_names : FnScope ["_law_source_here", "_law_left", "_law_found"] ["_law_source_here"] (defScope s__law_names) := ⟨rfl, rfl, rfl, by decide +kernel, rfl, by decide +kernel, by decide +kernel⟩
theorem ok__law_names {P : Program} {w : World} {K : PySem.W.Frag} {mg : Str → Option Value} {base : Heap} {k : Nat} {f : Addr} {fd : FuncData} (T : Top K mg) (F : FnAt K "_law_names" "_law_names" s__law_names f fd)
    {a__law_draw : Addr} {d__law_draw : FuncData} {f__law_draw : List D → GH → R D}
    (t__law_draw : Tx K mg "_law_draw" ["_law_source_here", "_law_size"] [] a__law_draw d__law_draw)
    (g__law_draw : FnD P w K mg base k a__law_draw d__law_draw ["_law_source_here", "_law_size"] f__law_draw) :
    FnD P w K mg base (k + 1) f fd ["_law_source_here"] (defF ["_law_source_here", "_law_left", "_law_found"] (b__law_names f__law_draw)) :=
  fnD F sc__law_names fun cdv A outer s H E hr gd => by
    have sc := sc__law_names
    have hu := hr.units
    have hu1 := hu_of hr
    exact
      (xs_cons (xs_set (i := 1) sc.nd rfl (by first | exact .inl rfl | exact .inr rfl) (xe_sl mkM_ok (xe_lst (xa_cons xe_str (xa_cons xe_str (xa_cons xe_str (xa_cons xe_str (xa_cons xe_str (xa_cons xe_str (xa_cons xe_str (xa_cons xe_str xa_nil))))))))) xO.none (xO.some (xe_op opr_add (o2_add mkF_ok) xe_int (xe_call tkB hr gd t__law_draw g__law_draw (fun _ => Reps.nil) rfl (xa_cons (xv 0) (xa_cons xe_int xa_nil)))))))
      (xs_cons (xs_set (i := 2) sc.nd rfl (by first | exact .inl rfl | exact .inr rfl) (xe_lstM xa_nil))
      (xs_cons (xs_while 1000000 psB (xt_cmp (L2.op_neD hu) o2_ne (xv 1) (xe_lst xa_nil) (by rfl))
        (xs_one (xs_expr (xe_append (xv 2) (xa_cons (xe_popAt (xv 1) (xa_cons (xe_call tkB hr gd t__law_draw g__law_draw (fun _ => Reps.nil) rfl (xa_cons (xv 0) (xa_cons (xe_len T.z_len (xa_cons (xv 1) xa_nil)) xa_nil))) xa_nil)) xa_nil)))))
      (xs_one (xs_ret (xv 2))))))
/-! _law_some -/
abbrev s__law_some : Stmt := top 27
theorem sc__law_some : FnScope ["_law_source_here", "_law_names_here", "_law_share", "_law_name"] ["_law_source_here", "_law_names_here"] (defScope s__law_some) := ⟨rfl, rfl, rfl, by decide +kernel, rfl, by decide +kernel, by decide +kernel⟩
theorem ok__law_some {P : Program} {w : World} {K : PySem.W.Frag} {mg : Str → Option Value} {base : Heap} {k : Nat} {f : Addr} {fd : FuncData} (T : Top K mg) (F : FnAt K "_law_some" "_law_some" s__law_some f fd)
    {a__law_draw : Addr} {d__law_draw : FuncData} {f__law_draw : List D → GH → R D}
    (t__law_draw : Tx K mg "_law_draw" ["_law_source_here", "_law_size"] [] a__law_draw d__law_draw)
    (g__law_draw : FnD P w K mg base k a__law_draw d__law_draw ["_law_source_here", "_law_size"] f__law_draw) :
    FnD P w K mg base (k + 1) f fd ["_law_source_here", "_law_names_here"] (defF ["_law_source_here", "_law_names_here", "_law_share", "_law_name"] (b__law_some f__law_draw)) :=
  fnD F sc__law_some fun cdv A outer s H E hr gd => by
    have sc := sc__law_some
    have hu := hr.units
    have hu1 := hu_of hr
    exact
      (xs_cons (xs_set (i := 2) sc.nd rfl (by first | exact .inl rfl | exact .inr rfl) (xe_op opr_add (o2_add mkF_ok) xe_int (xe_call tkB hr gd t__law_draw g__law_draw (fun _ => Reps.nil) rfl (xa_cons (xv 0) (xa_cons xe_int xa_nil)))))
      (xs_one (xs_ret (xe_lc (own := [("_law_name", 3)]) mkM_ok rfl sc.nd (xi_seq (xv 1)) (blkOk_by (by kernel_rfl)) (fun _ _ _ _ _ => (xg_name (i := 3) (vs := [3]) sc.nd rfl (by first | exact .inl rfl | exact .inr rfl) (by decide))) (fun _ _ _ _ _ => (xts_one (xt_cmp L2.op_lt o2_intB (xe_call takes0 hr gd t__law_draw g__law_draw (fun _ => Reps.nil) rfl (xa_cons (xv 0) (xa_cons xe_int xa_nil))) (xv 2) (by rfl)))) (fun _ _ _ _ _ => (xv 3))))))
/-! _law_orders -/
abbrev s__law_orders : Stmt := top 28
theorem sc__law_orders : FnScope ["_law_source_here", "_law_most", "_law_names_here", "_law_way", "_law_found", "_law_k", "_law_some_here", "_law_at"] ["_law_source_here", "_law_most"] (defScope s__law_orders) := ⟨rfl, rfl, rfl, by decide +kernel, rfl, by decide +kernel, by decide +kernel⟩
theorem ok__law_orders {P : Program} {w : World} {K : PySem.W.Frag} {mg : Str → Option Value} {base : Heap} {k : Nat} {f : Addr} {fd : FuncData} (T : Top K mg) (F : FnAt K "_law_orders" "_law_orders" s__law_orders f fd)
    {a__law_names : Addr} {d__law_names : FuncData} {f__law_names : List D → GH → R D}
    (t__law_names : Tx K mg "_law_names" ["_law_source_here"] [] a__law_names d__law_names)
    (g__law_names : FnD P w K mg base k a__law_names d__law_names ["_law_source_here"] f__law_names)
    {a__law_draw : Addr} {d__law_draw : FuncData} {f__law_draw : List D → GH → R D}
    (t__law_draw : Tx K mg "_law_draw" ["_law_source_here", "_law_size"] [] a__law_draw d__law_draw)
    (g__law_draw : FnD P w K mg base k a__law_draw d__law_draw ["_law_source_here", "_law_size"] f__law_draw)
    {a__law_some : Addr} {d__law_some : FuncData} {f__law_some : List D → GH → R D}
    (t__law_some : Tx K mg "_law_some" ["_law_source_here", "_law_names_here"] [] a__law_some d__law_some)
    (g__law_some : FnD P w K mg base k a__law_some d__law_some ["_law_source_here", "_law_names_here"] f__law_some) :
    FnD P w K mg base (k + 1) f fd ["_law_source_here", "_law_most"] (defF ["_law_source_here", "_law_most", "_law_names_here", "_law_way", "_law_found", "_law_k", "_law_some_here", "_law_at"] (b__law_orders f__law_names f__law_draw f__law_some)) :=
  fnD F sc__law_orders fun cdv A outer s H E hr gd => by
    have sc := sc__law_orders
    have hu := hr.units
    have hu1 := hu_of hr
    exact
      (xs_cons (xs_set (i := 2) sc.nd rfl (by first | exact .inl rfl | exact .inr rfl) (xe_call tkB hr gd t__law_names g__law_names (fun _ => Reps.nil) rfl (xa_cons (xv 0) xa_nil)))
      (xs_cons (xs_set (i := 3) sc.nd rfl (by first | exact .inl rfl | exact .inr rfl) (xe_call tkB hr gd t__law_draw g__law_draw (fun _ => Reps.nil) rfl (xa_cons (xv 0) (xa_cons xe_int xa_nil))))
      (xs_cons (xs_set (i := 4) sc.nd rfl (by first | exact .inl rfl | exact .inr rfl) (xe_lstM xa_nil))
      (xs_cons (xs_for (us := [5]) psB rfl (xi_range1 rfl T.z_range (xa_cons (xe_call tkB hr gd t__law_draw g__law_draw (fun _ => Reps.nil) rfl (xa_cons (xv 0) (xa_cons (xe_op opr_add (o2_add mkF_ok) (xv 1) xe_int) xa_nil))) xa_nil)) (xg_name (i := 5) (vs := [5]) sc.nd rfl (by first | exact .inl rfl | exact .inr rfl) (by decide))
        (xs_cons (xs_set (i := 6) sc.nd rfl (by first | exact .inl rfl | exact .inr rfl) (xe_call tkB hr gd t__law_some g__law_some (fun _ => Reps.nil) rfl (xa_cons (xv 0) (xa_cons (xv 2) xa_nil))))
      (xs_cons (xs_if (xt_w (xw_and (xt_cmp L2.op_gt o2_intB (xe_len T.z_len (xa_cons (xv 6) xa_nil)) xe_int (by rfl)) (xw_and1 (xt_w (xw_or (xt_w (xw_and (xt_cmp (L2.op_eqD hu) o2_eq (xv 3) xe_int (by rfl)) (xw_and1 (xt_cmp (L2.op_eqD hu) o2_eq (xv 5) xe_int (by rfl))))) (xw_or1 (xt_w (xw_and (xt_cmp (L2.op_eqD hu) o2_eq (xv 3) xe_int (by rfl)) (xw_and1 (xt_cmp (L2.op_eqD hu) o2_eq (xe_call tkB hr gd t__law_draw g__law_draw (fun _ => Reps.nil) rfl (xa_cons (xv 0) (xa_cons xe_int xa_nil))) xe_int (by rfl))))))))))) (xs_cons (xs_set (i := 7) sc.nd rfl (by first | exact .inl rfl | exact .inr rfl) (xe_call tkB hr gd t__law_draw g__law_draw (fun _ => Reps.nil) rfl (xa_cons (xv 0) (xa_cons (xe_op opr_sub o2_sub (xe_len T.z_len (xa_cons (xv 6) xa_nil)) xe_int) xa_nil))))
      (xs_one (xs_asg (xe_tup (xa_cons (xe_ix hu1 (xv 6) (xe_op opr_add (o2_add mkF_ok) (xv 7) xe_int)) (xa_cons (xe_ix hu1 (xv 6) (xv 7)) xa_nil))) (xg_tup (us := []) rfl (xgs_cons (xg_put hu1 (xv 6) (xv 7)) (xgs_cons (xg_put hu1 (xv 6) (xe_op opr_add (o2_add mkF_ok) (xv 7) xe_int)) xgs_nil)))))) xs_nil)
      (xs_cons (xs_if (xt_cmp (L2.op_eqD hu) o2_eq (xv 3) xe_int (by rfl)) (xs_one (xs_set (i := 6) sc.nd rfl (by first | exact .inl rfl | exact .inr rfl) (xe_call tkB hr gd t__law_some g__law_some (fun _ => Reps.nil) rfl (xa_cons (xv 0) (xa_cons (xe_call tkB hr gd t__law_names g__law_names (fun _ => Reps.nil) rfl (xa_cons (xv 0) xa_nil)) xa_nil))))) xs_nil)
      (xs_cons (xs_if (xt_cmp (L2.op_eqD hu) o2_eq (xe_call tkB hr gd t__law_draw g__law_draw (fun _ => Reps.nil) rfl (xa_cons (xv 0) (xa_cons xe_int xa_nil))) xe_int (by rfl)) (xs_one (xs_set (i := 6) sc.nd rfl (by first | exact .inl rfl | exact .inr rfl) (xe_tuple T.z_tuple (xa_cons (xv 6) xa_nil)))) xs_nil)
      (xs_one (xs_expr (xe_append (xv 4) (xa_cons (xv 6) xa_nil)))))))))
      (xs_one (xs_ret (xv 4)))))))
/-! _law_ahead -/
abbrev s__law_ahead : Stmt := top 29
theorem sc__law_ahead : FnScope ["_law_orders_here", "_law_found", "_law_one", "_law_at", "_law_name"] ["_law_orders_here"] (defScope s__law_ahead) := ⟨rfl, rfl, rfl, by decide +kernel, rfl, by decide +kernel, by decide +kernel⟩
theorem ok__law_ahead {P : Program} {w : World} {K : PySem.W.Frag} {mg : Str → Option Value} {base : Heap} {k : Nat} {f : Addr} {fd : FuncData} (T : Top K mg) (F : FnAt K "_law_ahead" "_law_ahead" s__law_ahead f fd)
     :
    FnD P w K mg base (k + 1) f fd ["_law_orders_here"] (defF ["_law_orders_here", "_law_found", "_law_one", "_law_at", "_law_name"] (b__law_ahead )) :=
  fnD F sc__law_ahead fun cdv A outer s H E hr gd => by
    have sc := sc__law_ahead
    have hu := hr.units
    have hu1 := hu_of hr
    exact
      (xs_cons (xs_set (i := 1) sc.nd rfl (by first | exact .inl rfl | exact .inr rfl) (xe_dict0 mkKM_ok))
      (xs_cons (xs_for (us := [2]) psB rfl (xi_seq (xv 0)) (xg_name (i := 2) (vs := [2]) sc.nd rfl (by first | exact .inl rfl | exact .inr rfl) (by decide))
        (xs_one (xs_for (us := [3, 4]) psB rfl (xi_en rfl T.z_enumerate (xa_cons (xv 2) xa_nil)) (xg_tup (us := [3, 4]) rfl (xgs_cons (xg_name (i := 3) (vs := [3, 4]) sc.nd rfl (by first | exact .inl rfl | exact .inr rfl) (by decide)) (xgs_cons (xg_name (i := 4) (vs := [3, 4]) sc.nd rfl (by first | exact .inl rfl | exact .inr rfl) (by decide)) xgs_nil)))
        (xs_one (xs_put hu1 (xe_op opr_add (o2_add mkF_ok) (xe_get2 hu1 (xv 1) (xv 4) (xe_lst xa_nil)) (xe_list1 mkF_ok T.z_list (xa_cons (xe_sl mkF_ok (xv 2) xO.none (xO.some (xv 3))) xa_nil))) (xv 1) (xv 4))))))
      (xs_one (xs_ret (xv 1)))))
/-! _law_least -/
abbrev s__law_least : Stmt := top 30
theorem sc__law_least : FnScope ["_law_orders_here", "_law_ahead_here", "_law_found", "_law_free", "_law_name", "_law_one"] ["_law_orders_here"] (defScope s__law_least) := ⟨rfl, rfl, rfl, by decide +kernel, rfl, by decide +kernel, by decide +kernel⟩
theorem ok__law_least {P : Program} {w : World} {K : PySem.W.Frag} {mg : Str → Option Value} {base : Heap} {k : Nat} {f : Addr} {fd : FuncData} (T : Top K mg) (F : FnAt K "_law_least" "_law_least" s__law_least f fd)
    {a__law_ahead : Addr} {d__law_ahead : FuncData} {f__law_ahead : List D → GH → R D}
    (t__law_ahead : Tx K mg "_law_ahead" ["_law_orders_here"] [] a__law_ahead d__law_ahead)
    (g__law_ahead : FnD P w K mg base k a__law_ahead d__law_ahead ["_law_orders_here"] f__law_ahead) :
    FnD P w K mg base (k + 1) f fd ["_law_orders_here"] (defF ["_law_orders_here", "_law_ahead_here", "_law_found", "_law_free", "_law_name", "_law_one"] (b__law_least f__law_ahead)) :=
  fnD F sc__law_least fun cdv A outer s H E hr gd => by
    have sc := sc__law_least
    have hu := hr.units
    have hu1 := hu_of hr
    exact
      (xs_cons (xs_set (i := 1) sc.nd rfl (by first | exact .inl rfl | exact .inr rfl) (xe_call tkB hr gd t__law_ahead g__law_ahead (fun _ => Reps.nil) rfl (xa_cons (xv 0) xa_nil)))
      (xs_cons (xs_set (i := 2) sc.nd rfl (by first | exact .inl rfl | exact .inr rfl) (xe_lstM xa_nil))
      (xs_cons (xs_while 1000000 psB (xt_cmp L2.op_lt o2_intB (xe_len T.z_len (xa_cons (xv 2) xa_nil)) (xe_len T.z_len (xa_cons (xv 1) xa_nil)) (by rfl))
        (xs_cons (xs_setLc (own := [("_law_name", 4)]) (i := 3) mkF_ok rfl sc.nd rfl rfl (sw_true rfl rfl rfl (by decide +kernel)) (xi_seq (xe_sorted2 mkF_ok rfl hu T.z_sorted (xa_cons (xv 1) xa_nil))) (blkOk_by (by kernel_rfl)) (fun _ _ _ _ _ => (xg_name (i := 4) (vs := [4]) sc.nd rfl (by first | exact .inl rfl | exact .inr rfl) (by decide))) (fun _ _ _ _ _ => (xts_one (xt_cmp (opr_notIn hu1) o2_notIn (xv 4) (xv 2) (by rfl)))) (fun _ _ _ _ _ => (xv 4)))
      (xs_cons (xs_setLc (own := [("_law_name", 4)]) (i := 3) mkF_ok rfl sc.nd rfl rfl (sw_true rfl rfl rfl (by decide +kernel)) (xi_seq (xv 3)) (blkOk_by (by kernel_rfl)) (fun _ _ _ _ _ => (xg_name (i := 4) (vs := [4]) sc.nd rfl (by first | exact .inl rfl | exact .inr rfl) (by decide))) (fun _ _ _ _ _ => (xts_one (xt_cmp (L2.op_eqD hu) o2_eq (xe_lc (own := [("_law_one", 5)]) mkF_ok rfl sc.nd (xi_seq (xe_ix hu1 (xv 1) (xv 4))) (blkOk_by (by kernel_rfl)) (fun _ _ _ _ _ => (xg_name (i := 5) (vs := [5]) sc.nd rfl (by first | exact .inl rfl | exact .inr rfl) (by decide))) (fun _ _ _ _ _ => (xts_one (xt_cmp (opr_notIn hu1) o2_notIn (xv 5) (xv 2) (by rfl)))) (fun _ _ _ _ _ => (xv 5))) (xe_lst xa_nil) (by rfl)))) (fun _ _ _ _ _ => (xv 4)))
      (xs_cons (xs_if (xt_cmp (L2.op_eqD hu) o2_eq (xv 3) (xe_lst xa_nil) (by rfl)) (xs_one (xs_ret xe_non)) xs_nil)
      (xs_one (xs_expr (xe_append (xv 2) (xa_cons (xe_ix hu1 (xv 3) xe_int) xa_nil))))))))
      (xs_one (xs_ret (xv 2))))))
/-! _law_is_ring -/
abbrev s__law_is_ring : Stmt := top 31
theorem sc__law_is_ring : FnScope ["_law_orders_here", "_law_ring", "_law_step", "_law_names_here", "_law_k", "_law_one", "_law_name", "_law_other"] ["_law_orders_here", "_law_ring"] (defScope s__law_is_ring) := ⟨rfl, rfl, rfl, by decide +kernel, rfl, by decide +kernel, by decide +kernel⟩
theorem ok__law_is_ring {P : Program} {w : World} {K : PySem.W.Frag} {mg : Str → Option Value} {base : Heap} {k : Nat} {f : Addr} {fd : FuncData} (T : Top K mg) (F : FnAt K "_law_is_ring" "_law_is_ring" s__law_is_ring f fd)
     :
    FnD P w K mg base (k + 1) f fd ["_law_orders_here", "_law_ring"] (defF ["_law_orders_here", "_law_ring", "_law_step", "_law_names_here", "_law_k", "_law_one", "_law_name", "_law_other"] (b__law_is_ring )) :=
  fnD F sc__law_is_ring fun cdv A outer s H E hr gd => by
    have sc := sc__law_is_ring
    have hu := hr.units
    have hu1 := hu_of hr
    exact
      (xs_cons (xs_if (xt_w (xw_or (xt_not (xt_tru (xe_isi (T := "list") (by decide) (by decide +kernel) T.z_isinstance T.z_list (by decide) (by decide) (xv 1)))) (xw_or1 (xt_cmp L2.op_lt o2_intB (xe_len T.z_len (xa_cons (xv 1) xa_nil)) xe_int (by rfl))))) (xs_one (xs_ret xe_bl)) xs_nil)
      (xs_cons (xs_for (us := [2]) psB rfl (xi_seq (xv 1)) (xg_name (i := 2) (vs := [2]) sc.nd rfl (by first | exact .inl rfl | exact .inr rfl) (by decide))
        (xs_cons (xs_if (xt_w (xw_or (xt_not (xt_tru (xe_isi (T := "tuple") (by decide) (by decide +kernel) T.z_isinstance T.z_tuple (by decide) (by decide) (xv 2)))) (xw_or (xt_cmp (L2.op_neD hu) o2_ne (xe_len T.z_len (xa_cons (xv 2) xa_nil)) xe_int (by rfl)) (xw_or1 (xt_not (xt_tru (xe_isi (T := "str") (by decide) (by decide +kernel) T.z_isinstance T.z_str (by decide) (by decide) (xe_ix hu1 (xv 2) xe_int)))))))) (xs_one (xs_ret xe_bl)) xs_nil)
      (xs_one (xs_if (xt_w (xw_or (xt_not (xt_tru (xe_isi (T := "int") (by decide) (by decide +kernel) T.z_isinstance T.z_int (by decide) (by decide) (xe_ix hu1 (xv 2) xe_int)))) (xw_or (xt_tru (xe_isi (T := "bool") (by decide) (by decide +kernel) T.z_isinstance T.z_bool (by decide) (by decide) (xe_ix hu1 (xv 2) xe_int))) (xw_or1 (xt_not (xt_chain L2.op_le o2_intB L2.op_lt o2_intB xe_int (xe_ix hu1 (xv 2) xe_int) (xe_len T.z_len (xa_cons (xv 0) xa_nil)))))))) (xs_one (xs_ret xe_bl)) xs_nil))))
      (xs_cons (xs_setLc (own := [("_law_step", 2)]) (i := 3) mkF_ok rfl sc.nd rfl rfl (sw_true rfl rfl rfl (by decide +kernel)) (xi_seq (xv 1)) (blkOk_by (by kernel_rfl)) (fun _ _ _ _ _ => (xg_name (i := 2) (vs := [2]) sc.nd rfl (by first | exact .inl rfl | exact .inr rfl) (by decide))) (fun _ _ _ _ _ => xts_nil) (fun _ _ _ _ _ => (xe_ix hu1 (xv 2) xe_int)))
      (xs_cons (xs_if (xt_cmp L2.op_lt o2_intB (xe_lenSet2 rfl T.z_len T.z_set (xv 3)) (xe_len T.z_len (xa_cons (xv 3) xa_nil)) (by rfl)) (xs_one (xs_ret xe_bl)) xs_nil)
      (xs_cons (xs_for (us := [4]) psB rfl (xi_range1 rfl T.z_range (xa_cons (xe_len T.z_len (xa_cons (xv 1) xa_nil)) xa_nil)) (xg_name (i := 4) (vs := [4]) sc.nd rfl (by first | exact .inl rfl | exact .inr rfl) (by decide))
        (xs_cons (xs_set (i := 5) sc.nd rfl (by first | exact .inl rfl | exact .inr rfl) (xe_list1 mkF_ok T.z_list (xa_cons (xe_ix hu1 (xv 0) (xe_ix hu1 (xe_ix hu1 (xv 1) (xv 4)) xe_int)) xa_nil)))
      (xs_cons (xs_par2 (i := 6) (j := 7) rfl sc.nd rfl rfl (by decide) rfl rfl (xa_cons (xe_ix hu1 (xv 3) (xv 4)) (xa_cons (xe_ix hu1 (xv 3) (xe_op L2.op_mod o2_mod (xe_op opr_add (o2_add mkF_ok) (xv 4) xe_int) (xe_len T.z_len (xa_cons (xv 1) xa_nil)))) xa_nil)) (by rfl))
      (xs_one (xs_if (xt_w (xw_or (xt_cmp (opr_notIn hu1) o2_notIn (xv 6) (xv 5) (by rfl)) (xw_or (xt_cmp (opr_notIn hu1) o2_notIn (xv 7) (xv 5) (by rfl)) (xw_or1 (xt_cmp L2.op_ge o2_intB (xe_idxS (xv 5) (xa_cons (xv 6) xa_nil)) (xe_idxS (xv 5) (xa_cons (xv 7) xa_nil)) (by rfl)))))) (xs_one (xs_ret xe_bl)) xs_nil)))))
      (xs_one (xs_ret xe_bl)))))))
/-! _law_right -/
abbrev s__law_right : Stmt := top 32
theorem sc__law_right : FnScope ["_law_orders_here", "_law_original", "_law_told", "_law_due", "_law_kept"] ["_law_orders_here"] (defScope s__law_right) := ⟨rfl, rfl, rfl, by decide +kernel, rfl, by decide +kernel, by decide +kernel⟩
theorem ok__law_right {P : Program} {w : World} {K : PySem.W.Frag} {mg : Str → Option Value} {base : Heap} {k : Nat} {f : Addr} {fd : FuncData} (T : Top K mg) (F : FnAt K "_law_right" "_law_right" s__law_right f fd)
    {a__law_least : Addr} {d__law_least : FuncData} {f__law_least : List D → GH → R D}
    (t__law_least : Tx K mg "_law_least" ["_law_orders_here"] [] a__law_least d__law_least)
    (g__law_least : FnD P w K mg base k a__law_least d__law_least ["_law_orders_here"] f__law_least)
    {a_least_order : Addr} {d_least_order : FuncData} {f_least_order : List D → GH → R D}
    (t_least_order : Tx K mg "least_order" ["orders"] [] a_least_order d_least_order)
    (g_least_order : FnD P w K mg base k a_least_order d_least_order ["orders"] f_least_order)
    {a__law_is_ring : Addr} {d__law_is_ring : FuncData} {f__law_is_ring : List D → GH → R D}
    (t__law_is_ring : Tx K mg "_law_is_ring" ["_law_orders_here", "_law_ring"] [] a__law_is_ring d__law_is_ring)
    (g__law_is_ring : FnD P w K mg base k a__law_is_ring d__law_is_ring ["_law_orders_here", "_law_ring"] f__law_is_ring) :
    FnD P w K mg base (k + 1) f fd ["_law_orders_here"] (defF ["_law_orders_here", "_law_original", "_law_told", "_law_due", "_law_kept"] (b__law_right f__law_least f_least_order f__law_is_ring)) :=
  fnD F sc__law_right fun cdv A outer s H E hr gd => by
    have sc := sc__law_right
    have hu := hr.units
    have hu1 := hu_of hr
    exact
      (xs_cons (xs_set (i := 1) sc.nd rfl (by first | exact .inl rfl | exact .inr rfl) (xe_repr2 gd hu T.z_repr (xa_cons (xv 0) xa_nil)))
      (xs_cons (xs_par2 (i := 2) (j := 3) rfl sc.nd rfl rfl (by decide) rfl rfl (xa_cons (xe_call tkB hr gd t_least_order g_least_order (fun _ => Reps.nil) rfl (xa_cons (xv 0) xa_nil)) (xa_cons (xe_call tkB hr gd t__law_least g__law_least (fun _ => Reps.nil) rfl (xa_cons (xv 0) xa_nil)) xa_nil)) (by rfl))
      (xs_cons (xs_if (xt_w (xw_or (xt_not (xt_tru (xe_isi (T := "tuple") (by decide) (by decide +kernel) T.z_isinstance T.z_tuple (by decide) (by decide) (xv 2)))) (xw_or (xt_cmp (L2.op_neD hu) o2_ne (xe_len T.z_len (xa_cons (xv 2) xa_nil)) xe_int (by rfl)) (xw_or1 (xt_not (xt_tru (xe_isi (T := "list") (by decide) (by decide +kernel) T.z_isinstance T.z_list (by decide) (by decide) (xe_ix hu1 (xv 2) xe_int)))))))) (xs_one (xs_ret xe_bl)) xs_nil)
      (xs_cons (xs_if (xt_w (xw_and (xt_cmp L2.op_notN o2_notN (xv 3) xe_non (by rfl)) (xw_and1 (xt_cmp L2.op_ne o2_neT (xe_repr2 gd hu T.z_repr (xa_cons (xv 2) xa_nil)) (xe_repr2 gd hu T.z_repr (xa_cons (xe_tup (xa_cons xe_str (xa_cons (xv 3) xa_nil))) xa_nil)) (by rfl))))) (xs_one (xs_ret xe_bl)) xs_nil)
      (xs_cons (xs_if (xt_w (xw_and (xt_cmp L2.op_notN o2_notN (xv 3) xe_non (by rfl)) (xw_and1 (xt_cmp L2.op_ne o2_neT (xe_repr2 gd hu T.z_repr (xa_cons (xe_call tkB hr gd t_least_order g_least_order (fun _ => Reps.nil) rfl (xa_cons (xe_rev mkF_ok (xv 0)) xa_nil)) xa_nil)) (xe_repr2 gd hu T.z_repr (xa_cons (xv 2) xa_nil)) (by rfl))))) (xs_one (xs_ret xe_bl)) xs_nil)
      (xs_cons (xs_if (xt_w (xw_and (xt_cmp L2.op_isN o2_isN (xv 3) xe_non (by rfl)) (xw_and1 (xt_w (xw_or (xt_cmp (L2.op_neD hu) o2_ne (xe_ix hu1 (xv 2) xe_int) xe_str (by rfl)) (xw_or1 (xt_not (xt_tru (xe_call tkB hr gd t__law_is_ring g__law_is_ring (fun _ => Reps.nil) rfl (xa_cons (xv 0) (xa_cons (xe_ix hu1 (xv 2) xe_int) xa_nil))))))))))) (xs_one (xs_ret xe_bl)) xs_nil)
      (xs_cons (xs_set (i := 4) sc.nd rfl (by first | exact .inl rfl | exact .inr rfl) (xe_repr2 gd hu T.z_repr (xa_cons (xv 2) xa_nil)))
      (xs_cons (xs_expr (xe_append (xe_ix hu1 (xv 2) xe_int) (xa_cons xe_str xa_nil)))
      (xs_one (xs_ret (xe_and (xe_cmp L2.op_eq o2_eqT (xe_repr2 gd hu T.z_repr (xa_cons (xe_call tkB hr gd t_least_order g_least_order (fun _ => Reps.nil) rfl (xa_cons (xv 0) xa_nil)) xa_nil)) (xv 4) (by rfl)) (xe_one (xe_cmp L2.op_eq o2_eqT (xe_repr2 gd hu T.z_repr (xa_cons (xv 0) xa_nil)) (xv 1) (by rfl))))))))))))))
/-! law -/
abbrev s_law : Stmt := top 33
theorem sc_law : FnScope ["_law_script", "_law_some_here", "_law_orders_here", "_law_cell"] ["_law_script"] (defScope s_law) := ⟨rfl, rfl, rfl, by decide +kernel, rfl, by decide +kernel, by decide +kernel⟩
theorem ok_law {P : Program} {w : World} {K : PySem.W.Frag} {mg : Str → Option Value} {base : Heap} {k : Nat} {f : Addr} {fd : FuncData} (T : Top K mg) (F : FnAt K "law" "law" s_law f fd)
    {a__law_right : Addr} {d__law_right : FuncData} {f__law_right : List D → GH → R D}
    (t__law_right : Tx K mg "_law_right" ["_law_orders_here"] [] a__law_right d__law_right)
    (g__law_right : FnD P w K mg base k a__law_right d__law_right ["_law_orders_here"] f__law_right)
    {a__law_cell_at : Addr} {d__law_cell_at : FuncData} {f__law_cell_at : List D → GH → R D}
    (t__law_cell_at : Tx K mg "_law_cell_at" ["_law_script", "_law_k"] [] a__law_cell_at d__law_cell_at)
    (g__law_cell_at : FnD P w K mg base k a__law_cell_at d__law_cell_at ["_law_script", "_law_k"] f__law_cell_at)
    {a__law_orders : Addr} {d__law_orders : FuncData} {f__law_orders : List D → GH → R D}
    (t__law_orders : Tx K mg "_law_orders" ["_law_source_here", "_law_most"] [] a__law_orders d__law_orders)
    (g__law_orders : FnD P w K mg base k a__law_orders d__law_orders ["_law_source_here", "_law_most"] f__law_orders)
    {a__law_source : Addr} {d__law_source : FuncData} {f__law_source : List D → GH → R D}
    (t__law_source : Tx K mg "_law_source" ["_law_cell"] [] a__law_source d__law_source)
    (g__law_source : FnD P w K mg base k a__law_source d__law_source ["_law_cell"] f__law_source) :
    FnD P w K mg base (k + 1) f fd ["_law_script"] (defF ["_law_script", "_law_some_here", "_law_orders_here", "_law_cell"] (b_law f__law_right f__law_cell_at f__law_orders f__law_source)) :=
  fnD F sc_law fun cdv A outer s H E hr gd => by
    have sc := sc_law
    have hu := hr.units
    have hu1 := hu_of hr
    exact
      (xs_cons (xs_set (i := 1) sc.nd rfl (by first | exact .inl rfl | exact .inr rfl) (xe_lst (xa_cons (xe_lst xa_nil) (xa_cons (xe_lst (xa_cons (xe_lst xa_nil) xa_nil)) (xa_cons (xe_lst (xa_cons (xe_tup xa_nil) (xa_cons (xe_lst (xa_cons xe_str xa_nil)) xa_nil))) (xa_cons (xe_lst (xa_cons (xe_lst (xa_cons xe_str (xa_cons xe_str xa_nil))) (xa_cons (xe_tup (xa_cons xe_str (xa_cons xe_str xa_nil))) xa_nil))) (xa_cons (xe_lst (xa_cons (xe_lst (xa_cons xe_str xa_nil)) (xa_cons (xe_lst (xa_cons xe_str xa_nil)) xa_nil))) xa_nil)))))))
      (xs_cons (xs_for (us := [2]) psB rfl (xi_seq (xe_op opr_add (o2_add mkF_ok) (xv 1) (xe_lst (xa_cons (xe_lst (xa_cons (xe_lst (xa_cons xe_str (xa_cons xe_str xa_nil))) (xa_cons (xe_lst (xa_cons xe_str (xa_cons xe_str xa_nil))) (xa_cons (xe_lst (xa_cons xe_str (xa_cons xe_str xa_nil))) xa_nil)))) xa_nil)))) (xg_name (i := 2) (vs := [2]) sc.nd rfl (by first | exact .inl rfl | exact .inr rfl) (by decide))
        (xs_one (xs_if (xt_not (xt_tru (xe_call tkB hr gd t__law_right g__law_right (fun _ => Reps.nil) rfl (xa_cons (xv 2) xa_nil)))) (xs_one (xs_ret xe_bl)) xs_nil)))
      (xs_cons (xs_for (us := [3]) psB rfl (xi_seq (xe_op opr_add (o2_add mkF_ok) (xe_lst (xa_cons (xe_call tkB hr gd t__law_cell_at g__law_cell_at (fun _ => Reps.nil) rfl (xa_cons (xv 0) (xa_cons xe_int xa_nil))) xa_nil)) (xe_sl mkF_ok (xv 0) (xO.some xe_int) (xO.some xe_int)))) (xg_name (i := 3) (vs := [3]) sc.nd rfl (by first | exact .inl rfl | exact .inr rfl) (by decide))
        (xs_one (xs_if (xt_not (xt_tru (xe_call tkB hr gd t__law_right g__law_right (fun _ => Reps.nil) rfl (xa_cons (xe_call tkB hr gd t__law_orders g__law_orders (fun _ => Reps.nil) rfl (xa_cons (xe_call tkB hr gd t__law_source g__law_source (fun _ => Reps.nil) rfl (xa_cons (xv 3) xa_nil)) (xa_cons xe_int xa_nil))) xa_nil)))) (xs_one (xs_ret xe_bl)) xs_nil)))
      (xs_one (xs_ret xe_bl)))))
end K06
end CF
end
section
set_option maxRecDepth 100000
set_option maxHeartbeats 0
namespace CF
namespace K06
open PySem PySem.Spec PyProof.Rows L2 OA
def dd_is_name : He.DefD := ⟨("is_name", none), "is_name", "is_name", defArgs s_is_name, defBody s_is_name, defScope s_is_name, [], []⟩
def dd_is_order : He.DefD := ⟨("is_order", none), "is_order", "is_order", defArgs s_is_order, defBody s_is_order, defScope s_is_order, [], []⟩
def dd_check_orders : He.DefD := ⟨("check_orders", none), "check_orders", "check_orders", defArgs s_check_orders, defBody s_check_orders, defScope s_check_orders, [], []⟩
def dd_links_of : He.DefD := ⟨("links_of", none), "links_of", "links_of", defArgs s_links_of, defBody s_links_of, defScope s_links_of, [], []⟩
def dd_nexts_of : He.DefD := ⟨("nexts_of", none), "nexts_of", "nexts_of", defArgs s_nexts_of, defBody s_nexts_of, defScope s_nexts_of, [], []⟩
def dd_reached_from : He.DefD := ⟨("reached_from", none), "reached_from", "reached_from", defArgs s_reached_from, defBody s_reached_from, defScope s_reached_from, [], []⟩
def dd_links_on_rings : He.DefD := ⟨("links_on_rings", none), "links_on_rings", "links_on_rings", defArgs s_links_on_rings, defBody s_links_on_rings, defScope s_links_on_rings, [], []⟩
def dd_ring_in : He.DefD := ⟨("ring_in", none), "ring_in", "ring_in", defArgs s_ring_in, defBody s_ring_in, defScope s_ring_in, [], []⟩
def dd_first_free : He.DefD := ⟨("first_free", none), "first_free", "first_free", defArgs s_first_free, defBody s_first_free, defScope s_first_free, [], []⟩
def dd_kept_order : He.DefD := ⟨("kept_order", none), "kept_order", "kept_order", defArgs s_kept_order, defBody s_kept_order, defScope s_kept_order, [], []⟩
def dd_least_order : He.DefD := ⟨("least_order", none), "least_order", "least_order", defArgs s_least_order, defBody s_least_order, defScope s_least_order, [], []⟩
def dd__law_cell_at : He.DefD := ⟨("_law_cell_at", none), "_law_cell_at", "_law_cell_at", defArgs s__law_cell_at, defBody s__law_cell_at, defScope s__law_cell_at, [], []⟩
def dd__law_source : He.DefD := ⟨("_law_source", none), "_law_source", "_law_source", defArgs s__law_source, defBody s__law_source, defScope s__law_source, [], []⟩
def dd__law_draw : He.DefD := ⟨("_law_draw", none), "_law_draw", "_law_draw", defArgs s__law_draw, defBody s__law_draw, defScope s__law_draw, [], []⟩
def dd__law_names : He.DefD := ⟨("_law_names", none), "_law_names", "_law_names", defArgs s__law_names, defBody s__law_names, defScope s__law_names, [], []⟩
def dd__law_some : He.DefD := ⟨("_law_some", none), "_law_some", "_law_some", defArgs s__law_some, defBody s__law_some, defScope s__law_some, [], []⟩
def dd__law_orders : He.DefD := ⟨("_law_orders", none), "_law_orders", "_law_orders", defArgs s__law_orders, defBody s__law_orders, defScope s__law_orders, [], []⟩
def dd__law_ahead : He.DefD := ⟨("_law_ahead", none), "_law_ahead", "_law_ahead", defArgs s__law_ahead, defBody s__law_ahead, defScope s__law_ahead, [], []⟩
def dd__law_least : He.DefD := ⟨("_law_least", none), "_law_least", "_law_least", defArgs s__law_least, defBody s__law_least, defScope s__law_least, [], []⟩
def dd__law_is_ring : He.DefD := ⟨("_law_is_ring", none), "_law_is_ring", "_law_is_ring", defArgs s__law_is_ring, defBody s__law_is_ring, defScope s__law_is_ring, [], []⟩
def dd__law_right : He.DefD := ⟨("_law_right", none), "_law_right", "_law_right", defArgs s__law_right, defBody s__law_right, defScope s__law_right, [], []⟩
def dd_law : He.DefD := ⟨("law", none), "law", "law", defArgs s_law, defBody s_law, defScope s_law, [], []⟩
def fnL : List He.DefD := [dd_is_name, dd_is_order, dd_check_orders, dd_links_of, dd_nexts_of, dd_reached_from, dd_links_on_rings, dd_ring_in, dd_first_free, dd_kept_order, dd_least_order, dd__law_cell_at, dd__law_source, dd__law_draw, dd__law_names, dd__law_some, dd__law_orders, dd__law_ahead, dd__law_least, dd__law_is_ring, dd__law_right, dd_law]
def faL : List He.Fa := [.glo "is_name", .glo "is_order", .glo "check_orders", .glo "links_of", .glo "nexts_of", .glo "reached_from", .glo "links_on_rings", .glo "ring_in", .glo "first_free", .glo "kept_order", .glo "least_order", .glo "_law_cell_at", .glo "_law_source", .glo "_law_draw", .glo "_law_names", .glo "_law_some", .glo "_law_orders", .glo "_law_ahead", .glo "_law_least", .glo "_law_is_ring", .glo "_law_right", .glo "law", .free "all", .free "any", .free "bool", .free "enumerate", .free "int", .free "isinstance", .free "len", .free "list", .free "range", .free "repr", .free "set", .free "sorted", .free "str", .free "tuple", .free "zip", .str "LETTERS" "abcdefghijklmnopqrstuvwxyz", .int "MOST_ITEMS" (40), .int "MOST_LETTERS" (8), .int "MOST_ORDERS" (40)]
abbrev RW : PySem.W.OpenRow := PySem.W.OpenLaw.row PySem.Challenge.rw_claimfield_k06_whole_least_orders
abbrev hkL : PySem.W.Hook := He.hookD 4 faL fnL
def obL (s : PySem.W.SharedT) : He.AlD := He.obsDG 4 faL fnL (HandSHeadRun.getT s)
theorem obL_eq (s : PySem.W.SharedT) : obL s = hkL.obs s.abs := He.obsDG_eq (HandSHeadRun.getT_eq s)
def nmL : List Str := ["ClaimError", "BadOrders", "TooMany", "LETTERS", "MOST_LETTERS", "is_name", "MOST_ORDERS", "MOST_ITEMS", "is_order", "check_orders", "links_of", "nexts_of", "reached_from", "links_on_rings", "ring_in", "first_free", "kept_order", "least_order", "_law_cell_at", "_law_source", "_law_draw", "_law_pick", "_law_names", "_law_some", "_law_orders", "_law_ahead", "_law_least", "_law_is_ring", "_law_right"]
theorem runL (w : World) : HandSHeadRun.RunEq RW (PySem.W.view RW.prog [33]) hkL obL 4000 nmL w := by
  intro os
  kernel_rfl
theorem law_fn {P : Program} {w : World} {K : PySem.W.Frag} {mg : Str → Option Value} {base : Heap} (T : Top K mg)
    {a_is_name : Addr} {d_is_name : FuncData} (H_is_name : FnAt K "is_name" "is_name" s_is_name a_is_name d_is_name)
    (t_is_name : Tx K mg "is_name" ["value"] [] a_is_name d_is_name)
    {a_is_order : Addr} {d_is_order : FuncData} (H_is_order : FnAt K "is_order" "is_order" s_is_order a_is_order d_is_order)
    (t_is_order : Tx K mg "is_order" ["value"] [] a_is_order d_is_order)
    {a_check_orders : Addr} {d_check_orders : FuncData} (H_check_orders : FnAt K "check_orders" "check_orders" s_check_orders a_check_orders d_check_orders)
    (t_check_orders : Tx K mg "check_orders" ["orders"] [] a_check_orders d_check_orders)
    {a_links_of : Addr} {d_links_of : FuncData} (H_links_of : FnAt K "links_of" "links_of" s_links_of a_links_of d_links_of)
    (t_links_of : Tx K mg "links_of" ["orders"] [] a_links_of d_links_of)
    {a_nexts_of : Addr} {d_nexts_of : FuncData} (H_nexts_of : FnAt K "nexts_of" "nexts_of" s_nexts_of a_nexts_of d_nexts_of)
    (t_nexts_of : Tx K mg "nexts_of" ["orders"] [] a_nexts_of d_nexts_of)
    {a_reached_from : Addr} {d_reached_from : FuncData} (H_reached_from : FnAt K "reached_from" "reached_from" s_reached_from a_reached_from d_reached_from)
    (t_reached_from : Tx K mg "reached_from" ["nexts", "start"] [] a_reached_from d_reached_from)
    {a_links_on_rings : Addr} {d_links_on_rings : FuncData} (H_links_on_rings : FnAt K "links_on_rings" "links_on_rings" s_links_on_rings a_links_on_rings d_links_on_rings)
    (t_links_on_rings : Tx K mg "links_on_rings" ["orders"] [] a_links_on_rings d_links_on_rings)
    {a_ring_in : Addr} {d_ring_in : FuncData} (H_ring_in : FnAt K "ring_in" "ring_in" s_ring_in a_ring_in d_ring_in)
    (t_ring_in : Tx K mg "ring_in" ["links"] [] a_ring_in d_ring_in)
    {a_first_free : Addr} {d_first_free : FuncData} (H_first_free : FnAt K "first_free" "first_free" s_first_free a_first_free d_first_free)
    (t_first_free : Tx K mg "first_free" ["left", "counts"] [] a_first_free d_first_free)
    {a_kept_order : Addr} {d_kept_order : FuncData} (H_kept_order : FnAt K "kept_order" "kept_order" s_kept_order a_kept_order d_kept_order)
    (t_kept_order : Tx K mg "kept_order" ["orders"] [] a_kept_order d_kept_order)
    {a_least_order : Addr} {d_least_order : FuncData} (H_least_order : FnAt K "least_order" "least_order" s_least_order a_least_order d_least_order)
    (t_least_order : Tx K mg "least_order" ["orders"] [] a_least_order d_least_order)
    {a__law_cell_at : Addr} {d__law_cell_at : FuncData} (H__law_cell_at : FnAt K "_law_cell_at" "_law_cell_at" s__law_cell_at a__law_cell_at d__law_cell_at)
    (t__law_cell_at : Tx K mg "_law_cell_at" ["_law_script", "_law_k"] [] a__law_cell_at d__law_cell_at)
    {a__law_source : Addr} {d__law_source : FuncData} (H__law_source : FnAt K "_law_source" "_law_source" s__law_source a__law_source d__law_source)
    (t__law_source : Tx K mg "_law_source" ["_law_cell"] [] a__law_source d__law_source)
    {a__law_draw : Addr} {d__law_draw : FuncData} (H__law_draw : FnAt K "_law_draw" "_law_draw" s__law_draw a__law_draw d__law_draw)
    (t__law_draw : Tx K mg "_law_draw" ["_law_source_here", "_law_size"] [] a__law_draw d__law_draw)
    {a__law_names : Addr} {d__law_names : FuncData} (H__law_names : FnAt K "_law_names" "_law_names" s__law_names a__law_names d__law_names)
    (t__law_names : Tx K mg "_law_names" ["_law_source_here"] [] a__law_names d__law_names)
    {a__law_some : Addr} {d__law_some : FuncData} (H__law_some : FnAt K "_law_some" "_law_some" s__law_some a__law_some d__law_some)
    (t__law_some : Tx K mg "_law_some" ["_law_source_here", "_law_names_here"] [] a__law_some d__law_some)
    {a__law_orders : Addr} {d__law_orders : FuncData} (H__law_orders : FnAt K "_law_orders" "_law_orders" s__law_orders a__law_orders d__law_orders)
    (t__law_orders : Tx K mg "_law_orders" ["_law_source_here", "_law_most"] [] a__law_orders d__law_orders)
    {a__law_ahead : Addr} {d__law_ahead : FuncData} (H__law_ahead : FnAt K "_law_ahead" "_law_ahead" s__law_ahead a__law_ahead d__law_ahead)
    (t__law_ahead : Tx K mg "_law_ahead" ["_law_orders_here"] [] a__law_ahead d__law_ahead)
    {a__law_least : Addr} {d__law_least : FuncData} (H__law_least : FnAt K "_law_least" "_law_least" s__law_least a__law_least d__law_least)
    (t__law_least : Tx K mg "_law_least" ["_law_orders_here"] [] a__law_least d__law_least)
    {a__law_is_ring : Addr} {d__law_is_ring : FuncData} (H__law_is_ring : FnAt K "_law_is_ring" "_law_is_ring" s__law_is_ring a__law_is_ring d__law_is_ring)
    (t__law_is_ring : Tx K mg "_law_is_ring" ["_law_orders_here", "_law_ring"] [] a__law_is_ring d__law_is_ring)
    {a__law_right : Addr} {d__law_right : FuncData} (H__law_right : FnAt K "_law_right" "_law_right" s__law_right a__law_right d__law_right)
    (t__law_right : Tx K mg "_law_right" ["_law_orders_here"] [] a__law_right d__law_right)
    {a_law : Addr} {d_law : FuncData} (H_law : FnAt K "law" "law" s_law a_law d_law) :
    FnD P w K mg base 6 a_law d_law ["_law_script"] (F_law) := by
  have g_name := ok_is_name (P := P) (w := w) (base := base) (k := 0) T H_is_name
  have g_order : FnD P w K mg base 2 a_is_order d_is_order ["value"] F_order := ok_is_order T H_is_order t_is_name g_name
  have g_check : FnD P w K mg base 3 a_check_orders d_check_orders ["orders"] F_check := ok_check_orders T H_check_orders t_is_order g_order
  have g_links : FnD P w K mg base 1 a_links_of d_links_of ["orders"] F_links := ok_links_of T H_links_of
  have g_nexts : FnD P w K mg base 2 a_nexts_of d_nexts_of ["orders"] F_nexts := FnD.le (ok_nexts_of T H_nexts_of t_links_of g_links) fun ds G => .inr rfl
  have g_reach : FnD P w K mg base 1 a_reached_from d_reached_from ["nexts", "start"] F_reach := FnD.le (ok_reached_from T H_reached_from) fun ds G => .inr rfl
  have g_lor : FnD P w K mg base 3 a_links_on_rings d_links_on_rings ["orders"] F_lor := ok_links_on_rings T H_links_on_rings t_nexts_of g_nexts t_reached_from (g_reach.mono (by decide)) t_links_of (g_links.mono (by decide))
  have g_ring : FnD P w K mg base 1 a_ring_in d_ring_in ["links"] F_ring := ok_ring_in T H_ring_in
  have g_first : FnD P w K mg base 1 a_first_free d_first_free ["left", "counts"] F_first := ok_first_free T H_first_free
  have g_kept : FnD P w K mg base 3 a_kept_order d_kept_order ["orders"] F_kept := ok_kept_order T H_kept_order t_nexts_of g_nexts t_links_of (g_links.mono (by decide)) t_first_free (g_first.mono (by decide))
  have g_least : FnD P w K mg base 4 a_least_order d_least_order ["orders"] F_least := ok_least_order T H_least_order t_check_orders g_check t_kept_order g_kept t_ring_in (g_ring.mono (by decide)) t_links_on_rings g_lor
  have g_at : FnD P w K mg base 1 a__law_cell_at d__law_cell_at ["_law_script", "_law_k"] F_at := ok__law_cell_at T H__law_cell_at
  have g_src : FnD P w K mg base 1 a__law_source d__law_source ["_law_cell"] F_src := ok__law_source T H__law_source
  have g_draw : FnD P w K mg base 1 a__law_draw d__law_draw ["_law_source_here", "_law_size"] F_draw := ok__law_draw T H__law_draw
  have g_nm : FnD P w K mg base 2 a__law_names d__law_names ["_law_source_here"] F_nm := FnD.le (ok__law_names T H__law_names t__law_draw g_draw) fun ds G => .inr rfl
  have g_some : FnD P w K mg base 2 a__law_some d__law_some ["_law_source_here", "_law_names_here"] F_some := ok__law_some T H__law_some t__law_draw g_draw
  have g_ord : FnD P w K mg base 3 a__law_orders d__law_orders ["_law_source_here", "_law_most"] F_ord := FnD.le (ok__law_orders T H__law_orders t__law_names g_nm t__law_draw (g_draw.mono (by decide)) t__law_some g_some) fun ds G => .inr rfl
  have g_ah : FnD P w K mg base 1 a__law_ahead d__law_ahead ["_law_orders_here"] F_ah := FnD.le (ok__law_ahead T H__law_ahead) fun ds G => .inr rfl
  have g_lst : FnD P w K mg base 2 a__law_least d__law_least ["_law_orders_here"] F_lst := FnD.le (ok__law_least T H__law_least t__law_ahead g_ah) fun ds G => .inr rfl
  have g_isr : FnD P w K mg base 1 a__law_is_ring d__law_is_ring ["_law_orders_here", "_law_ring"] F_isr := ok__law_is_ring T H__law_is_ring
  have g_right : FnD P w K mg base 5 a__law_right d__law_right ["_law_orders_here"] F_right := ok__law_right T H__law_right t__law_least (g_lst.mono (by decide)) t_least_order g_least t__law_is_ring (g_isr.mono (by decide))
  exact ok_law T H_law t__law_right g_right t__law_cell_at (g_at.mono (by decide)) t__law_orders (g_ord.mono (by decide)) t__law_source (g_src.mono (by decide))
theorem factsL {P : Program} {w : World} {K : PySem.W.Frag} {h : Heap} {mg : Str → Option Value} {f : Addr} (X : K.In h) (G : h.Ns mainGlobals mg) (hfa : mg ("law" : Str) = some (.ref f)) (c : He.SaysD faL fnL K) :
    ∃ fd : FuncData, (∀ (s : Shared) (v : Value), BindsTo s fd ⟨[v], []⟩ [("_law_script", v)]) ∧ ∀ base : Heap, K.In base → base.Ns mainGlobals mg → FnD P w K mg base 6 f fd ["_law_script"] (F_law) := by
  obtain ⟨d_is_name, H0_is_name⟩ := c.def_ 0 (d := dd_is_name) rfl
  have H_is_name : FunD K "is_name" "is_name" (defArgs s_is_name) (defBody s_is_name) (defScope s_is_name) [] [] (He.ga K "is_name") d_is_name := H0_is_name
  have g_is_name := He.glo_ok X G (c.fact 0 (f := .glo "is_name") rfl)
  obtain ⟨d_is_order, H0_is_order⟩ := c.def_ 1 (d := dd_is_order) rfl
  have H_is_order : FunD K "is_order" "is_order" (defArgs s_is_order) (defBody s_is_order) (defScope s_is_order) [] [] (He.ga K "is_order") d_is_order := H0_is_order
  have g_is_order := He.glo_ok X G (c.fact 1 (f := .glo "is_order") rfl)
  obtain ⟨d_check_orders, H0_check_orders⟩ := c.def_ 2 (d := dd_check_orders) rfl
  have H_check_orders : FunD K "check_orders" "check_orders" (defArgs s_check_orders) (defBody s_check_orders) (defScope s_check_orders) [] [] (He.ga K "check_orders") d_check_orders := H0_check_orders
  have g_check_orders := He.glo_ok X G (c.fact 2 (f := .glo "check_orders") rfl)
  obtain ⟨d_links_of, H0_links_of⟩ := c.def_ 3 (d := dd_links_of) rfl
  have H_links_of : FunD K "links_of" "links_of" (defArgs s_links_of) (defBody s_links_of) (defScope s_links_of) [] [] (He.ga K "links_of") d_links_of := H0_links_of
  have g_links_of := He.glo_ok X G (c.fact 3 (f := .glo "links_of") rfl)
  obtain ⟨d_nexts_of, H0_nexts_of⟩ := c.def_ 4 (d := dd_nexts_of) rfl
  have H_nexts_of : FunD K "nexts_of" "nexts_of" (defArgs s_nexts_of) (defBody s_nexts_of) (defScope s_nexts_of) [] [] (He.ga K "nexts_of") d_nexts_of := H0_nexts_of
  have g_nexts_of := He.glo_ok X G (c.fact 4 (f := .glo "nexts_of") rfl)
  obtain ⟨d_reached_from, H0_reached_from⟩ := c.def_ 5 (d := dd_reached_from) rfl
  have H_reached_from : FunD K "reached_from" "reached_from" (defArgs s_reached_from) (defBody s_reached_from) (defScope s_reached_from) [] [] (He.ga K "reached_from") d_reached_from := H0_reached_from
  have g_reached_from := He.glo_ok X G (c.fact 5 (f := .glo "reached_from") rfl)
  obtain ⟨d_links_on_rings, H0_links_on_rings⟩ := c.def_ 6 (d := dd_links_on_rings) rfl
  have H_links_on_rings : FunD K "links_on_rings" "links_on_rings" (defArgs s_links_on_rings) (defBody s_links_on_rings) (defScope s_links_on_rings) [] [] (He.ga K "links_on_rings") d_links_on_rings := H0_links_on_rings
  have g_links_on_rings := He.glo_ok X G (c.fact 6 (f := .glo "links_on_rings") rfl)
  obtain ⟨d_ring_in, H0_ring_in⟩ := c.def_ 7 (d := dd_ring_in) rfl
  have H_ring_in : FunD K "ring_in" "ring_in" (defArgs s_ring_in) (defBody s_ring_in) (defScope s_ring_in) [] [] (He.ga K "ring_in") d_ring_in := H0_ring_in
  have g_ring_in := He.glo_ok X G (c.fact 7 (f := .glo "ring_in") rfl)
  obtain ⟨d_first_free, H0_first_free⟩ := c.def_ 8 (d := dd_first_free) rfl
  have H_first_free : FunD K "first_free" "first_free" (defArgs s_first_free) (defBody s_first_free) (defScope s_first_free) [] [] (He.ga K "first_free") d_first_free := H0_first_free
  have g_first_free := He.glo_ok X G (c.fact 8 (f := .glo "first_free") rfl)
  obtain ⟨d_kept_order, H0_kept_order⟩ := c.def_ 9 (d := dd_kept_order) rfl
  have H_kept_order : FunD K "kept_order" "kept_order" (defArgs s_kept_order) (defBody s_kept_order) (defScope s_kept_order) [] [] (He.ga K "kept_order") d_kept_order := H0_kept_order
  have g_kept_order := He.glo_ok X G (c.fact 9 (f := .glo "kept_order") rfl)
  obtain ⟨d_least_order, H0_least_order⟩ := c.def_ 10 (d := dd_least_order) rfl
  have H_least_order : FunD K "least_order" "least_order" (defArgs s_least_order) (defBody s_least_order) (defScope s_least_order) [] [] (He.ga K "least_order") d_least_order := H0_least_order
  have g_least_order := He.glo_ok X G (c.fact 10 (f := .glo "least_order") rfl)
  obtain ⟨d__law_cell_at, H0__law_cell_at⟩ := c.def_ 11 (d := dd__law_cell_at) rfl
  have H__law_cell_at : FunD K "_law_cell_at" "_law_cell_at" (defArgs s__law_cell_at) (defBody s__law_cell_at) (defScope s__law_cell_at) [] [] (He.ga K "_law_cell_at") d__law_cell_at := H0__law_cell_at
  have g__law_cell_at := He.glo_ok X G (c.fact 11 (f := .glo "_law_cell_at") rfl)
  obtain ⟨d__law_source, H0__law_source⟩ := c.def_ 12 (d := dd__law_source) rfl
  have H__law_source : FunD K "_law_source" "_law_source" (defArgs s__law_source) (defBody s__law_source) (defScope s__law_source) [] [] (He.ga K "_law_source") d__law_source := H0__law_source
  have g__law_source := He.glo_ok X G (c.fact 12 (f := .glo "_law_source") rfl)
  obtain ⟨d__law_draw, H0__law_draw⟩ := c.def_ 13 (d := dd__law_draw) rfl
  have H__law_draw : FunD K "_law_draw" "_law_draw" (defArgs s__law_draw) (defBody s__law_draw) (defScope s__law_draw) [] [] (He.ga K "_law_draw") d__law_draw := H0__law_draw
  have g__law_draw := He.glo_ok X G (c.fact 13 (f := .glo "_law_draw") rfl)
  obtain ⟨d__law_names, H0__law_names⟩ := c.def_ 14 (d := dd__law_names) rfl
  have H__law_names : FunD K "_law_names" "_law_names" (defArgs s__law_names) (defBody s__law_names) (defScope s__law_names) [] [] (He.ga K "_law_names") d__law_names := H0__law_names
  have g__law_names := He.glo_ok X G (c.fact 14 (f := .glo "_law_names") rfl)
  obtain ⟨d__law_some, H0__law_some⟩ := c.def_ 15 (d := dd__law_some) rfl
  have H__law_some : FunD K "_law_some" "_law_some" (defArgs s__law_some) (defBody s__law_some) (defScope s__law_some) [] [] (He.ga K "_law_some") d__law_some := H0__law_some
  have g__law_some := He.glo_ok X G (c.fact 15 (f := .glo "_law_some") rfl)
  obtain ⟨d__law_orders, H0__law_orders⟩ := c.def_ 16 (d := dd__law_orders) rfl
  have H__law_orders : FunD K "_law_orders" "_law_orders" (defArgs s__law_orders) (defBody s__law_orders) (defScope s__law_orders) [] [] (He.ga K "_law_orders") d__law_orders := H0__law_orders
  have g__law_orders := He.glo_ok X G (c.fact 16 (f := .glo "_law_orders") rfl)
  obtain ⟨d__law_ahead, H0__law_ahead⟩ := c.def_ 17 (d := dd__law_ahead) rfl
  have H__law_ahead : FunD K "_law_ahead" "_law_ahead" (defArgs s__law_ahead) (defBody s__law_ahead) (defScope s__law_ahead) [] [] (He.ga K "_law_ahead") d__law_ahead := H0__law_ahead
  have g__law_ahead := He.glo_ok X G (c.fact 17 (f := .glo "_law_ahead") rfl)
  obtain ⟨d__law_least, H0__law_least⟩ := c.def_ 18 (d := dd__law_least) rfl
  have H__law_least : FunD K "_law_least" "_law_least" (defArgs s__law_least) (defBody s__law_least) (defScope s__law_least) [] [] (He.ga K "_law_least") d__law_least := H0__law_least
  have g__law_least := He.glo_ok X G (c.fact 18 (f := .glo "_law_least") rfl)
  obtain ⟨d__law_is_ring, H0__law_is_ring⟩ := c.def_ 19 (d := dd__law_is_ring) rfl
  have H__law_is_ring : FunD K "_law_is_ring" "_law_is_ring" (defArgs s__law_is_ring) (defBody s__law_is_ring) (defScope s__law_is_ring) [] [] (He.ga K "_law_is_ring") d__law_is_ring := H0__law_is_ring
  have g__law_is_ring := He.glo_ok X G (c.fact 19 (f := .glo "_law_is_ring") rfl)
  obtain ⟨d__law_right, H0__law_right⟩ := c.def_ 20 (d := dd__law_right) rfl
  have H__law_right : FunD K "_law_right" "_law_right" (defArgs s__law_right) (defBody s__law_right) (defScope s__law_right) [] [] (He.ga K "_law_right") d__law_right := H0__law_right
  have g__law_right := He.glo_ok X G (c.fact 20 (f := .glo "_law_right") rfl)
  obtain ⟨d_law, H0_law⟩ := c.def_ 21 (d := dd_law) rfl
  have H_law : FunD K "law" "law" (defArgs s_law) (defBody s_law) (defScope s_law) [] [] (He.ga K "law") d_law := H0_law
  have g_law := He.glo_ok X G (c.fact 21 (f := .glo "law") rfl)
  have e := hfa.symm.trans g_law
  cases e
  have T : Top K mg := ⟨He.free_ok X G (c.fact 22 (f := .free "all") rfl),
    He.free_ok X G (c.fact 23 (f := .free "any") rfl),
    He.free_ok X G (c.fact 24 (f := .free "bool") rfl),
    He.free_ok X G (c.fact 25 (f := .free "enumerate") rfl),
    He.free_ok X G (c.fact 26 (f := .free "int") rfl),
    He.free_ok X G (c.fact 27 (f := .free "isinstance") rfl),
    He.free_ok X G (c.fact 28 (f := .free "len") rfl),
    He.free_ok X G (c.fact 29 (f := .free "list") rfl),
    He.free_ok X G (c.fact 30 (f := .free "range") rfl),
    He.free_ok X G (c.fact 31 (f := .free "repr") rfl),
    He.free_ok X G (c.fact 32 (f := .free "set") rfl),
    He.free_ok X G (c.fact 33 (f := .free "sorted") rfl),
    He.free_ok X G (c.fact 34 (f := .free "str") rfl),
    He.free_ok X G (c.fact 35 (f := .free "tuple") rfl),
    He.free_ok X G (c.fact 36 (f := .free "zip") rfl),
    He.str_ok X G (c.fact 37 (f := .str "LETTERS" "abcdefghijklmnopqrstuvwxyz") rfl),
    He.int_ok X G (c.fact 38 (f := .int "MOST_ITEMS" (40)) rfl),
    He.int_ok X G (c.fact 39 (f := .int "MOST_LETTERS" (8)) rfl),
    He.int_ok X G (c.fact 40 (f := .int "MOST_ORDERS" (40)) rfl)⟩
  exact ⟨d_law, fun s v => FunD.bindsA (ps := ["_law_script"]) H_law (fun _ _ _ _ _ _ us hl => match us, hl with | [_], _ => rfl) s [v] rfl, fun base _ _ => law_fn T
    (.mkD H_is_name)
    (Tx.ofN H_is_name g_is_name fun _ _ _ _ _ _ us hl => match us, hl with | [_], _ => rfl)
    (.mkD H_is_order)
    (Tx.ofN H_is_order g_is_order fun _ _ _ _ _ _ us hl => match us, hl with | [_], _ => rfl)
    (.mkD H_check_orders)
    (Tx.ofN H_check_orders g_check_orders fun _ _ _ _ _ _ us hl => match us, hl with | [_], _ => rfl)
    (.mkD H_links_of)
    (Tx.ofN H_links_of g_links_of fun _ _ _ _ _ _ us hl => match us, hl with | [_], _ => rfl)
    (.mkD H_nexts_of)
    (Tx.ofN H_nexts_of g_nexts_of fun _ _ _ _ _ _ us hl => match us, hl with | [_], _ => rfl)
    (.mkD H_reached_from)
    (Tx.ofN H_reached_from g_reached_from fun _ _ _ _ _ _ us hl => match us, hl with | [_, _], _ => rfl)
    (.mkD H_links_on_rings)
    (Tx.ofN H_links_on_rings g_links_on_rings fun _ _ _ _ _ _ us hl => match us, hl with | [_], _ => rfl)
    (.mkD H_ring_in)
    (Tx.ofN H_ring_in g_ring_in fun _ _ _ _ _ _ us hl => match us, hl with | [_], _ => rfl)
    (.mkD H_first_free)
    (Tx.ofN H_first_free g_first_free fun _ _ _ _ _ _ us hl => match us, hl with | [_, _], _ => rfl)
    (.mkD H_kept_order)
    (Tx.ofN H_kept_order g_kept_order fun _ _ _ _ _ _ us hl => match us, hl with | [_], _ => rfl)
    (.mkD H_least_order)
    (Tx.ofN H_least_order g_least_order fun _ _ _ _ _ _ us hl => match us, hl with | [_], _ => rfl)
    (.mkD H__law_cell_at)
    (Tx.ofN H__law_cell_at g__law_cell_at fun _ _ _ _ _ _ us hl => match us, hl with | [_, _], _ => rfl)
    (.mkD H__law_source)
    (Tx.ofN H__law_source g__law_source fun _ _ _ _ _ _ us hl => match us, hl with | [_], _ => rfl)
    (.mkD H__law_draw)
    (Tx.ofN H__law_draw g__law_draw fun _ _ _ _ _ _ us hl => match us, hl with | [_, _], _ => rfl)
    (.mkD H__law_names)
    (Tx.ofN H__law_names g__law_names fun _ _ _ _ _ _ us hl => match us, hl with | [_], _ => rfl)
    (.mkD H__law_some)
    (Tx.ofN H__law_some g__law_some fun _ _ _ _ _ _ us hl => match us, hl with | [_, _], _ => rfl)
    (.mkD H__law_orders)
    (Tx.ofN H__law_orders g__law_orders fun _ _ _ _ _ _ us hl => match us, hl with | [_, _], _ => rfl)
    (.mkD H__law_ahead)
    (Tx.ofN H__law_ahead g__law_ahead fun _ _ _ _ _ _ us hl => match us, hl with | [_], _ => rfl)
    (.mkD H__law_least)
    (Tx.ofN H__law_least g__law_least fun _ _ _ _ _ _ us hl => match us, hl with | [_], _ => rfl)
    (.mkD H__law_is_ring)
    (Tx.ofN H__law_is_ring g__law_is_ring fun _ _ _ _ _ _ us hl => match us, hl with | [_, _], _ => rfl)
    (.mkD H__law_right)
    (Tx.ofN H__law_right g__law_right fun _ _ _ _ _ _ us hl => match us, hl with | [_], _ => rfl)
    (.mkD H_law)⟩
end K06
end CF
open PySem PySem.W PySem.Calls PyProof.Rows
theorem PySem.Challenge.cw_claimfield_k06_whole_least_orders_holds : PySem.Challenge.rw_claimfield_k06_whole_least_orders.Holds := by
  w_on; o_law
  refine HandSHeadRun.head_any (r := OpenLaw.row PySem.Challenge.rw_claimfield_k06_whole_least_orders) (q := view (OpenLaw.row PySem.Challenge.rw_claimfield_k06_whole_least_orders).prog [33]) (H := CF.K06.hkL) (ob := CF.K06.obL) (M := 4000) (loose := CF.K06.nmL) (d := HandSHeadRun.topDef (OpenLaw.row PySem.Challenge.rw_claimfield_k06_whole_least_orders).prog 33) (kwd := []) CF.K06.obL_eq
    (by kernel_rfl) (fun s => by kernel_rfl) CF.K06.runL (by kernel_rfl) (by kernel_rfl) (by kernel_rfl) (by rfl) (by first | assumption | decide +kernel) (by decide +kernel) ⟨rfl, rfl, rfl, rfl, rfl, by decide +kernel⟩ ?hw ?hc
  case hw => w_witness2
  case hc =>
    refine CF.law_endE (l := PySem.Challenge.rw_claimfield_k06_whole_least_orders) (n := 63) (k := 6) (x := "_law_script") rfl (by decide) (by kernel_rfl) ⟨rfl, by decide, by decide⟩ ?F (fun ns hl hb => CF.OA.m_law ns hl)
    intro w mg fa h Y G hmg0
    obtain ⟨K, KX, c⟩ := Y
    have hmg : mg ("law" : PySem.Str) = some (.ref fa) := by
      have e : (HandSHeadRun.topDef (OpenLaw.row PySem.Challenge.rw_claimfield_k06_whole_least_orders).prog 33).name = ("law" : PySem.Str) := by kernel_rfl
      rw [← e]
      exact hmg0
    obtain ⟨fd, hb, hF⟩ := CF.K06.factsL (P := (PySem.Challenge.rw_claimfield_k06_whole_least_orders).prog) (w := w) KX G hmg c
    exact ⟨K, fd, KX, hb, hF⟩
end
