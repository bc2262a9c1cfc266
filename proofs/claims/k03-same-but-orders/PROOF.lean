import PyProof.Rows.All
import Wide.All
import OpenK.AllK
import Wide.FinOn
import HandS.Dict
import PyProof.Rows.SetFrom
import HandS.Base
import HandS.Call
import HandS.Exc
import HandS.Comp
import HandS.Wide
import HandS.ForMost
import HandS.TupAny
import HandS.IsInst
import HandS.Conv
import KE.SortData
import HandS.ForExc
import HandS.CallSlots
import HandS.Zip
import HandS.Words
import HandS.Defaults
import HandS.Style
import HandS.Flow
import HandS.List
import HandS.Ends
import HandS.EndBits
import HandS.RaiseMore
import HandS.More
import HandS.Strs
import HandS.Head0
import HandS.Head1
import HandS.Head2
import HandS.HeadEnd
import HandS.HeadHook1
import HandS.HeadHook2
import PySem.Challenge.RW_claimfield_k03_same_but_orders
set_option Elab.async false
set_option linter.all false
section
set_option maxRecDepth 100000
set_option maxHeartbeats 3200000
/-! What is shown over the heap alone: dict(..) of a tuple of pairs, set(..) of texts. -/
namespace CF
open PySem PySem.Spec PyProof.Rows L2
section
variable {prog : Program} {w : World} {A : Around} {E : Value → Shared → Prop}
theorem tup_nokeys : typeLookup (.type "tuple") "keys" = pure none := am_miss_of_fast (by first | decide +kernel | rfl)
theorem miss_tup {s : Shared} {a : Addr} {o : Obj} {xs : Array Value} {k : Nat} {Q : Option Value → Shared → Prop} (hx : s.heap.get? a = some o) (hc : o.cls = .type "tuple") (hdat : o.data = .seq xs k) (hd : o.dict = none) (hA : A.handled = none)
    (h : ∀ h' tk, (∀ b ob, s.heap.get? b = some ob → h'.get? b = some ob) → Q none { s with heap := h', toks := tk }) : wpAny (model prog w) A (getAttr? (.ref a) "keys") Q E s := by
  obtain ⟨c, dct, dat, sl⟩ := o
  simp only at hc hdat hd
  subst hc hdat hd
  obtain ⟨hp, g, d, tk, os⟩ := s
  have hT : ∀ tk', (⟨hp, g, d, tk', os⟩ : Shared).TypeIs (.ref a) "tuple" := fun _ => ⟨_, hx, rfl⟩
  have m0 := tup_nokeys
  have nm : (["__module__", "__name__", "__qualname__", "__doc__", "__annotations__"] : List Str).contains "keys" = false := by decide +kernel
  have sz : ("keys" : Str).length + 100 ≤ sizeLine := by first | size_fits | decide +kernel
  have f1 := sub_AttributeError
  have f3 := PySem.F.slot_tuple_getattribute.lookup
  have f4 := PySem.F.slot_tuple_getattribute.bind (.ref a)
  have f5 : typeLookup (.type "tuple") "__getattr__" = pure none := am_miss_of_fast (by first | decide +kernel | rfl)
  unfold getAttr? getAttrBy? getAttrBy
  repeat (any_goals (first | assumption | exact hT _ | ((with_reducible show wpAny _ _ (call (Value.builtin "tuple.__getattribute__") _ _) _ _ _); refine call_meets PySem.F.slot_tuple_getattribute (hT _) am_entry_tuple_getattribute (PySem.F.args_tuple_getattribute_2 _ _) (meets_getattribute_miss_tuple a xs k sl "keys" _ m0 nm sz) ⟨hx, hA, fun h' tk' e hx' => ?_⟩) | wp_step))
  obtain ⟨t', u', he⟩ := hx'.there
  show wpAny _ _ (getattributeRaised _ _ _ _ _ _ _) _ _ _
  unfold getattributeRaised
  repeat (any_goals (first | assumption | wp_step))
  all_goals first | exact h _ _ hx'.keeps | (dsimp only; repeat (any_goals (first | assumption | exact h _ _ hx'.keeps | wp_step)))

/-- the walk over the pairs of a tuple -/
theorem pairs_loop {R : Result → Shared → Prop} {S I l : Addr} {items : Array Value} {res : Value} (hh : A.handled = none) (lI : l ≠ I) (sI : S ≠ I) (sl : S ≠ l) :
    ∀ (todo : List (Key × Value)) (i : Nat) (got : List (Key × Value)) (ix : Int) (t : Tok) (s : Shared), items.size = i + todo.length → got.length + todo.length ≤ sizeLine →
      (∀ (j : Nat) (q : Key × Value), todo[j]? = some q → ∃ (b : Addr) (u : Value), items[i + j]? = some (.ref b) ∧ b ≠ S ∧ b ≠ I ∧ IsTup s.heap b #[u, q.2] ∧ keyIs q.1 u = true) →
      s.heap.IsTupleIter I l i → s.heap.IsTuple l items → s.heap.DictOf (mixKind prog w) S got →
      (∀ h' tk, h'.DictOf (mixKind prog w) S (merged got todo) → (∀ b o, b ≠ S → b ≠ I → s.heap.get? b = some o → h'.get? b = some o) → R (.ok (.ret res)) { s with heap := h', toks := tk }) →
      codeAny (model prog w) A (.builtin "dict.update.loop" ⟨[.ref S, .ref I, .int ix t, res], []⟩) R s
  | [], i, got, ix, t, s, sz, ln, ht, hit, hl, hm, hR => by
    refine codeAny_builtin ud_entry ?_
    rw [Around.under_plainId ud_plain _]
    show wpAny _ A.in1 (pyNext (.ref I) >>= _) _ _ s
    refine wpAny_bind (wpAny_pyNext_tuple_end (A := A.in1) hh hit hl (by first | exact Array.getElem?_eq_none (Nat.le_of_eq sz) | (simp at sz; simp; omega)) fun h' he => ?_)
    show wpAny _ A.in1 (Builtin.Dict.addKeywords S [] >>= _) _ _ _
    exact wpAny_bind (wpAny_pure (wpAny_pure (hR h' s.toks (hm.extBut he sI) fun b o _ hb e => he b o hb e)))
  | q :: todo, i, got, ix, t, s, sz, ln, ht, hit, hl, hm, hR => by
    obtain ⟨b, u, hb, bS, bI, tup, hk⟩ := ht 0 q rfl
    rw [List.length_cons] at sz ln
    refine codeAny_builtin ud_entry ?_
    rw [Around.under_plainId ud_plain _]
    show wpAny _ A.in1 (pyNext (.ref I) >>= _) _ _ s
    refine wpAny_bind (wpAny_pyNext_tuple_item (x := .ref b) hit hl (by simpa using hb) fun h1 it1 same1 => ?_)
    have tup1 : IsTup h1 b #[u, q.2] := tup.extBut same1.extBut bI
    have l1 : h1.IsTuple l items := hl.extBut same1.extBut lI
    have m1 : h1.DictOf (mixKind prog w) S got := hm.extBut same1.extBut sI
    obtain ⟨o, ho, hc, n, hd⟩ := id tup1
    show wpAny _ A.in1 (holding [Value.ref b] _ >>= _) _ _ _
    refine wpAny_bind (wpAny_holding (wpAny_bind (wpAny_tryCatch ?_)))
    unfold Builtin.Dict.pairItems
    refine wpAny_bind (wpAny_typeOf (T := "tuple") ⟨o, ho, hc⟩ ?_)
    rw [if_pos (by first | decide | rfl | simp)]
    refine wpAny_bind (wpAny_seqItems ho hd (wpAny_pure ?_))
    show wpAny _ A.in1 (holding [u, q.2] (dictSet S u q.2)) _ _ _
    refine wpAny_holding (wpAny_dictSet_pairs (knd := mixKind prog w) (k := q.1) hk m1 (fun h2 m2 same2 => ?_) (by omega))
    refine wpAny_pure ⟨plainId_quiet ud_plain _, pairs_loop (items := items) hh lI sI sl todo (i + 1) (stored got q.1 q.2) (ix + 1) 0 _ (show items.size = i + 1 + todo.length by omega) ?_ (fun j q' e => ?_) ?_ ?_ m2 fun h' tk hd' k => ?_⟩
    · have z := stored_length_le got q.1 q.2
      omega
    · obtain ⟨b', u', x1, x2, x3, x4, x5⟩ := ht (j + 1) q' (by simpa using e)
      exact ⟨b', u', by rw [show i + 1 + j = i + (j + 1) by omega]; exact x1, x2, x3, (x4.extBut same1.extBut x3).extBut same2.extBut x2, x5⟩
    · exact it1.extBut same2.extBut (Ne.symm sI)
    · exact l1.extBut same2.extBut (Ne.symm sl)
    · exact hR h' tk hd' fun c oc h3 h4 e => k c oc h3 h4 (same2.extBut c oc h3 (same1.extBut c oc h4 e))
/-- dict(t) of a tuple of pairs -/
theorem dict_of_tup {s : Shared} {l : Addr} {ol : Obj} {items : Array Value} {n : Nat} {prs : List (Key × Value)} {Q : Value → Shared → Prop} (hh : A.handled = none) (hl : s.heap.get? l = some ol) (hc : ol.cls = .type "tuple") (hd : ol.dict = none)
    (hdat : ol.data = .seq items n) (hsz : items.size = prs.length) (hln : prs.length ≤ sizeLine)
    (ht : ∀ (j : Nat) (q : Key × Value), prs[j]? = some q → ∃ (b : Addr) (u : Value), items[j]? = some (.ref b) ∧ IsTup s.heap b #[u, q.2] ∧ keyIs q.1 u = true)
    (h : ∀ h' tk, h'.DictOf (mixKind prog w) s.heap.objs.size (merged [] prs) → (∀ b o, s.heap.get? b = some o → h'.get? b = some o) → Q (.ref s.heap.objs.size) { s with heap := h', toks := tk }) :
    wpAny (model prog w) A (call (.type "dict") [.ref l]) Q E s := by
  refine callType_codes (Q₁ := fun obj s₁ => obj = .ref s.heap.objs.size ∧ s₁ = { s with heap := s.heap.push { cls := .type "dict", data := .dict #[] } }) PySem.F.kt_called_dict (PySem.F.kt_typeCall_dict_1 _) PySem.F.entry_dict_init (kt_code_dict_new _ ⟨rfl, rfl⟩) ?_
  rintro obj s₁ ⟨rfl, rfl⟩
  have new0 : (s.heap.push { cls := .type "dict", data := .dict #[] }).DictOf (mixKind prog w) s.heap.objs.size [] := Heap.DictOf.new s.heap
  have k0 : ∀ b o, s.heap.get? b = some o → (s.heap.push { cls := .type "dict", data := .dict #[] }).get? b = some o := fun b o e => Heap.get?_push_of_some _ e
  refine ⟨new0.typeIs, PySem.F.args_dict_init_2 _ _, ?_⟩
  unfold Builtin.«dict.__init__»
  refine wpAny_bind ?_
  unfold Builtin.Dict.selfAndRest
  refine wpAny_bind (wpAny_notOrdered_dict new0.typeIs ?_)
  show wpAny _ _ (pure (s.heap.objs.size, [Value.ref l])) _ _ _
  refine wpAny_pure ?_
  show wpAny _ _ (Builtin.Dict.updateFrom "dict.__init__" s.heap.objs.size (.ref l) [] .none) _ _ _
  unfold Builtin.Dict.updateFrom
  refine wpAny_bind (wpAny_typeOf (T := "tuple") ⟨ol, k0 _ _ hl, hc⟩ ?_)
  rw [if_pos (by first | decide | rfl | simp)]
  refine wpAny_bind (miss_tup (k0 _ _ hl) hc hdat hd hh fun h1 tk1 hk1 => ?_)
  rw [if_pos (show (none : Option Value).isNone = true from rfl)]
  refine wpAny_bind (wpAny_rule ?_)
  have l1 : h1.IsTuple l items := ⟨ol, hk1 _ _ (k0 _ _ hl), hc, n, hdat⟩
  have S1 : s.heap.objs.size < h1.objs.size := Heap.lt_size (hk1 _ _ (Heap.get?_push_size s.heap (o := { cls := .type "dict", data := .dict #[] }) rfl))
  refine wpAny_bind (wpAny_pyIter_tuple l1 ?_)
  have k2 : ∀ b o, h1.get? b = some o → (h1.push { cls := .type "tuple_iterator", data := .fields #[.ref l, .int 0 0] }).get? b = some o := fun b o e => Heap.get?_push_of_some _ e
  have lt : l < s.heap.objs.size := Heap.lt_size hl
  have key := pairs_loop (prog := prog) (w := w) (A := A.in1) (R := wants (fun r s₂ => r = .none ∧ Q (.ref s.heap.objs.size) s₂) E) (S := s.heap.objs.size) (I := h1.objs.size) (l := l) (items := items) (res := Value.none) hh
    (Nat.ne_of_lt (Nat.lt_trans lt S1)) (Nat.ne_of_lt S1) (Nat.ne_of_gt lt) prs 0 [] 0 0
    { s with heap := h1.push { cls := .type "tuple_iterator", data := .fields #[.ref l, .int 0 0] }, toks := tk1 } (by rw [hsz, Nat.zero_add]) (by rw [List.length_nil, Nat.zero_add]; exact hln)
    (fun j q e => by
      obtain ⟨b, u, e1, e2, e3⟩ := ht j q e
      have hb : b < s.heap.objs.size := e2.lt
      exact ⟨b, u, by rw [Nat.zero_add]; exact e1, Nat.ne_of_lt hb, Nat.ne_of_lt (Nat.lt_trans hb S1), e2.keeps fun c o z => k2 _ _ (hk1 _ _ (k0 _ _ z)), e3⟩)
    ⟨_, Heap.get?_push_size _ rfl, rfl, rfl⟩ ⟨ol, k2 _ _ (hk1 _ _ (k0 _ _ hl)), hc, n, hdat⟩ ((new0.at fun o e => hk1 _ _ e).at fun o e => k2 _ _ e)
    (fun h' tk hd' k => ⟨rfl, h h' tk hd' fun b o e => k b o (Nat.ne_of_lt (Heap.lt_size e)) (Nat.ne_of_lt (Nat.lt_trans (Heap.lt_size e) S1)) (k2 _ _ (hk1 _ _ (k0 _ _ e)))⟩)
  first
    | exact wpAny_pure ⟨plainId_quiet ud_plain _, key⟩
    | exact wpAny_bind (wpAny_pure (wpAny_pure ⟨plainId_quiet ud_plain _, key⟩))
end
end CF
namespace CF
open PySem PySem.Spec PyProof.Rows
/-- the texts without doubles, as they are met -/
def met (xs : List Str) : List Str := xs.foldl step_dedup []
theorem met_snoc (xs : List Str) (x : Str) : met (xs ++ [x]) = step_dedup (met xs) x := by unfold met; rw [List.foldl_append]; rfl
theorem dedup_len (σ : List Str) (v : Str) : (step_dedup σ v).length = if σ.any (· == v) then σ.length else σ.length + 1 := by
  unfold step_dedup; split <;> simp
theorem dedup_any (σ : List Str) (v k : Str) : (step_dedup σ v).any (· == k) = (σ.any (· == k) || decide (k = v)) := by
  unfold step_dedup
  by_cases h : σ.any (· == v) = true
  · rw [if_pos h]
    by_cases e : k = v
    · subst e; rw [h]; simp
    · simp [e]
  · rw [if_neg h, List.any_append]
    by_cases e : k = v
    · subst e; simp
    · have hb : (v == k) = false := by
        cases z : v == k with
        | false => rfl
        | true => exact absurd (eq_of_beq z).symm e
      simp [hb, e]
theorem met_le (xs : List Str) (i : Nat) : (met (xs.take i)).length ≤ i := by
  induction i with
  | zero => simp [met]
  | succ i ih =>
    by_cases h : i < xs.length
    · rw [List.take_add_one, List.getElem?_eq_getElem h]
      show (met (xs.take i ++ [xs[i]])).length ≤ _
      rw [met_snoc, dedup_len]
      split <;> omega
    · rw [List.take_of_length_le (by omega)]
      rw [List.take_of_length_le (by omega)] at ih
      omega
section
variable {prog : Program} {w : World} {A : Around} {R : Result → Shared → Prop} {I : Addr} {fp wr : List Addr} {G : Array GenState → Array GenState → Prop} {n : Nat} {P : Nat → Value → Prop} {St : Nat → Shared → Prop}
theorem set_loop_strs (W : WalksS prog w A.in1 I fp wr G n P St) (S : Addr) (hSf : S ∉ fp) (xs : List Str) (hx : xs.length = n) (hval : ∀ i v, P i v → ∃ x t, xs[i]? = some x ∧ v = .str x t) (hb : n + 1 < scanBound) :
    ∀ (k i : Nat) (s : Shared), n - i = k → i ≤ n → St i s → s.heap.SetOf (strKind prog w) S (fun k' => (met (xs.take i)).any (· == k')) (met (xs.take i)).length →
      (∀ s', Moved (S :: wr) G s s' → s'.heap.SetOf (strKind prog w) S (fun k' => (met xs).any (· == k')) (met xs).length → R (.ok (.ret .none)) s') →
      codeAny (model prog w) A (.builtin "set.update.loop" ⟨[.ref S, .ref I], []⟩) R s := by
  have hSw : S ∉ wr := fun h => hSf (W.sub _ h)
  have more : ∀ b ∈ wr, b ∈ S :: wr := fun b hb => List.mem_cons_of_mem _ hb
  intro k
  induction k with
  | zero =>
    intro i s hk hi hst hS hR
    obtain rfl : i = n := by omega
    refine codeAny_builtin F.entry_set_update_loop ?_
    rw [Around.under_plainId F.plain_set_update_loop _]
    show wpAny _ A.in1 (pyNext (.ref I) >>= _) _ _ s
    refine wpAny_bind (W.done s _ _ hst fun s' hm => ?_)
    show wpAny _ A.in1 (ret Value.none) _ _ s'
    refine wpAny_pure (hR s' (hm.mono more) ?_)
    rw [List.take_of_length_le (by omega)] at hS
    obtain ⟨o, es, ep, t, ho, rest⟩ := hS
    exact ⟨o, es, ep, t, hm.heap S _ hSw ho, rest⟩
  | succ k ih =>
    intro i s hk hi hst hS hR
    have lt : i < n := by omega
    refine codeAny_builtin F.entry_set_update_loop ?_
    rw [Around.under_plainId F.plain_set_update_loop _]
    show wpAny _ A.in1 (pyNext (.ref I) >>= _) _ _ s
    refine wpAny_bind (W.item i s _ _ lt hst fun v s' hP hst' hm => ?_)
    obtain ⟨x, t, ex, rfl⟩ := hval i v hP
    have hS' : s'.heap.SetOf (strKind prog w) S (fun k' => (met (xs.take i)).any (· == k')) (met (xs.take i)).length := by
      obtain ⟨o, es, ep, tb, ho, rest⟩ := hS
      exact ⟨o, es, ep, tb, hm.heap S _ hSw ho, rest⟩
    show wpAny _ A.in1 (holding [Value.str x t] (setAdd S (.str x t)) >>= _) _ _ s'
    refine wpAny_bind (wpAny_holding ?_)
    unfold setAdd
    refine wpAny_holding (wpAny_bind ((strKind prog w).pyHash (k := x) (strKind_is _ _ _ _) ?_))
    have room : (met (xs.take i)).length + 1 < scanBound := by have := met_le xs i; omega
    refine wpAny_setAddHashed_of (knd := strKind prog w) (s := { s' with toks := s'.toks + 1 }) (strKind_is _ _ _ _) rfl hS' room fun h' same hS2 => ?_
    have tk : met (xs.take (i + 1)) = step_dedup (met (xs.take i)) x := by
      rw [List.take_add_one, ex]
      exact met_snoc _ _
    have hSi : h'.SetOf (strKind prog w) S (fun k' => (met (xs.take (i + 1))).any (· == k')) (met (xs.take (i + 1))).length :=
      SetOf_congr hS2 (fun k' => by rw [tk, dedup_any]) (by rw [tk, dedup_len])
    refine wpAny_pure ⟨plainId_quiet F.plain_set_update_loop _, ih (i + 1) _ (by omega) lt (W.frame _ s' _ _ hst' (Nat.le_succ _) fun b hb o e => ?_) hSi fun s'' hm'' hS'' => ?_⟩
    · rw [same.2 b (fun h : b = S => hSf (by rw [← h]; exact hb))]; exact e
    · refine hR s'' (Moved.trans W.gtrans ((hm.mono more).then_heap (Nat.le_succ _) fun b o hb e => ?_) hm'') hS''
      rw [same.2 b (fun h : b = S => hb (by rw [h]; exact List.mem_cons_self))]; exact e
end
section
variable {prog : Program} {w : World} {A : Around} {E : Value → Shared → Prop} {s : Shared}
theorem strs_get : ∀ {vs : List Value} {xs : List Str}, StrsAre vs xs → ∀ (i : Nat) (v : Value), vs[i]? = some v → ∃ x t, xs[i]? = some x ∧ v = .str x t
  | _, _, .nil, i, v, h => by simp at h
  | _, _, .cons x t r, 0, v, h => by simp at h; exact ⟨x, t, rfl, h.symm⟩
  | _, _, .cons x t r, i + 1, v, h => by simpa using strs_get r i v (by simpa using h)
theorem strs_len : ∀ {vs : List Value} {xs : List Str}, StrsAre vs xs → vs.length = xs.length
  | _, _, .nil => rfl
  | _, _, .cons _ _ r => congrArg (· + 1) (strs_len r)
theorem set_of_strs {l : Addr} {items : Array Value} {xs : List Str} {Q : Value → Shared → Prop} (hh : A.handled = none) (hl : s.heap.IsList l items) (hi : StrsAre items.toList xs) (hb : items.size + 1 < scanBound)
    (h : ∀ (h' : Heap) (tk : Nat), h'.SetOf (strKind prog w) s.heap.objs.size (fun k' => (met xs).any (· == k')) (met xs).length → (∀ b o, b < s.heap.objs.size → s.heap.get? b = some o → h'.get? b = some o) → Q (.ref s.heap.objs.size) { s with heap := h', toks := tk }) :
    wpAny (model prog w) A (call (.type "set") [.ref l]) Q E s := by
  obtain ⟨c, tl, hmro⟩ := F.called_set.mro
  have hmade := F.called_set.made
  have hsub := F.called_set.sub
  refine wpAny_call (codeAny_of_tree ?_)
  show wpAny _ _ (callAny (.type "set") _) _ _ _
  refine wpAny_pure ⟨Code.quiet_builtin _ (by decide +kernel), codeAny_builtin F.entry_type_call ?_⟩
  rw [Around.under_plain (weight_type_call_type "set" [.ref l] []) rfl]
  have h1 := F.called_set.notType
  have h2 := F.called_set.canCreate
  have hct := F.typeCall_set_1 (.ref l)
  repeat (any_goals (first | assumption | wp_step))
  refine codeAny_mono (code_set_new_1 (.ref l) (E := E) (Q₁ := fun obj s₁ => ∃ led : Bool, obj = .ref s.heap.objs.size ∧ s₁ = { s with heap := s.heap.push { cls := .type "set", dict := none, data := .set #[] 0 (.fresh 0 0 led) } }) fun led => ⟨led, rfl, rfl⟩) fun r s₁ hr => ?_
  match r, hr with
  | .error e, hr => exact hr
  | .ok .next, hr => exact hr.elim
  | .ok .brk, hr => exact hr.elim
  | .ok .cont, hr => exact hr.elim
  | .ok (.ret obj), hr =>
    obtain ⟨led, rfl, rfl⟩ := hr
    have hS : (s.heap.push { cls := .type "set", dict := none, data := .set #[] 0 (.fresh 0 0 led) }).get? s.heap.objs.size = some { cls := .type "set", dict := none, data := .set #[] 0 (.fresh 0 0 led) } := Heap.get?_push_size _ rfl
    have hT : Shared.TypeIs { s with heap := s.heap.push { cls := .type "set", dict := none, data := .set #[] 0 (.fresh 0 0 led) } } (.ref s.heap.objs.size) "set" := ⟨_, hS, rfl⟩
    have hli := F.called_set.init.lookup
    have hbi := F.called_set.init.bind (.ref s.heap.objs.size)
    repeat (any_goals (first | assumption | wp_step))
    refine codeAny_mono (codeAny_call_builtin (R := wants (fun r s₂ => r = .none ∧ ∃ h' tk, s₂ = { s with heap := h', toks := tk } ∧
        h'.SetOf (strKind prog w) s.heap.objs.size (fun k' => (met xs).any (· == k')) (met xs).length ∧ (∀ b o, b < s.heap.objs.size → s.heap.get? b = some o → h'.get? b = some o)) E) F.called_set.init.plain F.entry_set_init (check_set_init_1 hT ?_)) fun r₂ s₂ hr₂ => ?_
    · obtain ⟨ol, hol, hcl, nl, hdl⟩ := hl
      obtain ⟨ocls, odict, odata, oslots⟩ := ol
      simp only at hcl hdl
      subst hcl; subst hdl
      have hol' : (s.heap.push { cls := .type "set", dict := none, data := .set #[] 0 (.fresh 0 0 led) }).get? l = some { cls := .type "list", dict := odict, data := .seq items nl, slots := oslots } := Heap.get?_push_of_some _ hol
      have hsls := F.sub_list_set
      have hslf := F.sub_list_frozenset
      have hne : (Value.type "list" == Value.type "dict") = false := by decide
      have hl1 : (s.heap.push { cls := .type "set", dict := none, data := .set #[] 0 (.fresh 0 0 led) }).IsList l items := ⟨_, hol', rfl, nl, rfl⟩
      unfold Builtin.«set.__init__» noKeywords Builtin.Frozenset.updateFrom
      generalize hPI : pyIter = PI
      wp_walk
      subst hPI
      refine wpAny_pyIter_list hl1 (wpAny_bind (wpAny_runValue ?_))
      have hlS : l < s.heap.objs.size := Heap.lt_size hol
      have hh3 : A.in1.in1.in1.handled = none := by simp [hh]
      have hneI : l ≠ (s.heap.push { cls := .type "set", dict := none, data := .set #[] 0 (.fresh 0 0 led) }).objs.size := by
        rw [Heap.size_push]; exact Nat.ne_of_lt (Nat.lt_succ_of_lt hlS)
      have hSf : s.heap.objs.size ∉ [(s.heap.push { cls := .type "set", dict := none, data := .set #[] 0 (.fresh 0 0 led) }).objs.size, l] := by
        rw [Heap.size_push]; simp only [List.mem_cons, List.mem_singleton, List.not_mem_nil, or_false, not_or]
        exact ⟨Nat.ne_of_lt (Nat.lt_succ_self _), Nat.ne_of_gt hlS⟩
      refine set_loop_strs ((Walks.list hh3 _ l hneI items).toS) s.heap.objs.size hSf xs (by rw [← strs_len hi, Array.length_toList]) (fun i v hv => strs_get hi i v (by rw [Array.getElem?_toList]; exact hv)) hb (items.size - 0) 0 _ (by omega) (Nat.zero_le _)
        ⟨⟨_, Heap.get?_push_size _ rfl, rfl, rfl⟩, (hl1.push _)⟩ ?hS0 ?hR
      case hS0 =>
        have hget : ((s.heap.push { cls := .type "set", dict := none, data := .set #[] 0 (.fresh 0 0 led) }).push { cls := .type "list_iterator", data := .fields #[.ref l, .int 0 0] }).get? s.heap.objs.size
            = some { cls := .type "set", dict := none, data := .set #[] 0 (.fresh 0 0 led) } := Heap.get?_push_of_some _ hS
        exact SetOf_congr ((setObjOf_fresh (knd := strKind prog w) led).setOf hget (by unfold scanBound; omega)) (fun _ => rfl) rfl
      case hR =>
        intro s' hm hS'
        obtain ⟨h', g', d', tk', os'⟩ := s'
        obtain rfl : g' = s.gens := hm.gens
        obtain rfl : d' = s.drawn := hm.drawn
        obtain rfl : os' = s.os := hm.os
        show wpAny _ _ _ _ _ _
        refine wpAny_pure ?_
        show wpAny _ _ (ret Value.none) _ _ _
        refine wpAny_pure ⟨rfl, h', tk', rfl, hS', fun b o hb e => hm.heap b o ?_ (Heap.get?_push_of_some _ (Heap.get?_push_of_some _ e))⟩
        simp only [List.mem_cons, List.mem_singleton, List.not_mem_nil, or_false, not_or]
        exact ⟨Nat.ne_of_lt hb, by rw [Heap.size_push]; exact Nat.ne_of_lt (Nat.lt_succ_of_lt hb)⟩
    · match r₂, hr₂ with
      | .error e, z => exact z
      | .ok .next, z => exact z.elim
      | .ok .brk, z => exact z.elim
      | .ok .cont, z => exact z.elim
      | .ok (.ret r), z =>
        obtain ⟨rfl, h', tk, rfl, hS', hk'⟩ := z
        repeat (any_goals (first | assumption | wp_step))
        exact h _ _ hS' hk'
end
end CF
end
section
set_option maxRecDepth 100000
set_option maxHeartbeats 1000000
/-! The data level: values with their insides, mutable cells by number. Everything here is ours. -/
namespace CF
open PySem PySem.Spec PyProof.Rows L2
abbrev St := L2.St

/-- a value with what is in it; ref: a cell that may change -/
inductive D where
  | non | bl (b : Bool) | int (i : Int) | str (x : Str)
  | tup (xs : List D) | pt (xs : List D) | lst (xs : List D) | dK (kvs : List (Key × D)) | dT (kvs : List (List Key × D))
  | ins (C : Addr) (fs : List (Str × D)) | scr (xs : List D) | ref (n : Nat)
/-- a cell -/
inductive Cell where
  | lst (xs : List D) | dK (kvs : List (Key × D)) | dT (kvs : List (List Key × D)) | ins (C : Addr) (fs : List (Str × D))
abbrev GH := List Cell
abbrev DEnv := List (Option D)
/-- an exception: its class, its fields -/
structure Ex where
  cls : Addr
  fs : List (Str × D)
inductive R (α : Type) where
  | ok (a : α) (G : GH) | ex (x : Ex) (G : GH) | no
def R.bind {α β : Type} (r : R α) (k : α → GH → R β) : R β := match r with
  | .ok a G => k a G
  | .ex x G => .ex x G
  | .no => .no
@[simp] theorem R.bind_ok {α β : Type} (a : α) (G : GH) (k : α → GH → R β) : (R.ok a G).bind k = k a G := rfl
@[simp] theorem R.bind_ex {α β : Type} (x : Ex) (G : GH) (k : α → GH → R β) : (R.ex x G : R α).bind k = .ex x G := rfl
@[simp] theorem R.bind_no {α β : Type} (k : α → GH → R β) : (R.no : R α).bind k = .no := rfl

def TupAt (K : PySem.W.Frag) (Z : Hp) (p : Addr) (vs : List V) : Prop :=
  Z p = some (.tup vs) ∨ ∃ (o : Obj) (its : Array Value) (n : Nat), K.lookup p = some o ∧ o.cls = .type "tuple" ∧ o.data = .seq its n ∧ its.size ≤ sizeLine ∧ Vals vs its.toList
/-- where the script stands -/
def ScrAt (K : PySem.W.Frag) (Z : Hp) (p : Addr) (vs : List V) : Prop :=
  (∃ o, Z p = some (.frz o (.lst vs))) ∨ ∃ (o : Obj) (its : Array Value) (n : Nat), K.lookup p = some o ∧ o.cls = .type "list" ∧ o.dict = none ∧ o.data = .seq its n ∧ its.size ≤ sizeLine ∧ Vals vs its.toList
mutual
inductive Rep (K : PySem.W.Frag) (Z : Hp) (r : List Addr) : D → V → Prop
  | non : Rep K Z r .non .non
  | bl (b) : Rep K Z r (.bl b) (.bl b)
  | int (i) : Rep K Z r (.int i) (.int i)
  | str (x) : Rep K Z r (.str x) (.str x)
  | tup {p vs ds} : TupAt K Z p vs → Reps K Z r ds vs → Rep K Z r (.tup ds) (.ref p)
  | pt {p o vs ds} : Z p = some (.frz o (.tup vs)) → o.dict = none → Reps K Z r ds vs → Rep K Z r (.pt ds) (.ref p)
  | lst {p vs ds} : Z p = some (.lst vs) → Reps K Z r ds vs → Rep K Z r (.lst ds) (.ref p)
  | dK {p kvs kds} : Z p = some (.dK kvs) → kds.map (·.1) = kvs.map (·.1) → Reps K Z r (kds.map (·.2)) (kvs.map (·.2)) → Rep K Z r (.dK kds) (.ref p)
  | dT {p kvs kds} : Z p = some (.dT kvs) → kds.map (·.1) = kvs.map (·.1) → Reps K Z r (kds.map (·.2)) (kvs.map (·.2)) → Rep K Z r (.dT kds) (.ref p)
  | ins {p C dx fs fds} : Z p = some (.ins C dx fs) → fds.map (·.1) = fs.map (·.1) → Reps K Z r (fds.map (·.2)) (fs.map (·.2)) → Rep K Z r (.ins C fds) (.ref p)
  | scr {p vs ds} : ScrAt K Z p vs → Reps K Z r ds vs → Rep K Z r (.scr ds) (.ref p)
  | ref {n a} : r[n]? = some a → Rep K Z r (.ref n) (.ref a)
inductive Reps (K : PySem.W.Frag) (Z : Hp) (r : List Addr) : List D → List V → Prop
  | nil : Reps K Z r [] []
  | cons {d v ds vs} : Rep K Z r d v → Reps K Z r ds vs → Reps K Z r (d :: ds) (v :: vs)
end

/-- where the frozen things stand, and the cells -/
structure Lk where
  Z : Hp
  r : List Addr
  /-- what stands besides and is never touched -/
  F : Hp
structure Lk.le (a b : Lk) : Prop where
  z : ∀ p o, a.Z p = some o → b.Z p = some o
  r : ∀ (n : Nat) (x : Addr), a.r[n]? = some x → b.r[n]? = some x
  f : b.F = a.F
theorem Lk.le.refl (a : Lk) : a.le a := ⟨fun _ _ h => h, fun _ _ h => h, rfl⟩
theorem Lk.le.trans {a b c : Lk} (h : a.le b) (k : b.le c) : a.le c := ⟨fun p o e => k.z p o (h.z p o e), fun n x e => k.r n x (h.r n x e), k.f.trans h.f⟩
theorem ScrAt.mono {K : PySem.W.Frag} {a b : Hp} (h : ∀ p o, a p = some o → b p = some o) {p : Addr} {vs : List V} (t : ScrAt K a p vs) : ScrAt K b p vs := t.elim (fun ⟨o, e⟩ => .inl ⟨o, h _ _ e⟩) .inr
theorem TupAt.mono {K : PySem.W.Frag} {a b : Hp} (h : ∀ p o, a p = some o → b p = some o) {p : Addr} {vs : List V} (t : TupAt K a p vs) : TupAt K b p vs := t.elim (fun e => .inl (h _ _ e)) .inr
mutual
theorem Rep.mono {K : PySem.W.Frag} {a b : Lk} (h : a.le b) : ∀ {d : D} {v : V}, Rep K a.Z a.r d v → Rep K b.Z b.r d v
  | _, _, .non => .non
  | _, _, .bl _ => .bl _
  | _, _, .int _ => .int _
  | _, _, .str _ => .str _
  | _, _, .tup e t => .tup (e.mono h.z) (Reps.mono h t)
  | _, _, .pt e k t => .pt (h.z _ _ e) k (Reps.mono h t)
  | _, _, .lst e t => .lst (h.z _ _ e) (Reps.mono h t)
  | _, _, .dK e k t => .dK (h.z _ _ e) k (Reps.mono h t)
  | _, _, .dT e k t => .dT (h.z _ _ e) k (Reps.mono h t)
  | _, _, .ins e k t => .ins (h.z _ _ e) k (Reps.mono h t)
  | _, _, .scr e t => .scr (e.mono h.z) (Reps.mono h t)
  | _, _, .ref e => .ref (h.r _ _ e)
theorem Reps.mono {K : PySem.W.Frag} {a b : Lk} (h : a.le b) : ∀ {ds : List D} {vs : List V}, Reps K a.Z a.r ds vs → Reps K b.Z b.r ds vs
  | _, _, .nil => .nil
  | _, _, .cons x t => .cons (Rep.mono h x) (Reps.mono h t)
end
theorem Reps.length {K : PySem.W.Frag} {Z : Hp} {r : List Addr} : ∀ {ds : List D} {vs : List V}, Reps K Z r ds vs → ds.length = vs.length
  | _, _, .nil => rfl
  | _, _, .cons _ t => congrArg (· + 1) (Reps.length t)
theorem Reps.get {K : PySem.W.Frag} {Z : Hp} {r : List Addr} : ∀ {ds : List D} {vs : List V} {i : Nat} {d : D}, Reps K Z r ds vs → ds[i]? = some d → ∃ v, vs[i]? = some v ∧ Rep K Z r d v
  | _, _, _, _, .nil, e => by simp at e
  | _, _, 0, _, .cons x t, e => by simp at e; subst e; exact ⟨_, rfl, x⟩
  | _, _, i + 1, d, .cons x t, e => by
    obtain ⟨v, e1, e2⟩ := Reps.get (i := i) (d := d) t (by simpa using e)
    exact ⟨v, by simpa using e1, e2⟩
theorem Reps.getV {K : PySem.W.Frag} {Z : Hp} {r : List Addr} : ∀ {ds : List D} {vs : List V} {i : Nat} {v : V}, Reps K Z r ds vs → vs[i]? = some v → ∃ d, ds[i]? = some d ∧ Rep K Z r d v
  | _, _, _, _, .nil, e => by simp at e
  | _, _, 0, _, .cons x t, e => by simp at e; subst e; exact ⟨_, rfl, x⟩
  | _, _, i + 1, d, .cons x t, e => by
    obtain ⟨v, e1, e2⟩ := Reps.getV (i := i) (v := d) t (by simpa using e)
    exact ⟨v, by simpa using e1, e2⟩
theorem Reps.append {K : PySem.W.Frag} {Z : Hp} {r : List Addr} : ∀ {ds es : List D} {vs us : List V}, Reps K Z r ds vs → Reps K Z r es us → Reps K Z r (ds ++ es) (vs ++ us)
  | _, _, _, _, .nil, s => s
  | _, _, _, _, .cons x t, s => .cons x (Reps.append t s)
theorem Reps.take {K : PySem.W.Frag} {Z : Hp} {r : List Addr} : ∀ (n : Nat) {ds : List D} {vs : List V}, Reps K Z r ds vs → Reps K Z r (ds.take n) (vs.take n)
  | 0, _, _, _ => by simp only [List.take_zero]; exact .nil
  | _ + 1, _, _, .nil => .nil
  | n + 1, _, _, .cons x t => .cons x (Reps.take n t)
theorem Reps.drop {K : PySem.W.Frag} {Z : Hp} {r : List Addr} : ∀ (n : Nat) {ds : List D} {vs : List V}, Reps K Z r ds vs → Reps K Z r (ds.drop n) (vs.drop n)
  | 0, _, _, h => h
  | _ + 1, _, _, .nil => .nil
  | n + 1, _, _, .cons _ t => Reps.drop n t
theorem Reps.set {K : PySem.W.Frag} {Z : Hp} {r : List Addr} {d : D} {v : V} (x : Rep K Z r d v) : ∀ (i : Nat) {ds : List D} {vs : List V}, Reps K Z r ds vs → Reps K Z r (ds.set i d) (vs.set i v)
  | _, _, _, .nil => .nil
  | 0, _, _, .cons _ t => .cons x t
  | i + 1, _, _, .cons y t => .cons y (Reps.set x i t)
theorem Reps.eraseIdx {K : PySem.W.Frag} {Z : Hp} {r : List Addr} : ∀ (i : Nat) {ds : List D} {vs : List V}, Reps K Z r ds vs → Reps K Z r (ds.eraseIdx i) (vs.eraseIdx i)
  | _, _, _, .nil => .nil
  | 0, _, _, .cons _ t => t
  | i + 1, _, _, .cons y t => .cons y (Reps.eraseIdx i t)
theorem Reps.reverse {K : PySem.W.Frag} {Z : Hp} {r : List Addr} : ∀ {ds : List D} {vs : List V}, Reps K Z r ds vs → Reps K Z r ds.reverse vs.reverse
  | _, _, .nil => .nil
  | _, _, .cons x t => by rw [List.reverse_cons, List.reverse_cons]; exact (Reps.reverse t).append (.cons x .nil)

/-- a frozen thing as it stands in the heap: dicts may be locked -/
def ZH (H : Hp) (p : Addr) (o : HO) : Prop := H p = some o ∨ (((∃ k, o = .dK k) ∨ ∃ k, o = .dT k) ∧ ∃ ob, H p = some (.frz ob o))
theorem ZH.rd {H : Hp} {p : Addr} {o : HO} (h : ZH H p o) : Rd H p o := h.elim .inl fun ⟨_, ob, e⟩ => .inr ⟨ob, e⟩
theorem ZH.some {H : Hp} {p : Addr} {o : HO} (h : ZH H p o) : ∃ u, H p = .some u := h.elim (fun e => ⟨_, e⟩) fun ⟨_, _, e⟩ => ⟨_, e⟩
theorem ZH.lst {H : Hp} {p : Addr} {xs : List V} (h : ZH H p (.lst xs)) : H p = .some (.lst xs) := h.elim id fun ⟨k, _⟩ => by
  rcases k with ⟨_, e⟩ | ⟨_, e⟩ <;> cases e
theorem ZH.tup {H : Hp} {p : Addr} {xs : List V} (h : ZH H p (.tup xs)) : H p = .some (.tup xs) := h.elim id fun ⟨k, _⟩ => by
  rcases k with ⟨_, e⟩ | ⟨_, e⟩ <;> cases e
theorem ZH.frz {H : Hp} {p : Addr} {o : Obj} {u : HO} (h : ZH H p (.frz o u)) : H p = .some (.frz o u) := h.elim id fun ⟨k, _⟩ => by
  rcases k with ⟨_, e⟩ | ⟨_, e⟩ <;> cases e
theorem ZH.ins {H : Hp} {p : Addr} {C dx : Addr} {fs : List (Str × V)} (h : ZH H p (.ins C dx fs)) : H p = .some (.ins C dx fs) := h.elim id fun ⟨k, _⟩ => by
  rcases k with ⟨_, e⟩ | ⟨_, e⟩ <;> cases e
theorem ZH.xd {H : Hp} {p : Addr} {fs : List (Str × V)} (h : ZH H p (.xd fs)) : H p = .some (.xd fs) := h.elim id fun ⟨k, _⟩ => by
  rcases k with ⟨_, e⟩ | ⟨_, e⟩ <;> cases e
theorem ZH.upd {H : Hp} {p q : Addr} {o u : HO} (h : ZH H p o) (n : p ≠ q) : ZH (L2.upd H q u) p o := by
  rcases h with e | ⟨k, ob, e⟩
  · exact .inl (by rw [upd_ne n]; exact e)
  · exact .inr ⟨k, ob, by rw [upd_ne n]; exact e⟩

inductive CellAt (K : PySem.W.Frag) (L : Lk) (H : Hp) : Cell → Addr → Prop
  | lst {a vs ds} : H a = some (.lst vs) → Reps K L.Z L.r ds vs → CellAt K L H (.lst ds) a
  | dK {a kvs kds} : H a = some (.dK kvs) → kds.map (·.1) = kvs.map (·.1) → Reps K L.Z L.r (kds.map (·.2)) (kvs.map (·.2)) → CellAt K L H (.dK kds) a
  | dT {a kvs kds} : H a = some (.dT kvs) → kds.map (·.1) = kvs.map (·.1) → Reps K L.Z L.r (kds.map (·.2)) (kvs.map (·.2)) → CellAt K L H (.dT kds) a
  | ins {a C dx fs fds} : H a = some (.ins C dx fs) → fds.map (·.1) = fs.map (·.1) → Reps K L.Z L.r (fds.map (·.2)) (fs.map (·.2)) → CellAt K L H (.ins C fds) a
theorem CellAt.some {K : PySem.W.Frag} {L : Lk} {H : Hp} {c : Cell} {a : Addr} (h : CellAt K L H c a) : ∃ u, H a = .some u := by
  cases h <;> exact ⟨_, by assumption⟩
theorem CellAt.move {K : PySem.W.Frag} {L L' : Lk} {H H' : Hp} {c : Cell} {a : Addr} (h : CellAt K L H c a) (le : L.le L') (e : H' a = H a) : CellAt K L' H' c a := by
  cases h with
  | lst h t => exact .lst (e.trans h) (t.mono le)
  | dK h k t => exact .dK (e.trans h) k (t.mono le)
  | dT h k t => exact .dT (e.trans h) k (t.mono le)
  | ins h k t => exact .ins (e.trans h) k (t.mono le)

structure HR (K : PySem.W.Frag) (L : Lk) (G : GH) (H : Hp) : Prop where
  z : ∀ p o, L.Z p = some o → ZH H p o
  len : L.r.length = G.length
  cell : ∀ (n : Nat) (a : Addr) (c : Cell), L.r[n]? = some a → G[n]? = some c → CellAt K L H c a
  inj : ∀ (n m : Nat) (a : Addr), L.r[n]? = some a → L.r[m]? = some a → n = m
  dis : ∀ (n : Nat) (a : Addr), L.r[n]? = some a → L.Z a = none
  fr : ∀ p o, L.F p = some o → H p = some o
  fd : ∀ (n : Nat) (a : Addr), L.r[n]? = some a → L.F a = none
  fz : ∀ p o, L.F p = some o → (∃ od u, o = .frz od u) ∨ L.Z p = none
section
variable {K : PySem.W.Frag} {L : Lk} {G : GH} {H : Hp} {p : Addr} {o : HO}
theorem HR.zfree (h : HR K L G H) (e : H p = none) : L.Z p = none := by
  cases q : L.Z p with
  | none => rfl
  | some u =>
    obtain ⟨w, z⟩ := (h.z p u q).some
    rw [e] at z; cases z
theorem HR.rfree (h : HR K L G H) (e : H p = none) : ∀ n : Nat, L.r[n]? ≠ some p := fun n q => by
  have hn : n < G.length := by rw [← h.len]; exact (List.getElem?_eq_some_iff.mp q).1
  obtain ⟨u, z⟩ := (h.cell n p G[n] q (by simp [hn])).some
  rw [e] at z; cases z
/-- a frozen thing is laid -/
def Lk.put (L : Lk) (p : Addr) (o : HO) : Lk := ⟨upd L.Z p o, L.r, L.F⟩
def Lk.add (L : Lk) (p : Addr) : Lk := ⟨L.Z, L.r ++ [p], L.F⟩
theorem HR.ffree (h : HR K L G H) (e : H p = none) : L.F p = none := by
  cases q : L.F p with
  | none => rfl
  | some u =>
    have z := h.fr p u q
    rw [e] at z; cases z
theorem Lk.le_put (e : L.Z p = none) : L.le (L.put p o) := ⟨fun q u k => by
  show upd L.Z p o q = some u
  rw [upd_ne (ne_of_none k e)]; exact k, fun _ _ k => k, rfl⟩
theorem Lk.le_add : L.le (L.add p) := ⟨fun _ _ k => k, fun n x k => by
  show (L.r ++ [p])[n]? = some x
  rw [List.getElem?_append_left (List.getElem?_eq_some_iff.mp k).1]; exact k, rfl⟩
theorem HR.put (h : HR K L G H) (e : H p = none) : HR K (L.put p o) G (upd H p o) where
  z := fun q u k => by
    by_cases hq : q = p
    · subst hq
      have k' : upd L.Z q o q = some u := k
      rw [upd_same] at k'
      cases k'
      exact .inl upd_same
    · have k' : upd L.Z p o q = some u := k
      rw [upd_ne hq] at k'
      exact (h.z q u k').upd hq
  len := h.len
  cell := fun n a c e1 e2 => (h.cell n a c e1 e2).move (Lk.le_put (h.zfree e)) (upd_ne fun q => h.rfree e n (q ▸ e1))
  inj := h.inj
  dis := fun n a e1 => by
    show upd L.Z p o a = none
    rw [upd_ne fun (q : a = p) => h.rfree e n (q ▸ e1)]
    exact h.dis n a e1
  fr := fun q u k => by rw [upd_ne (ne_of_none (h.fr q u k) e)]; exact h.fr q u k
  fd := h.fd
  fz := fun q u k => by
    show _ ∨ upd L.Z p o q = none
    rw [upd_ne (ne_of_none (h.fr q u k) e)]; exact h.fz q u k
/-- a cell is laid -/
theorem HR.add (h : HR K L G H) (e : H p = none) {c : Cell} (hc : CellAt K (L.add p) (upd H p o) c p) : HR K (L.add p) (G ++ [c]) (upd H p o) where
  z := fun q u k => (h.z q u k).upd fun z => by
    obtain ⟨w, y⟩ := (h.z q u k).some
    rw [z, e] at y; cases y
  len := by show (L.r ++ [p]).length = _; rw [List.length_append, List.length_append, h.len]; rfl
  cell := fun n a c' e1 e2 => by
    have e1' : (L.r ++ [p])[n]? = some a := e1
    by_cases hn : n < L.r.length
    · rw [List.getElem?_append_left hn] at e1'
      rw [List.getElem?_append_left (by rw [← h.len]; exact hn)] at e2
      exact (h.cell n a c' e1' e2).move Lk.le_add (upd_ne fun q => h.rfree e n (q ▸ e1'))
    · have hl : n = L.r.length := by
        have := (List.getElem?_eq_some_iff.mp e1').1
        rw [List.length_append, List.length_singleton] at this
        omega
      subst hl
      rw [List.getElem?_append_right (Nat.le_refl _), Nat.sub_self] at e1'
      rw [List.getElem?_append_right (by rw [h.len]; exact Nat.le_refl _), h.len, Nat.sub_self] at e2
      simp at e1' e2
      subst e1' e2
      exact hc
  inj := fun n m a e1 e2 => by
    have key : ∀ {k : Nat}, (L.r ++ [p])[k]? = some a → (k < L.r.length ∧ L.r[k]? = some a) ∨ (k = L.r.length ∧ p = a) := fun {k} q => by
      by_cases hk : k < L.r.length
      · rw [List.getElem?_append_left hk] at q
        exact .inl ⟨hk, q⟩
      · have hl : k = L.r.length := by
          have := (List.getElem?_eq_some_iff.mp q).1
          rw [List.length_append, List.length_singleton] at this
          omega
        subst hl
        rw [List.getElem?_append_right (Nat.le_refl _), Nat.sub_self] at q
        simp at q
        exact .inr ⟨rfl, q⟩
    rcases key e1 with ⟨_, a1⟩ | ⟨h1, a1⟩ <;> rcases key e2 with ⟨_, a2⟩ | ⟨h2, a2⟩
    · exact h.inj n m a a1 a2
    · exact absurd a1 (a2 ▸ h.rfree e n)
    · exact absurd a2 (a1 ▸ h.rfree e m)
    · rw [h1, h2]
  dis := fun n a e1 => by
    have e1' : (L.r ++ [p])[n]? = some a := e1
    by_cases hn : n < L.r.length
    · rw [List.getElem?_append_left hn] at e1'
      exact h.dis n a e1'
    · have hl : n = L.r.length := by
        have := (List.getElem?_eq_some_iff.mp e1').1
        rw [List.length_append, List.length_singleton] at this
        omega
      subst hl
      rw [List.getElem?_append_right (Nat.le_refl _), Nat.sub_self] at e1'
      simp at e1'
      subst e1'
      exact h.zfree e
  fr := fun q u k => by rw [upd_ne (ne_of_none (h.fr q u k) e)]; exact h.fr q u k
  fd := fun n a e1 => by
    have e1' : (L.r ++ [p])[n]? = some a := e1
    by_cases hn : n < L.r.length
    · rw [List.getElem?_append_left hn] at e1'
      exact h.fd n a e1'
    · have hl : n = L.r.length := by
        have := (List.getElem?_eq_some_iff.mp e1').1
        rw [List.length_append, List.length_singleton] at this
        omega
      subst hl
      rw [List.getElem?_append_right (Nat.le_refl _), Nat.sub_self] at e1'
      simp at e1'
      subst e1'
      exact h.ffree e
  fz := h.fz
/-- a cell is changed -/
theorem HR.set (h : HR K L G H) {n : Nat} (e : L.r[n]? = some p) {c : Cell} (hc : CellAt K L (upd H p o) c p) : HR K L (G.set n c) (upd H p o) where
  z := fun q u k => (h.z q u k).upd fun z => by rw [z, h.dis n p e] at k; cases k
  len := by rw [List.length_set]; exact h.len
  cell := fun m a c' e1 e2 => by
    by_cases hm : n = m
    · subst hm
      rw [e] at e1; cases e1
      rw [List.getElem?_set_self (by rw [← h.len]; exact (List.getElem?_eq_some_iff.mp e).1)] at e2
      cases e2
      exact hc
    · rw [List.getElem?_set_ne hm] at e2
      exact (h.cell m a c' e1 e2).move (.refl _) (upd_ne fun q => hm (h.inj n m p e (q ▸ e1)))
  inj := h.inj
  dis := h.dis
  fr := fun q u k => by
    have hq : q ≠ p := fun z => by rw [z, h.fd n p e] at k; cases k
    rw [upd_ne hq]; exact h.fr q u k
  fd := h.fd
  fz := h.fz
/-- the frame: what stands besides -/
def Lk.frm (L : Lk) (F : Hp) : Lk := ⟨L.Z, L.r, F⟩
theorem HR.frm (h : HR K L G H) {F : Hp} (h1 : ∀ p o, F p = some o → H p = some o) (h2 : ∀ (n : Nat) (a : Addr), L.r[n]? = some a → F a = none) (h3 : ∀ p o, F p = some o → (∃ od u, o = .frz od u) ∨ L.Z p = none) : HR K (L.frm F) G H where
  z := h.z
  len := h.len
  cell := fun n a c e1 e2 => by
    have q := h.cell n a c e1 e2
    cases q with
    | lst h t => exact .lst h t
    | dK h k t => exact .dK h k t
    | dT h k t => exact .dT h k t
    | ins h k t => exact .ins h k t
  inj := h.inj
  dis := h.dis
  fr := h1
  fd := h2
  fz := h3
/-- the same but for the frame -/
structure Lk.cle (a b : Lk) : Prop where
  z : ∀ p o, a.Z p = some o → b.Z p = some o
  r : ∀ (n : Nat) (x : Addr), a.r[n]? = some x → b.r[n]? = some x
theorem Lk.le.c {a b : Lk} (h : a.le b) : a.cle b := ⟨h.z, h.r⟩
theorem Lk.cle.refl (a : Lk) : a.cle a := ⟨fun _ _ h => h, fun _ _ h => h⟩
theorem Lk.cle.trans {a b c : Lk} (h : a.cle b) (k : b.cle c) : a.cle c := ⟨fun p o e => k.z p o (h.z p o e), fun n x e => k.r n x (h.r n x e)⟩
theorem Lk.cle.le {a b : Lk} (h : a.cle b) (f : b.F = a.F) : a.le b := ⟨h.z, h.r, f⟩
/-- a private object at p -/
def Lk.prv (L : Lk) (p : Addr) (o : HO) : Lk := L.frm (upd L.F p o)
theorem CellAt.frm {L : Lk} {F : Hp} {H H' : Hp} {c : Cell} {a : Addr} (q : CellAt K L H c a) (e' : H' a = H a) : CellAt K (L.frm F) H' c a := by
  cases q with
  | lst h t => exact .lst (e'.trans h) t
  | dK h k t => exact .dK (e'.trans h) k t
  | dT h k t => exact .dT (e'.trans h) k t
  | ins h k t => exact .ins (e'.trans h) k t
/-- one object changes that the data level does not see -/
theorem HR.elsewhere (h : HR K L G H) {H2 F2 : Hp} (hz : L.Z p = none) (hrn : ∀ n : Nat, L.r[n]? ≠ some p) (same : ∀ q, q ≠ p → H2 q = H q) (f1 : ∀ q o, F2 q = some o → H2 q = some o)
    (f2 : ∀ (n : Nat) (a : Addr), L.r[n]? = some a → F2 a = none) (f3 : ∀ q o, F2 q = some o → (∃ od u, o = .frz od u) ∨ L.Z q = none) : HR K (L.frm F2) G H2 where
  z := fun q u k => by
    have k : L.Z q = some u := k
    have hq : q ≠ p := fun z => by rw [z, hz] at k; cases k
    rcases h.z q u k with e | ⟨e, ob, e'⟩
    · exact .inl ((same q hq).trans e)
    · exact .inr ⟨e, ob, (same q hq).trans e'⟩
  len := h.len
  cell := fun n a c e1 e2 => (h.cell n a c e1 e2).frm (same a fun (q : a = p) => hrn n (q ▸ e1))
  inj := h.inj
  dis := h.dis
  fr := f1
  fd := f2
  fz := f3
theorem HR.prv (h : HR K L G H) (e : H p = none) : HR K (L.prv p o) G (upd H p o) :=
  h.elsewhere (p := p) (h.zfree e) (h.rfree e) (fun q hq => upd_ne hq)
    (fun q u k => by
      by_cases hq : q = p
      · subst hq; rw [upd_same] at k ⊢; exact k
      · rw [upd_ne hq] at k ⊢; exact h.fr q u k)
    (fun n a e1 => by rw [upd_ne fun (q : a = p) => h.rfree e n (q ▸ e1)]; exact h.fd n a e1)
    (fun q u k => by
      by_cases hq : q = p
      · subst hq; exact .inr (h.zfree e)
      · rw [upd_ne hq] at k; exact h.fz q u k)
theorem HR.prvZ (h : HR K (L.prv p o) G H) (ho : ∀ od w, o ≠ .frz od w) : L.Z p = none := (h.fz p o upd_same).resolve_left fun ⟨od, w, e⟩ => ho od w e
theorem HR.prvR (h : HR K (L.prv p o) G H) : ∀ n : Nat, L.r[n]? ≠ some p := fun n q => by
  have z : upd L.F p o p = none := h.fd n p q
  rw [upd_same] at z; cases z
theorem HR.prvH (h : HR K (L.prv p o) G H) : H p = some o := h.fr p o upd_same
/-- a private object is changed -/
theorem HR.prvSet {u : HO} (h : HR K (L.prv p o) G H) (ho : ∀ od w, o ≠ .frz od w) : HR K (L.prv p u) G (upd H p u) :=
  HR.elsewhere (L := L.prv p o) (p := p) h (h.prvZ ho) h.prvR (fun q hq => upd_ne hq)
    (fun q w k => by
      by_cases hq : q = p
      · subst hq; rw [upd_same] at k ⊢; exact k
      · rw [upd_ne hq] at k ⊢
        exact h.fr q w (by show upd L.F p o q = some w; rw [upd_ne hq]; exact k))
    (fun n a e1 => by
      have hq : a ≠ p := fun (q : a = p) => h.prvR n (q ▸ e1)
      have z : upd L.F p o a = none := h.fd n a e1
      rw [upd_ne hq] at z ⊢; exact z)
    (fun q w k => by
      by_cases hq : q = p
      · subst hq; exact .inr (h.prvZ ho)
      · rw [upd_ne hq] at k
        exact h.fz q w (by show upd L.F p o q = some w; rw [upd_ne hq]; exact k))
/-- .. is taken out -/
theorem HR.prvOut (h : HR K (L.prv p o) G H) (ho : ∀ od w, o ≠ .frz od w) (hF : L.F p = none) : HR K L G (fun b => if b = p then none else H b) :=
  HR.elsewhere (L := L.prv p o) (p := p) (F2 := L.F) h (h.prvZ ho) h.prvR (fun q hq => if_neg hq)
    (fun q w k => by
      have hq : q ≠ p := fun z => by rw [z, hF] at k; cases k
      rw [if_neg hq]
      exact h.fr q w (by show upd L.F p o q = some w; rw [upd_ne hq]; exact k))
    (fun n a e1 => by
      have hq : a ≠ p := fun (q : a = p) => h.prvR n (q ▸ e1)
      have z : upd L.F p o a = none := h.fd n a e1
      rw [upd_ne hq] at z; exact z)
    (fun q w k => by
      have hq : q ≠ p := fun z => by rw [z, hF] at k; cases k
      exact h.fz q w (by show upd L.F p o q = some w; rw [upd_ne hq]; exact k))
theorem upd_out {H : Hp} {p : Addr} {o : HO} (e : H p = some o) : upd (fun b => if b = p then none else H b) p o = H := by
  funext b
  by_cases hb : b = p
  · subst hb; rw [upd_same, e]
  · rw [upd_ne hb, if_neg hb]
end

def ER (K : PySem.W.Frag) (L : Lk) (δ : DEnv) (σ : St) : Prop := δ.length = σ.length ∧ ∀ (i : Nat) (d : D), δ[i]? = some (some d) → ∃ v, σ[i]? = some (some v) ∧ Rep K L.Z L.r d v
theorem ER.mono {K : PySem.W.Frag} {L L' : Lk} {δ : DEnv} {σ : St} (h : ER K L δ σ) (le : L.le L') : ER K L' δ σ := ⟨h.1, fun i d e => let ⟨v, a, b⟩ := h.2 i d e; ⟨v, a, b.mono le⟩⟩
theorem ER.set {K : PySem.W.Frag} {L : Lk} {δ : DEnv} {σ : St} (h : ER K L δ σ) {d : D} {v : V} (i : Nat) (x : Rep K L.Z L.r d v) : ER K L (δ.set i (some d)) (σ.set i (some v)) := by
  refine ⟨by simpa using h.1, fun j d' e => ?_⟩
  by_cases hj : i = j
  · subst hj
    by_cases hl : i < δ.length
    · rw [List.getElem?_set_self hl] at e
      cases e
      exact ⟨v, by rw [List.getElem?_set_self (by rw [← h.1]; exact hl)], x⟩
    · rw [List.getElem?_eq_none (by simpa using hl)] at e; cases e
  · rw [List.getElem?_set_ne hj] at e ⊢
    exact h.2 j d' e
theorem ER.drop {K : PySem.W.Frag} {L : Lk} {δ : DEnv} {σ : St} (h : ER K L δ σ) (i : Nat) : ER K L (δ.set i none) (σ.set i none) := by
  refine ⟨by simpa using h.1, fun j d' e => ?_⟩
  by_cases hj : i = j
  · subst hj
    by_cases hl : i < δ.length
    · rw [List.getElem?_set_self hl] at e; cases e
    · rw [List.getElem?_eq_none (by simpa using hl)] at e; cases e
  · rw [List.getElem?_set_ne hj] at e ⊢
    exact h.2 j d' e
def wipeD (δ : DEnv) : List Nat → DEnv
  | [] => δ
  | v :: vs => (wipeD δ vs).set v none
theorem ER.wipe {K : PySem.W.Frag} {L : Lk} {δ : DEnv} {σ : St} (h : ER K L δ σ) : ∀ vs : List Nat, ER K L (wipeD δ vs) (wipe σ vs)
  | [] => h
  | v :: vs => (ER.wipe h vs).drop v

/-- an exception lies so -/
def XRep (K : PySem.W.Frag) (L : Lk) (x : Ex) (c : Value) (dx : Option Addr) : Prop :=
  c = .ref x.cls ∧ ∃ d fs, dx = some d ∧ L.Z d = some (.xd fs) ∧ x.fs.map (·.1) = fs.map (·.1) ∧ Reps K L.Z L.r (x.fs.map (·.2)) (fs.map (·.2))
theorem XRep.mono {K : PySem.W.Frag} {L L' : Lk} {x : Ex} {c : Value} {dx : Option Addr} (h : XRep K L x c dx) (le : L.le L') : XRep K L' x c dx := by
  obtain ⟨e, d, fs, e1, e2, e3, e4⟩ := h
  exact ⟨e, d, fs, e1, le.z _ _ e2, e3, e4.mono le⟩

/-- a result meets its wish -/
def Sat {α β : Type} (K : PySem.W.Frag) (W : WX) (L : Lk) (σ : St) (rep : Lk → α → β → Prop) (r : R α) (Q : β → Hp → Prop) : Prop := match r with
  | .ok d G => ∀ L' H' v, L.le L' → HR K L' G H' → rep L' d v → Q v H'
  | .ex x G => ∀ L' H' c dx, L.le L' → HR K L' G H' → XRep K L' x c dx → W c dx σ H'
  | .no => False
theorem Sat.mono {α β : Type} {K : PySem.W.Frag} {W : WX} {L L' : Lk} {σ : St} {rep : Lk → α → β → Prop} {r : R α} {Q : β → Hp → Prop} (h : Sat K W L σ rep r Q) (le : L.le L') : Sat K W L' σ rep r Q := by
  cases r with
  | ok d G => exact fun L2 H2 v l2 => h L2 H2 v (le.trans l2)
  | ex x G => exact fun L2 H2 c dx l2 => h L2 H2 c dx (le.trans l2)
  | no => exact h
def repD (K : PySem.W.Frag) : Lk → D → V → Prop := fun L d v => Rep K L.Z L.r d v
def repA (K : PySem.W.Frag) : Lk → List D → List V → Prop := fun L d v => Reps K L.Z L.r d v
def repB : Lk → Bool → Bool → Prop := fun _ a b => a = b
def tG {α β : Type} (K : PySem.W.Frag) (W : WX) (rep : Lk → α → β → Prop) (f : DEnv → GH → R α) : St → Hp → (β → Hp → Prop) → Prop := fun σ H Q =>
  ∃ L δ G, HR K L G H ∧ ER K L δ σ ∧ Sat K W L σ rep (f δ G) Q

abbrev FE := DEnv → GH → R D
abbrev FA := DEnv → GH → R (List D)
abbrev FT := DEnv → GH → R Bool
def xE (X : Cx) (W : WX) (e : Expr) (f : FE) : Prop := PE X e (tG X.K W (repD X.K) f)
def xA (X : Cx) (W : WX) (es : List Expr) (f : FA) : Prop := PA X es (tG X.K W (repA X.K) f)
def xT (X : Cx) (W : WX) (e : Expr) (f : FT) : Prop := PT X e (tG X.K W repB f)
def xW (X : Cx) (W : WX) (e : Expr) (f : FT) : Prop := PW X e (tG X.K W repB f)

/-- a statement's result -/
inductive RS where
  | nx (δ : DEnv) (G : GH) | rt (d : D) (G : GH) | bk (δ : DEnv) (G : GH) | ct (δ : DEnv) (G : GH) | ex (x : Ex) (δ : DEnv) (G : GH) | no
def SatS (K : PySem.W.Frag) (W : WX) (L : Lk) (r : RS) (E : Ends) : Prop := match r with
  | .nx δ G => ∀ L' σ' H', L.le L' → HR K L' G H' → ER K L' δ σ' → E.nx σ' H'
  | .bk δ G => ∀ L' σ' H', L.le L' → HR K L' G H' → ER K L' δ σ' → E.bk σ' H'
  | .ct δ G => ∀ L' σ' H', L.le L' → HR K L' G H' → ER K L' δ σ' → E.ct σ' H'
  | .rt d G => ∀ L' H' v, L.le L' → HR K L' G H' → Rep K L'.Z L'.r d v → E.rt v H'
  | .ex x δ G => ∀ L' σ' H' c dx, L.le L' → HR K L' G H' → ER K L' δ σ' → XRep K L' x c dx → W c dx σ' H'
  | .no => False
theorem SatS.mono {K : PySem.W.Frag} {W : WX} {L L' : Lk} {r : RS} {E : Ends} (h : SatS K W L r E) (le : L.le L') : SatS K W L' r E := by
  cases r with
  | nx δ G => exact fun L2 σ H l2 => h L2 σ H (le.trans l2)
  | bk δ G => exact fun L2 σ H l2 => h L2 σ H (le.trans l2)
  | ct δ G => exact fun L2 σ H l2 => h L2 σ H (le.trans l2)
  | rt d G => exact fun L2 H v l2 => h L2 H v (le.trans l2)
  | ex x δ G => exact fun L2 σ H c dx l2 => h L2 σ H c dx (le.trans l2)
  | no => exact h
abbrev FS := DEnv → GH → RS
def tS (K : PySem.W.Frag) (W : WX) (f : FS) : TS := fun E σ H => ∃ L δ G, HR K L G H ∧ ER K L δ σ ∧ SatS K W L (f δ G) E
def xS (X : Cx) (W : WX) (st : Stmt) (f : FS) : Prop := PS X st (tS X.K W f)
def xSs (X : Cx) (W : WX) (st : List Stmt) (f : FS) : Prop := PSs X st (tS X.K W f)
/-- an expression's result, then a statement -/
def R.thn {α : Type} (r : R α) (δ : DEnv) (k : α → GH → RS) : RS := match r with
  | .ok a G => k a G
  | .ex x G => .ex x δ G
  | .no => .no
@[simp] theorem R.thn_ok {α : Type} (a : α) (G : GH) (δ : DEnv) (k : α → GH → RS) : (R.ok a G).thn δ k = k a G := rfl
@[simp] theorem R.thn_ex {α : Type} (x : Ex) (G : GH) (δ : DEnv) (k : α → GH → RS) : (R.ex x G : R α).thn δ k = .ex x δ G := rfl
@[simp] theorem R.thn_no {α : Type} (δ : DEnv) (k : α → GH → RS) : (R.no : R α).thn δ k = .no := rfl
def RS.seq (r : RS) (k : DEnv → GH → RS) : RS := match r with
  | .nx δ G => k δ G
  | r => r
@[simp] theorem RS.seq_nx (δ : DEnv) (G : GH) (k : DEnv → GH → RS) : (RS.nx δ G).seq k = k δ G := rfl
@[simp] theorem RS.seq_rt (d : D) (G : GH) (k : DEnv → GH → RS) : (RS.rt d G).seq k = .rt d G := rfl
@[simp] theorem RS.seq_bk (δ : DEnv) (G : GH) (k : DEnv → GH → RS) : (RS.bk δ G).seq k = .bk δ G := rfl
@[simp] theorem RS.seq_ct (δ : DEnv) (G : GH) (k : DEnv → GH → RS) : (RS.ct δ G).seq k = .ct δ G := rfl
@[simp] theorem RS.seq_ex (x : Ex) (δ : DEnv) (G : GH) (k : DEnv → GH → RS) : (RS.ex x δ G).seq k = .ex x δ G := rfl
@[simp] theorem RS.seq_no (k : DEnv → GH → RS) : RS.no.seq k = .no := rfl

/-! ### weakening -/
theorem PEimp {X : Cx} {e : Expr} {t t' : TE} (h : PE X e t) (i : ∀ σ H Q, t' σ H Q → t σ H Q) : PE X e t' := ⟨fun pins s σ H Q I q => h.run pins s σ H Q I (i _ _ _ q)⟩
theorem PTimp {X : Cx} {e : Expr} {t t' : TT} (h : PT X e t) (i : ∀ σ H Q, t' σ H Q → t σ H Q) : PT X e t' := ⟨fun pins s σ H Q I q => h.run pins s σ H Q I (i _ _ _ q)⟩
theorem PWimp {X : Cx} {e : Expr} {t t' : TT} (h : PW X e t) (i : ∀ σ H Q, t' σ H Q → t σ H Q) : PW X e t' := ⟨fun wh pins s σ H Q I q => h.run wh pins s σ H Q I (i _ _ _ q)⟩
theorem PAimp {X : Cx} {e : List Expr} {t t' : TA} (h : PA X e t) (i : ∀ σ H Q, t' σ H Q → t σ H Q) : PA X e t' := ⟨fun pos pins s σ H Q I q => h.run pos pins s σ H Q I (i _ _ _ q)⟩
theorem PSimp {X : Cx} {e : Stmt} {t t' : TS} (h : PS X e t) (i : ∀ E σ H, t' E σ H → t E σ H) : PS X e t' := ⟨fun pins s σ H Q I q => h.run pins s σ H Q I (i _ _ _ q)⟩
theorem PSsimp {X : Cx} {e : List Stmt} {t t' : TS} (h : PSs X e t) (i : ∀ E σ H, t' E σ H → t E σ H) : PSs X e t' := ⟨fun pins s σ H Q I q => h.run pins s σ H Q I (i _ _ _ q)⟩

/-- the first of two steps -/
theorem Sat.bind {α β γ δ' : Type} {K : PySem.W.Frag} {W : WX} {L : Lk} {σ : St} {δ : DEnv} {G : GH} {H : Hp} {rep : Lk → α → β → Prop} {rep' : Lk → γ → δ' → Prop} {f : DEnv → GH → R α} {k : α → GH → R γ} {Q : δ' → Hp → Prop} {Q1 : β → Hp → Prop}
    (hr : HR K L G H) (er : ER K L δ σ) (h : Sat K W L σ rep' ((f δ G).bind k) Q)
    (nx : ∀ L1 G1 H1 a v, L.le L1 → HR K L1 G1 H1 → ER K L1 δ σ → rep L1 a v → Sat K W L1 σ rep' (k a G1) Q → Q1 v H1) : tG K W rep f σ H Q1 := by
  refine ⟨L, δ, G, hr, er, ?_⟩
  cases e : f δ G with
  | ok a G1 =>
    rw [e] at h
    exact fun L1 H1 v le hr1 ra => nx L1 G1 H1 a v le hr1 (er.mono le) ra (Sat.mono (L := L) (r := k a G1) h le)
  | ex x G1 =>
    rw [e] at h
    exact h
  | no =>
    rw [e] at h
    exact h
theorem Sat.thn {α β : Type} {K : PySem.W.Frag} {W : WX} {L : Lk} {σ : St} {δ : DEnv} {G : GH} {H : Hp} {rep : Lk → α → β → Prop} {f : DEnv → GH → R α} {k : α → GH → RS} {E : Ends} {Q1 : β → Hp → Prop}
    (hr : HR K L G H) (er : ER K L δ σ) (h : SatS K W L ((f δ G).thn δ k) E)
    (nx : ∀ L1 G1 H1 a v, L.le L1 → HR K L1 G1 H1 → ER K L1 δ σ → rep L1 a v → SatS K W L1 (k a G1) E → Q1 v H1) : tG K W rep f σ H Q1 := by
  refine ⟨L, δ, G, hr, er, ?_⟩
  cases e : f δ G with
  | ok a G1 =>
    rw [e] at h
    exact fun L1 H1 v le hr1 ra => nx L1 G1 H1 a v le hr1 (er.mono le) ra (SatS.mono (L := L) (r := k a G1) h le)
  | ex x G1 =>
    rw [e] at h
    exact fun L1 H1 c dx le hr1 xr => h L1 σ H1 c dx le hr1 (er.mono le) xr
  | no =>
    rw [e] at h
    exact h
end CF
end
section
set_option maxRecDepth 100000
set_option maxHeartbeats 1000000
/-! Rules of the data level: names, constants, operators, tests, displays, statements. -/
namespace CF
open PySem PySem.Spec PyProof.Rows L2

/-! ### views -/
def lstOf (G : GH) : D → Option (List D)
  | .lst xs => some xs
  | .scr xs => some xs
  | .ref n => match G[n]? with
    | some (.lst xs) => some xs
    | _ => none
  | _ => none
@[simp] theorem lstOf_lst (G : GH) (xs : List D) : lstOf G (.lst xs) = some xs := rfl
@[simp] theorem lstOf_scr (G : GH) (xs : List D) : lstOf G (.scr xs) = some xs := rfl
@[simp] theorem lstOf_tup (G : GH) (xs : List D) : lstOf G (.tup xs) = none := rfl
@[simp] theorem lstOf_int (G : GH) (i : Int) : lstOf G (.int i) = none := rfl
@[simp] theorem lstOf_str (G : GH) (x : Str) : lstOf G (.str x) = none := rfl
@[simp] theorem lstOf_dK (G : GH) (x : List (Key × D)) : lstOf G (.dK x) = none := rfl
@[simp] theorem lstOf_dT (G : GH) (x : List (List Key × D)) : lstOf G (.dT x) = none := rfl
@[simp] theorem lstOf_ref (G : GH) (n : Nat) : lstOf G (.ref n) = match G[n]? with | some (.lst xs) => some xs | _ => none := rfl
theorem scr_sq {K : PySem.W.Frag} {L : Lk} {G : GH} {H : Hp} (hr : HR K L G H) {p : Addr} {vs : List V} (z : ScrAt K L.Z p vs) : SqL K H p vs := z.elim (fun ⟨o, z⟩ => .inl (.inr ⟨o, (hr.z _ _ z).frz⟩)) .inr
section
variable {K : PySem.W.Frag} {L : Lk} {G : GH} {H : Hp} {d : D} {v : V} {ds : List D}
theorem lst_rep (hr : HR K L G H) (h : Rep K L.Z L.r d v) (e : lstOf G d = some ds) : ∃ p vs, v = .ref p ∧ SqL K H p vs ∧ Reps K L.Z L.r ds vs := by
  cases h with
  | lst z t => cases e; exact ⟨_, _, rfl, .of (hr.z _ _ z).lst, t⟩
  | scr z t => cases e; exact ⟨_, _, rfl, scr_sq hr z, t⟩
  | @ref n a q =>
    have hn : n < G.length := by rw [← hr.len]; exact (List.getElem?_eq_some_iff.mp q).1
    have c := hr.cell n a G[n] q (by simp [hn])
    rw [lstOf_ref, List.getElem?_eq_getElem hn] at e
    cases k : G[n] with
    | lst xs =>
      rw [k] at e c; cases e
      cases c with
      | lst h t => exact ⟨_, _, rfl, .of h, t⟩
    | _ => rw [k] at e; cases e
  | _ => cases e
/-- a list that may be read by its exact object (not the script) -/
def lstX (G : GH) : D → Option (List D)
  | .lst xs => some xs
  | .ref n => match G[n]? with
    | some (.lst xs) => some xs
    | _ => none
  | _ => none
@[simp] theorem lstX_lst (G : GH) (xs : List D) : lstX G (.lst xs) = some xs := rfl
@[simp] theorem lstX_ref (G : GH) (n : Nat) : lstX G (.ref n) = match G[n]? with | some (.lst xs) => some xs | _ => none := rfl
theorem lstX_rep (hr : HR K L G H) (h : Rep K L.Z L.r d v) (e : lstX G d = some ds) : ∃ p vs, v = .ref p ∧ H p = some (.lst vs) ∧ Reps K L.Z L.r ds vs := by
  cases h with
  | lst z t => cases e; exact ⟨_, _, rfl, (hr.z _ _ z).lst, t⟩
  | @ref n a q =>
    have hn : n < G.length := by rw [← hr.len]; exact (List.getElem?_eq_some_iff.mp q).1
    have c := hr.cell n a G[n] q (by simp [hn])
    rw [lstX_ref, List.getElem?_eq_getElem hn] at e
    cases k : G[n] with
    | lst xs =>
      rw [k] at e c; cases e
      cases c with
      | lst h t => exact ⟨_, _, rfl, h, t⟩
    | _ => rw [k] at e; cases e
  | _ => cases e
theorem tup_rep (hr : HR K L G H) (h : Rep K L.Z L.r (.tup ds) v) : ∃ p vs, v = .ref p ∧ SqT K H p vs ∧ Reps K L.Z L.r ds vs := by
  cases h with
  | tup z t =>
    rcases z with z | z
    · exact ⟨_, _, rfl, .of (hr.z _ _ z).tup, t⟩
    · exact ⟨_, _, rfl, .inr z, t⟩
/-- a tuple's items; pt: one that is known to the object -/
def tupOf : D → Option (List D)
  | .tup xs => some xs
  | .pt xs => some xs
  | _ => none
theorem tupOf_rep (hr : HR K L G H) (h : Rep K L.Z L.r d v) (e : tupOf d = some ds) : ∃ p vs, v = .ref p ∧ SqT K H p vs ∧ Reps K L.Z L.r ds vs := by
  cases h with
  | tup z t => cases e; exact tup_rep hr (.tup z t)
  | pt z k t => cases e; exact ⟨_, _, rfl, .inl (.inr ⟨_, (hr.z _ _ z).frz⟩), t⟩
  | _ => cases e
theorem cell_rep (hr : HR K L G H) {n : Nat} (h : Rep K L.Z L.r (.ref n) v) {c : Cell} (e : G[n]? = some c) : ∃ a, v = .ref a ∧ L.r[n]? = some a ∧ CellAt K L H c a := by
  cases h with
  | ref q => exact ⟨_, rfl, q, hr.cell _ _ _ q e⟩
end

section
variable {X : Cx} {W : WX} {pos : Pos}
/-! ### names and constants -/
def eVar (i : Nat) : FE := fun δ G => match δ[i]? with
  | some (some d) => .ok d G
  | _ => .no
def eC (d : D) : FE := fun _ G => .ok d G
theorem xe_var {i : Nat} {x : Str} (hN : X.N[i]? = some x) (hv : Vis X.env.scope x) (hd : (x == ("__debug__" : Str)) = false := by decide) (hcd : (x == ("__classdict__" : Str)) = false := by decide) : xE X W (.Name x pos) (eVar i) :=
  PEimp (pe_var hN hv hd hcd) fun σ H Q ⟨L, δ, G, hr, er, h⟩ => by
    unfold eVar at h
    split at h
    · rename_i d e
      obtain ⟨v, e1, r⟩ := er.2 i d e
      exact ⟨v, e1, h L H v (.refl L) hr r⟩
    · exact h.elim
theorem xv (i : Nat) {x : Str} (hN : X.N[i]? = some x := by rfl) (hv : Vis X.env.scope x := by first | exact Or.inl rfl | exact Or.inr (Or.inl rfl) | exact Or.inr (Or.inr rfl)) (hd : (x == ("__debug__" : Str)) = false := by decide)
    (hcd : (x == ("__classdict__" : Str)) = false := by decide) : xE X W (.Name x pos) (eVar i) := xe_var hN hv hd hcd
theorem xe_c {e : Expr} {d : D} {v : V} (h : PE X e (tC v)) (r : ∀ K Z r, Rep K Z r d v) : xE X W e (eC d) :=
  PEimp h fun σ H Q ⟨L, δ, G, hr, er, h⟩ => h L H v (.refl L) hr (r _ _ _)
theorem xe_int {i j} : xE X W (.Constant (.int i) j pos) (eC (.int i)) := xe_c pe_int fun _ _ _ => .int i
theorem xe_bl {b j} : xE X W (.Constant (.bool b) j pos) (eC (.bl b)) := xe_c pe_bl fun _ _ _ => .bl b
theorem xe_non {j} : xE X W (.Constant .none j pos) (eC .non) := xe_c pe_non fun _ _ _ => .non
theorem xe_str {x j} : xE X W (.Constant (.str x) j pos) (eC (.str x)) := xe_c pe_str fun _ _ _ => .str x
/-- a module's constant -/
theorem xe_gint {x : Str} {i : Int} (h : ∃ t, X.mg x = some (.int i t)) (hg : Gl X x := by rfl) (hd : (x == ("__debug__" : Str)) = false := by decide) : xE X W (.Name x pos) (eC (.int i)) :=
  let ⟨t, e⟩ := h; xe_c (pe_glob hg e (v := .int i) ⟨t, rfl⟩ hd) fun _ _ _ => .int i
theorem xe_gstr {x : Str} {z : Str} (h : ∃ t, X.mg x = some (.str z t)) (hg : Gl X x := by rfl) (hd : (x == ("__debug__" : Str)) = false := by decide) : xE X W (.Name x pos) (eC (.str z)) :=
  let ⟨t, e⟩ := h; xe_c (pe_glob hg e (v := .str z) ⟨t, rfl⟩ hd) fun _ _ _ => .str z

/-! ### argument lists -/
def aNil : FA := fun _ G => .ok [] G
def aCons (f : FE) (g : FA) : FA := fun δ G => (f δ G).bind fun d G1 => (g δ G1).bind fun ds G2 => .ok (d :: ds) G2
theorem xa_nil : xA X W [] aNil := PAimp pa_nil fun σ H Q ⟨L, δ, G, hr, er, h⟩ => h L H [] (.refl L) hr .nil
theorem xa_cons {e : Expr} {es : List Expr} {f : FE} {g : FA} (h : xE X W e f) (t : xA X W es g) (hs : starEach (e :: es) X.env = (false, eval e X.env) :: starEach es X.env := by rfl) : xA X W (e :: es) (aCons f g) :=
  PAimp (pa_cons h t hs) fun σ H Q ⟨L, δ, G, hr, er, q⟩ => Sat.bind (rep' := repA X.K) hr er q fun L1 G1 H1 d v le hr1 er1 rd q1 => Sat.bind (rep' := repA X.K) hr1 er1 q1 fun L2 G2 H2 ds vs le2 hr2 er2 rds q2 =>
    q2 L2 H2 (v :: vs) (.refl _) hr2 (.cons (rd.mono le2) rds)

/-! ### displays -/
def eTup (g : FA) : FE := fun δ G => (g δ G).bind fun ds G1 => if ds.length ≤ sizeLine then .ok (.tup ds) G1 else .no
/-- a list that stays as it is -/
def eTupP (g : FA) : FE := fun δ G => (g δ G).bind fun ds G1 => if ds.length ≤ sizeLine then .ok (.pt ds) G1 else .no
def eLst (g : FA) : FE := fun δ G => (g δ G).bind fun ds G1 => if ds.length ≤ sizeLine then .ok (.lst ds) G1 else .no
/-- a list that may change: a new cell -/
def eLstM (g : FA) : FE := fun δ G => (g δ G).bind fun ds G1 => if ds.length ≤ sizeLine then .ok (.ref G1.length) (G1 ++ [.lst ds]) else .no
theorem put_tup {K : PySem.W.Frag} {L : Lk} {G : GH} {H : Hp} {ds : List D} {vs : List V} {p : Addr} (r : Reps K L.Z L.r ds vs) (hr : HR K L G H) (hp : H p = none) :
    HR K (L.put p (.tup vs)) G (upd H p (.tup vs)) ∧ L.le (L.put p (.tup vs)) ∧ Rep K (L.put p (.tup vs)).Z (L.put p (.tup vs)).r (.tup ds) (.ref p) :=
  have le := Lk.le_put (o := .tup vs) (hr.zfree hp)
  ⟨hr.put hp, le, .tup (.inl (by show upd L.Z p _ p = _; exact upd_same)) (r.mono le)⟩
theorem put_lst {K : PySem.W.Frag} {L : Lk} {G : GH} {H : Hp} {ds : List D} {vs : List V} {p : Addr} (r : Reps K L.Z L.r ds vs) (hr : HR K L G H) (hp : H p = none) :
    HR K (L.put p (.lst vs)) G (upd H p (.lst vs)) ∧ L.le (L.put p (.lst vs)) ∧ Rep K (L.put p (.lst vs)).Z (L.put p (.lst vs)).r (.lst ds) (.ref p) :=
  have le := Lk.le_put (o := .lst vs) (hr.zfree hp)
  ⟨hr.put hp, le, .lst (by show upd L.Z p _ p = _; exact upd_same) (r.mono le)⟩
theorem put_pt {K : PySem.W.Frag} {L : Lk} {G : GH} {H : Hp} {ds : List D} {vs : List V} {p : Addr} {o : Obj} (r : Reps K L.Z L.r ds vs) (hr : HR K L G H) (hp : H p = none) (ho : o.dict = none) :
    HR K (L.put p (.frz o (.tup vs))) G (upd H p (.frz o (.tup vs))) ∧ L.le (L.put p (.frz o (.tup vs))) ∧ Rep K (L.put p (.frz o (.tup vs))).Z (L.put p (.frz o (.tup vs))).r (.pt ds) (.ref p) :=
  have le := Lk.le_put (o := .frz o (.tup vs)) (hr.zfree hp)
  ⟨hr.put hp, le, .pt (by show upd L.Z p _ p = _; exact upd_same) ho (r.mono le)⟩
theorem add_lst {K : PySem.W.Frag} {L : Lk} {G : GH} {H : Hp} {ds : List D} {vs : List V} {p : Addr} (r : Reps K L.Z L.r ds vs) (hr : HR K L G H) (hp : H p = none) :
    HR K (L.add p) (G ++ [.lst ds]) (upd H p (.lst vs)) ∧ L.le (L.add p) ∧ Rep K (L.add p).Z (L.add p).r (.ref G.length) (.ref p) :=
  have le : L.le (L.add p) := Lk.le_add
  ⟨hr.add hp (.lst upd_same (r.mono le)), le, .ref (by
    show (L.r ++ [p])[G.length]? = some p
    rw [← hr.len, List.getElem?_append_right (Nat.le_refl _), Nat.sub_self]; rfl)⟩
variable {es : List Expr} {g : FA}
theorem xe_tup {k} (h : xA X W es g) : xE X W (.Tuple es k pos) (eTup g) :=
  PEimp (pe_tup h) fun σ H Q ⟨L, δ, G, hr, er, q⟩ => Sat.bind (rep' := repD X.K) hr er q fun L1 G1 H1 ds vs le hr1 er1 rd q1 => by
    by_cases hl : ds.length ≤ sizeLine
    · rw [if_pos hl] at q1
      refine ⟨by rw [← Reps.length rd]; exact hl, fun p hp => ?_⟩
      obtain ⟨a, b, c⟩ := put_tup rd hr1 hp
      exact q1 _ _ _ b a c
    · rw [if_neg hl] at q1; exact q1.elim
/-- a tuple, told as the object -/
def tTupP (t : TA) : TE := fun σ H Q => t σ H fun xs H1 => xs.length ≤ sizeLine ∧ ∀ p o, H1 p = none → o.dict = none → Q (.ref p) (upd H1 p (.frz o (.tup xs)))
theorem pe_tupP {k} {t : TA} (h : PA X es t) : PE X (.Tuple es k pos) (tTupP t) := ⟨fun pins s σ H Q I hq =>
  wpAny_Tuple_spliced (thn (h.run pos pins s σ H _ I hq) fun us s1 ⟨xs, H1, I1, r, z, q⟩ => ⟨by rw [← r.length]; exact z,
    ⟨.ref s1.heap.objs.size, _, I1.laid (o := .frz { cls := .type "tuple", data := .seq us.toArray } (.tup xs)) (t' := s1.toks) (fun b u e => Heap.get?_push_of_some _ e) (Nat.le_refl _)
      ⟨Heap.get?_push_size _ rfl, z, us, r, ⟨_, Heap.get?_push_size _ rfl, rfl, _, rfl⟩⟩, rfl, q _ _ (I1.hok.fresh (Nat.le_refl _)) rfl⟩⟩)⟩
theorem xe_tupP {k} (h : xA X W es g) : xE X W (.Tuple es k pos) (eTupP g) :=
  PEimp (pe_tupP h) fun σ H Q ⟨L, δ, G, hr, er, q⟩ => Sat.bind (rep' := repD X.K) hr er q fun L1 G1 H1 ds vs le hr1 er1 rd q1 => by
    by_cases hl : ds.length ≤ sizeLine
    · rw [if_pos hl] at q1
      refine ⟨by rw [← Reps.length rd]; exact hl, fun p o hp ho => ?_⟩
      obtain ⟨a, b, c⟩ := put_pt rd hr1 hp ho
      exact q1 _ _ _ b a c
    · rw [if_neg hl] at q1; exact q1.elim
theorem xe_lst (h : xA X W es g) : xE X W (.List es pos) (eLst g) :=
  PEimp (pe_lst h) fun σ H Q ⟨L, δ, G, hr, er, q⟩ => Sat.bind (rep' := repD X.K) hr er q fun L1 G1 H1 ds vs le hr1 er1 rd q1 => by
    by_cases hl : ds.length ≤ sizeLine
    · rw [if_pos hl] at q1
      refine ⟨by rw [← Reps.length rd]; exact hl, fun p hp => ?_⟩
      obtain ⟨a, b, c⟩ := put_lst rd hr1 hp
      exact q1 _ _ _ b a c
    · rw [if_neg hl] at q1; exact q1.elim
theorem xe_lstM (h : xA X W es g) : xE X W (.List es pos) (eLstM g) :=
  PEimp (pe_lst h) fun σ H Q ⟨L, δ, G, hr, er, q⟩ => Sat.bind (rep' := repD X.K) hr er q fun L1 G1 H1 ds vs le hr1 er1 rd q1 => by
    by_cases hl : ds.length ≤ sizeLine
    · rw [if_pos hl] at q1
      refine ⟨by rw [← Reps.length rd]; exact hl, fun p hp => ?_⟩
      obtain ⟨a, b, c⟩ := add_lst rd hr1 hp
      exact q1 _ _ _ b a c
    · rw [if_neg hl] at q1; exact q1.elim

/-! ### operators by values -/
abbrev F2 := D → D → GH → R D
/-- a data operation tells what a reading asks -/
def Op2 (K : PySem.W.Frag) (f : F2) (r : R2) : Prop := ∀ (L : Lk) (G : GH) (H : Hp) (x y : D) (v u : V) (W : WX) (σ : St) (Q : VK), HR K L G H → Rep K L.Z L.r x v → Rep K L.Z L.r y u → Sat K W L σ (repD K) (f x y G) Q → r v u H Q
def eOp (f : F2) (a b : FE) : FE := fun δ G => (a δ G).bind fun x G1 => (b δ G1).bind fun y G2 => f x y G2
theorem eOp_imp {K : PySem.W.Frag} {f : F2} {r : R2} {fa fb : FE} (o : Op2 K f r) (σ : St) (H : Hp) (Q : VK) (h : tG K W (repD K) (eOp f fa fb) σ H Q) : tOp r (tG K W (repD K) fa) (tG K W (repD K) fb) σ H Q := by
  obtain ⟨L, δ, G, hr, er, q⟩ := h
  exact Sat.bind (rep' := repD K) hr er q fun L1 G1 H1 x v le hr1 er1 rx q1 => Sat.bind (rep' := repD K) hr1 er1 q1 fun L2 G2 H2 y u le2 hr2 er2 ry q2 =>
    o L2 G2 H2 x y v u _ _ Q hr2 (rx.mono le2) ry q2
variable {a b c : Expr} {fa fb fc : FE} {f f' : F2} {r r' : R2}
theorem xe_op {op : Operator} (ho : OpR X (binaryOp op) r) (o : Op2 X.K f r) (ha : xE X W a fa) (hb : xE X W b fb) : xE X W (.BinOp a op b pos) (eOp f fa fb) := PEimp (pe_op ho ha hb) (eOp_imp o)
theorem xe_cmp {op : CmpOp} (ho : OpR X (compareOp op) r) (o : Op2 X.K f r) (ha : xE X W a fa) (hb : xE X W b fb) (hm : behindInMarks op b = false) : xE X W (.Compare a [op] [b] pos) (eOp f fa fb) := PEimp (pe_cmpR ho ha hb hm) (eOp_imp o)
theorem Op2.or {K : PySem.W.Frag} {f g : F2} {r r' : R2} (p : D → D → GH → Bool) (h : Op2 K f r) (h' : Op2 K g r') : Op2 K (fun x y G => if p x y G then f x y G else g x y G) (fun x y H Q => r x y H Q ∨ r' x y H Q) := fun L G H x y v u W σ Q hr rx ry q => by
  have q : Sat K W L σ (repD K) (if p x y G = true then f x y G else g x y G) Q := q
  by_cases e : p x y G = true
  · rw [if_pos e] at q; exact .inl (h L G H x y v u W σ Q hr rx ry q)
  · rw [if_neg e] at q; exact .inr (h' L G H x y v u W σ Q hr rx ry q)

/-! ### tests -/
/-- a bool's result -/
def asB (f : FE) : FT := fun δ G => (f δ G).bind fun d G1 => match d with
  | .bl b => .ok b G1
  | _ => .no
theorem asB_imp {K : PySem.W.Frag} {f : FE} (σ : St) (H : Hp) (Q : Bool → Hp → Prop) (h : tG K W repB (asB f) σ H Q) : tTest (tG K W (repD K) f) σ H Q := by
  obtain ⟨L, δ, G, hr, er, q⟩ := h
  refine Sat.bind (rep' := repB) hr er q fun L1 G1 H1 x v le hr1 er1 rx q1 => ?_
  cases rx with
  | bl b => exact ⟨b, rfl, q1 L1 H1 b (.refl _) hr1 rfl⟩
  | _ => exact q1.elim
theorem xt_cmp {op : CmpOp} (ho : OpR X (compareOp op) r) (o : Op2 X.K f r) (ha : xE X W a fa) (hb : xE X W b fb) (hm : behindInMarks op b = false) : xT X W (.Compare a [op] [b] pos) (asB (eOp f fa fb)) :=
  PTimp (pt_cmpR ho ha hb hm) fun σ H Q h => by
    have q := asB_imp σ H Q h
    obtain ⟨L, δ, G, hr, er, s⟩ := q
    exact eOp_imp o σ H _ ⟨L, δ, G, hr, er, s⟩
/-- x op y op' z -/
def eChain (f f' : F2) (a b c : FE) : FE := fun δ G => (a δ G).bind fun x G1 => (b δ G1).bind fun y G2 => (f x y G2).bind fun k G3 => match k with
  | .bl true => (c δ G3).bind fun z G4 => f' y z G4
  | .bl false => .ok (.bl false) G3
  | _ => .no
theorem eChain_imp {K : PySem.W.Frag} (o : Op2 K f r) (o' : Op2 K f' r') (σ : St) (H : Hp) (Q : VK) (h : tG K W (repD K) (eChain f f' fa fb fc) σ H Q) :
    tChain r r' (tG K W (repD K) fa) (tG K W (repD K) fb) (tG K W (repD K) fc) σ H Q := by
  obtain ⟨L, δ, G, hr, er, q⟩ := h
  refine Sat.bind (rep' := repD K) hr er q fun L1 G1 H1 x v le hr1 er1 rx q1 => Sat.bind (rep' := repD K) hr1 er1 q1 fun L2 G2 H2 y u le2 hr2 er2 ry q2 => ?_
  refine o L2 G2 H2 x y v u W σ _ hr2 (rx.mono le2) ry ?_
  cases e : f x y G2 with
  | ok k G3 =>
    rw [e] at q2
    intro L3 H3 w le3 hr3 rk
    have q3 : Sat K W L3 σ (repD K) _ Q := Sat.mono q2 le3
    have rk' : Rep K L3.Z L3.r k w := rk
    cases rk' with
    | bl b =>
      refine ⟨b, rfl, ?_⟩
      cases b with
      | true =>
        rw [if_pos rfl]
        exact Sat.bind (rep' := repD K) hr3 (er2.mono le3) q3 fun L4 G4 H4 z t le4 hr4 er4 rz q4 => o' L4 G4 H4 y z u t W σ Q hr4 ((ry.mono le3).mono le4) rz q4
      | false =>
        rw [if_neg Bool.false_ne_true]
        exact q3 L3 H3 _ (.refl _) hr3 (.bl false)
    | _ => exact q3.elim
  | ex x' G3 => rw [e] at q2; exact q2
  | no => rw [e] at q2; exact q2
theorem xe_chain {op op' : CmpOp} (ho : OpR X (compareOp op) r) (o : Op2 X.K f r) (ho' : OpR X (compareOp op') r') (o' : Op2 X.K f' r') (ha : xE X W a fa) (hb : xE X W b fb) (hc : xE X W c fc)
    (hm : lastMarks [op, op'] [b, c] = false := by with_unfolding_all rfl) : xE X W (.Compare a [op, op'] [b, c] pos) (eChain f f' fa fb fc) := PEimp (pe_chain ho ho' ha hb hc hm) (eChain_imp o o')
theorem xt_chain {op op' : CmpOp} (ho : OpR X (compareOp op) r) (o : Op2 X.K f r) (ho' : OpR X (compareOp op') r') (o' : Op2 X.K f' r') (ha : xE X W a fa) (hb : xE X W b fb) (hc : xE X W c fc)
    (hm : lastMarks [op, op'] [b, c] = false := by with_unfolding_all rfl) : xT X W (.Compare a [op, op'] [b, c] pos) (asB (eChain f f' fa fb fc)) := PTimp (pt_chain ho ho' ha hb hc hm) fun σ H Q h => by
  obtain ⟨L, δ, G, hr, er, s⟩ := asB_imp σ H Q h
  exact eChain_imp o o' σ H _ ⟨L, δ, G, hr, er, s⟩
def tAndD (f g : FT) : FT := fun δ G => (f δ G).bind fun k G1 => if k then g δ G1 else .ok false G1
def tOrD (f g : FT) : FT := fun δ G => (f δ G).bind fun k G1 => if k then .ok true G1 else g δ G1
def tNotD (f : FT) : FT := fun δ G => (f δ G).bind fun k G1 => .ok (!k) G1
variable {A B : FT} {rest : List Expr}
theorem xw_and1 (h : xT X W a A) : xW X W (.BoolOp .And [a] pos) A := pw_and1 h
theorem xw_or1 (h : xT X W a A) : xW X W (.BoolOp .Or [a] pos) A := pw_or1 h
theorem xw_and (h : xT X W a A) (k : xW X W (.BoolOp .And (b :: rest) pos) B) : xW X W (.BoolOp .And (a :: b :: rest) pos) (tAndD A B) :=
  PWimp (pw_and h k) fun σ H Q ⟨L, δ, G, hr, er, q⟩ => Sat.bind (rep' := repB) hr er q fun L1 G1 H1 x v le hr1 er1 rx q1 => by
    have rx' : x = v := rx
    subst rx'
    cases x with
    | true => rw [if_pos rfl]; exact ⟨L1, δ, G1, hr1, er1, q1⟩
    | false => rw [if_neg Bool.false_ne_true]; exact q1 L1 H1 false (.refl _) hr1 rfl
theorem xw_or (h : xT X W a A) (k : xW X W (.BoolOp .Or (b :: rest) pos) B) : xW X W (.BoolOp .Or (a :: b :: rest) pos) (tOrD A B) :=
  PWimp (pw_or h k) fun σ H Q ⟨L, δ, G, hr, er, q⟩ => Sat.bind (rep' := repB) hr er q fun L1 G1 H1 x v le hr1 er1 rx q1 => by
    have rx' : x = v := rx
    subst rx'
    cases x with
    | true => rw [if_pos rfl]; exact q1 L1 H1 true (.refl _) hr1 rfl
    | false => rw [if_neg Bool.false_ne_true]; exact ⟨L1, δ, G1, hr1, er1, q1⟩
theorem xt_w {e : Expr} (h : xW X W e A) : xT X W e A := PW.pt h
theorem xt_not (h : xT X W a A) : xT X W (.UnaryOp .Not a pos) (tNotD A) :=
  PTimp (pt_not h) fun σ H Q ⟨L, δ, G, hr, er, q⟩ => Sat.bind (rep' := repB) hr er q fun L1 G1 H1 x v le hr1 er1 rx q1 => by
    have rx' : x = v := rx
    subst rx'
    exact q1 L1 H1 (!x) (.refl _) hr1 rfl
/-- a value's truth -/
def truD (G : GH) : D → Option Bool
  | .non => some false
  | .bl b => some b
  | .int i => some (i != 0)
  | .str x => if x.length ≤ sizeLine then some (x.length != 0) else none
  | .tup xs => some (!xs.isEmpty)
  | .pt xs => some (!xs.isEmpty)
  | .lst xs => some (!xs.isEmpty)
  | .scr xs => some (!xs.isEmpty)
  | .ref n => match G[n]? with
    | some (.lst xs) => some (!xs.isEmpty)
    | some (.dK xs) => some (!xs.isEmpty)
    | _ => none
  | _ => none
theorem isEmpty_reps {K : PySem.W.Frag} {Z : Hp} {r : List Addr} {ds : List D} {vs : List V} (h : Reps K Z r ds vs) : (!ds.isEmpty) = !vs.isEmpty := by cases h <;> rfl
theorem truD_rep {K : PySem.W.Frag} {L : Lk} {G : GH} {H : Hp} {d : D} {v : V} {k : Bool} (hr : HR K L G H) (h : Rep K L.Z L.r d v) (e : truD G d = some k) : TruV K v H k := by
  have seq : ∀ {ds}, lstOf G d = some ds → k = !ds.isEmpty → TruV K v H k := fun {ds} e1 e2 => by
    obtain ⟨p, vs, rfl, s, t⟩ := lst_rep hr h e1
    exact .inl ⟨vs, s, by rw [e2, isEmpty_reps t]⟩
  cases h with
  | non => cases e; rfl
  | bl b => cases e; rfl
  | int i => cases e; rfl
  | str x =>
    have e' : (if x.length ≤ sizeLine then some (x.length != 0) else none) = some k := e
    by_cases hl : x.length ≤ sizeLine
    · rw [if_pos hl] at e'
      cases e'
      refine ⟨hl, ?_⟩
      by_cases z : x.length = 0
      · rw [z]; rfl
      · have : ((x.length : Int) != 0) = true := by simp; omega
        rw [this]; simpa using z
    · rw [if_neg hl] at e'; cases e'
  | tup z t =>
    cases e
    obtain ⟨p, vs, e1, s, t'⟩ := tup_rep hr (.tup z t)
    cases e1
    exact .inr (.inl ⟨vs, s, isEmpty_reps t'⟩)
  | pt z k t =>
    cases e
    obtain ⟨p, vs, e1, s, t'⟩ := tupOf_rep hr (.pt z k t) rfl
    cases e1
    exact .inr (.inl ⟨vs, s, isEmpty_reps t'⟩)
  | lst z t => exact seq rfl (by cases e; rfl)
  | scr z t => exact seq rfl (by cases e; rfl)
  | @ref n a q =>
    have hn : n < G.length := by rw [← hr.len]; exact (List.getElem?_eq_some_iff.mp q).1
    have c := hr.cell n a G[n] q (by simp [hn])
    have e' : (match G[n]? with | some (.lst xs) => some (!xs.isEmpty) | some (.dK xs) => some (!xs.isEmpty) | _ => none) = some k := e
    rw [List.getElem?_eq_getElem hn] at e'
    cases k' : G[n] with
    | lst xs =>
      rw [k'] at e'; cases e'
      exact seq (by rw [lstOf_ref, List.getElem?_eq_getElem hn, k']) rfl
    | dK xs =>
      rw [k'] at e' c; cases e'
      cases c with
      | dK h1 h2 h3 =>
        refine .inr (.inr ⟨_, h1, ?_⟩)
        have hl := congrArg List.length h2
        simp only [List.length_map] at hl
        rename_i kvs
        cases xs <;> cases kvs <;> simp at hl ⊢
    | _ => rw [k'] at e'; cases e'
  | _ => cases e
def eTru (f : FE) : FT := fun δ G => (f δ G).bind fun d G1 => match truD G1 d with
  | some b => .ok b G1
  | none => .no
theorem xt_tru {e : Expr} {f : FE} (h : xE X W e f) (he : ∀ whole, isTrue e X.env whole = (do let v ← whole; standAt e.pos; holding [v] (truthy v)) := by intro _; rfl) : xT X W e (eTru f) :=
  PTimp (pt_truth h he) fun σ H Q ⟨L, δ, G, hr, er, q⟩ => Sat.bind (rep' := repB) hr er q fun L1 G1 H1 x v le hr1 er1 rx q1 => by
    cases e' : truD G1 x with
    | none => rw [e'] at q1; exact q1.elim
    | some b =>
      rw [e'] at q1
      exact ⟨b, truD_rep hr1 rx e', q1 L1 H1 b (.refl _) hr1 rfl⟩
def eIf (t : FT) (f g : FE) : FE := fun δ G => (t δ G).bind fun k G1 => if k then f δ G1 else g δ G1
theorem xe_if {t : FT} (h : xT X W c t) (ha : xE X W a fa) (hb : xE X W b fb) : xE X W (.IfExp c a b pos) (eIf t fa fb) :=
  PEimp (pe_ifExp h ha hb) fun σ H Q ⟨L, δ, G, hr, er, q⟩ => Sat.bind (rep' := repD X.K) hr er q fun L1 G1 H1 x v le hr1 er1 rx q1 => by
    have rx' : x = v := rx
    subst rx'
    cases x with
    | true => rw [if_pos rfl]; exact ⟨L1, δ, G1, hr1, er1, q1⟩
    | false => rw [if_neg Bool.false_ne_true]; exact ⟨L1, δ, G1, hr1, er1, q1⟩

/-! ### statements -/
def sNext : FS := fun δ G => .nx δ G
def sSeq (f g : FS) : FS := fun δ G => (f δ G).seq g
def sRet (f : FE) : FS := fun δ G => (f δ G).thn δ fun d G1 => .rt d G1
def sRetN : FS := fun _ G => .rt .non G
def sIf (t : FT) (f g : FS) : FS := fun δ G => (t δ G).thn δ fun k G1 => if k then f δ G1 else g δ G1
def sSet (i : Nat) (f : FE) : FS := fun δ G => (f δ G).thn δ fun d G1 => .nx (δ.set i (some d)) G1
def sDrop (f : FE) : FS := fun δ G => (f δ G).thn δ fun _ G1 => .nx δ G1
def sBreak : FS := fun δ G => .bk δ G
def sCont : FS := fun δ G => .ct δ G
variable {st : Stmt} {sts : List Stmt} {s1 s2 : FS}
theorem xs_nil : xSs X W [] sNext := PSsimp pss_nil fun E σ H ⟨L, δ, G, hr, er, q⟩ => q L σ H (.refl _) hr er
theorem xs_cons (h : xS X W st s1) (t : xSs X W sts s2) : xSs X W (st :: sts) (sSeq s1 s2) :=
  PSsimp (pss_cons h t) fun E σ H ⟨L, δ, G, hr, er, q⟩ => by
    refine ⟨L, δ, G, hr, er, ?_⟩
    have q' : SatS X.K W L ((s1 δ G).seq s2) E := q
    cases e : s1 δ G with
    | nx δ1 G1 =>
      rw [e] at q'
      exact fun L1 σ1 H1 le hr1 er1 => ⟨L1, δ1, G1, hr1, er1, SatS.mono (L := L) (r := s2 δ1 G1) q' le⟩
    | _ => rw [e] at q'; exact q'
theorem xs_one (h : xS X W st s1) : xSs X W [st] s1 := pss_one h
theorem xs_pass : xS X W (.Pass pos) sNext := PSimp ps_pass fun E σ H ⟨L, δ, G, hr, er, q⟩ => q L σ H (.refl _) hr er
theorem xs_break : xS X W (.Break pos) sBreak := PSimp ps_break fun E σ H ⟨L, δ, G, hr, er, q⟩ => q L σ H (.refl _) hr er
theorem xs_cont : xS X W (.Continue pos) sCont := PSimp ps_continue fun E σ H ⟨L, δ, G, hr, er, q⟩ => q L σ H (.refl _) hr er
theorem xs_expr {e : Expr} {f : FE} (h : xE X W e f) (hs : swapsWith e none pos.line X.env = pure false := by rfl) : xS X W (.Expr e pos) (sDrop f) :=
  PSimp (ps_expr h hs) fun E σ H ⟨L, δ, G, hr, er, q⟩ => Sat.thn hr er q fun L1 G1 H1 d v le hr1 er1 rd q1 => q1 L1 σ H1 (.refl _) hr1 er1
theorem xs_ret {e : Expr} {f : FE} (h : xE X W e f) : xS X W (.Return (some e) pos) (sRet f) :=
  PSimp (ps_ret h) fun E σ H ⟨L, δ, G, hr, er, q⟩ => Sat.thn hr er q fun L1 G1 H1 d v le hr1 er1 rd q1 => q1 L1 H1 v (.refl _) hr1 rd
theorem xs_retN : xS X W (.Return none pos) sRetN := PSimp ps_retN fun E σ H ⟨L, δ, G, hr, er, q⟩ => q L H .non (.refl _) hr .non
theorem xs_if {t : FT} {ts es : List Stmt} (h : xT X W c t) (h1 : xSs X W ts s1) (h2 : xSs X W es s2) : xS X W (.If c ts es pos) (sIf t s1 s2) :=
  PSimp (ps_if h h1 h2) fun E σ H ⟨L, δ, G, hr, er, q⟩ => Sat.thn hr er q fun L1 G1 H1 x v le hr1 er1 rx q1 => by
    have rx' : x = v := rx
    subst rx'
    cases x with
    | true => rw [if_pos rfl]; exact ⟨L1, δ, G1, hr1, er1, q1⟩
    | false => rw [if_neg Bool.false_ne_true]; exact ⟨L1, δ, G1, hr1, er1, q1⟩

/-! ### targets -/
/-- a target takes a value; vs: the slots that it may set -/
abbrev FG := D → DEnv → GH → RS
def tGt (K : PySem.W.Frag) (vs : List Nat) (g : FG) : TG := fun v σ H Q => ∃ L d δ G, HR K L G H ∧ ER K L δ σ ∧ Rep K L.Z L.r d v ∧ (match g d δ G with
  | .nx δ' G' => ∀ L' σ' H', L.le L' → HR K L' G' H' → ER K L' δ' σ' → wipe σ' vs = wipe σ vs → Q σ' H'
  | _ => False)
def xG (X : Cx) (vs : List Nat) (t : Expr) (g : FG) : Prop := PG X t (tGt X.K vs g)
theorem PGimp {X : Cx} {e : Expr} {t t' : TG} (h : PG X e t) (i : ∀ v σ H Q, t' v σ H Q → t v σ H Q) : PG X e t' := ⟨fun pins s σ H v u Q I r q => h.run pins s σ H v u Q I r (i _ _ _ _ q)⟩
theorem wipe_set {σ : St} {i : Nat} {x : Option V} : ∀ {vs : List Nat}, i ∈ vs → wipe (σ.set i x) vs = wipe σ vs
  | [], h => by cases h
  | v :: vs, h => by
    unfold wipe
    by_cases e : i ∈ vs
    · rw [wipe_set e]
    · have hv : i = v := (List.mem_cons.mp h).resolve_right e
      subst hv
      have key : ∀ {us : List Nat} {τ : St}, i ∉ us → wipe (τ.set i x) us = (wipe τ us).set i x := by
        intro us
        induction us with
        | nil => intro τ _; rfl
        | cons u us ih =>
          intro τ hu
          unfold wipe
          rw [ih fun z => hu (List.mem_cons_of_mem _ z)]
          exact List.set_comm _ _ fun z => hu (by rw [z]; exact List.mem_cons_self ..)
      rw [key e, List.set_set]
def gNm (i : Nat) : FG := fun d δ G => .nx (δ.set i (some d)) G
theorem xg_name {i : Nat} {x : Str} {vs : List Nat} (hN : X.N.Nodup) (hi : X.N[i]? = some x) (hx : Loc X.env.scope x) (hv : i ∈ vs := by decide) (hf : X.fn x = true ∨ X.env.scope.names.lookup x = some .local := by first | exact .inl rfl | exact .inr rfl | assumption) : xG X vs (.Name x pos) (gNm i) :=
  PGimp (pg_name hN hi hx hf) fun v σ H Q ⟨L, d, δ, G, hr, er, rd, q⟩ => q L _ H (.refl _) hr (er.set i rd) (wipe_set hv)
abbrev FGs := List D → DEnv → GH → RS
def tGts (K : PySem.W.Frag) (us : List Nat) (g : FGs) : TGs := fun vs σ H Q => ∃ L ds δ G, HR K L G H ∧ ER K L δ σ ∧ Reps K L.Z L.r ds vs ∧ (match g ds δ G with
  | .nx δ' G' => ∀ L' σ' H', L.le L' → HR K L' G' H' → ER K L' δ' σ' → wipe σ' us = wipe σ us → Q σ' H'
  | _ => False)
def xGs (X : Cx) (us : List Nat) (t : List Expr) (g : FGs) : Prop := PGs X t (tGts X.K us g)
theorem PGsimp {X : Cx} {e : List Expr} {t t' : TGs} (h : PGs X e t) (i : ∀ v σ H Q, t' v σ H Q → t v σ H Q) : PGs X e t' := ⟨fun pins s σ H v u Q I r q => h.run pins s σ H v u Q I r (i _ _ _ _ q)⟩
def gsNil : FGs := fun ds δ G => match ds with
  | [] => .nx δ G
  | _ => .no
def gsCons (g : FG) (k : FGs) : FGs := fun ds δ G => match ds with
  | d :: r => (g d δ G).seq (k r)
  | [] => .no
variable {us : List Nat}
theorem xgs_nil : xGs X us [] gsNil := PGsimp pgs_nil fun vs σ H Q ⟨L, ds, δ, G, hr, er, rd, q⟩ => by
  cases rd with
  | nil => exact ⟨rfl, q L σ H (.refl _) hr er rfl⟩
  | cons _ _ => exact q.elim
theorem xgs_cons {e : Expr} {es : List Expr} {g : FG} {k : FGs} (h : xG X us e g) (t : xGs X us es k) (hs : (assignEach (e :: es) X.env).map (·.2) = assign e X.env :: (assignEach es X.env).map (·.2) := by rfl) : xGs X us (e :: es) (gsCons g k) :=
  PGsimp (pgs_cons h t hs) fun vs σ H Q ⟨L, ds, δ, G, hr, er, rd, q⟩ => by
    cases rd with
    | nil => exact q.elim
    | @cons d v ds vs r rs =>
      refine ⟨v, vs, rfl, L, d, δ, G, hr, er, r, ?_⟩
      have q' : (match (g d δ G).seq (k ds) with | .nx δ' G' => ∀ L' σ' H', L.le L' → HR X.K L' G' H' → ER X.K L' δ' σ' → wipe σ' us = wipe σ us → Q σ' H' | _ => False) := q
      cases e : g d δ G with
      | nx δ1 G1 =>
        rw [e] at q'
        have q2 : (match k ds δ1 G1 with | .nx δ' G' => ∀ L' σ' H', L.le L' → HR X.K L' G' H' → ER X.K L' δ' σ' → wipe σ' us = wipe σ us → Q σ' H' | _ => False) := q'
        intro L1 σ1 H1 le hr1 er1 w1
        refine ⟨L1, ds, δ1, G1, hr1, er1, rs.mono le, ?_⟩
        cases e2 : k ds δ1 G1 with
        | nx δ2 G2 => rw [e2] at q2; exact fun L2 σ2 H2 le2 hr2 er2 w2 => q2 L2 σ2 H2 (le.trans le2) hr2 er2 (w2.trans w1)
        | _ => rw [e2] at q2; exact q2.elim
      | _ => rw [e] at q'; exact q'.elim
def gTp (n : Nat) (k : FGs) : FG := fun d δ G => match d with
  | .tup ds => if ds.length = n then k ds δ G else .no
  | _ => .no
theorem xg_tup {es : List Expr} {kk : Nat} {k : FGs} {n : Nat} (hc : X.calm = true) (h : xGs X us es k) (hn : (assignEach es X.env).length = n := by rfl) (hst : (assignEach es X.env).findIdx? (·.1) = none := by rfl) : xG X us (.Tuple es kk pos) (gTp n k) :=
  PGimp (pg_tup hc h hn hst) fun v σ H Q ⟨L, d, δ, G, hr, er, rd, q⟩ => by
    cases rd with
    | @tup p vs ds z t =>
      obtain ⟨p', vs', e1, s, t'⟩ := tup_rep hr (.tup z t)
      cases e1
      have q' : (match (if ds.length = n then k ds δ G else .no) with | .nx δ' G' => ∀ L' σ' H', L.le L' → HR X.K L' G' H' → ER X.K L' δ' σ' → wipe σ' us = wipe σ us → Q σ' H' | _ => False) := q
      by_cases hl : ds.length = n
      · rw [if_pos hl] at q'
        exact ⟨p, vs', rfl, s, by rw [← Reps.length t']; exact hl, L, ds, δ, G, hr, er, t', q'⟩
      · rw [if_neg hl] at q'; exact q'.elim
    | _ => exact q.elim
def sAsg (f : FE) (g : FG) : FS := fun δ G => (f δ G).thn δ fun d G1 => match g d δ G1 with
  | .nx δ' G' => .nx δ' G'
  | _ => .no
theorem xs_asg {tg e : Expr} {f : FE} {g : FG} (he : xE X W e f) (hg : xG X us tg g) (hs : swapsWithSole [tg] e pos.line X.env = pure false := by rfl) (hw : swappedStores [tg] e X.env = pure none := by rfl)
    (h1 : (assignEach [tg] X.env).map (·.2) = [assign tg X.env] := by rfl) : xS X W (.Assign [tg] e pos) (sAsg f g) :=
  PSimp (ps_asg he hg hs hw h1) fun E σ H ⟨L, δ, G, hr, er, q⟩ => Sat.thn hr er q fun L1 G1 H1 d v le hr1 er1 rd q1 => by
    refine ⟨L1, d, δ, G1, hr1, er1, rd, ?_⟩
    cases e : g d δ G1 with
    | nx δ' G' => rw [e] at q1; exact fun L' σ' H' le hr er _ => q1 L' σ' H' le hr er
    | _ => rw [e] at q1; exact q1.elim
theorem sAsg_nm (i : Nat) (f : FE) : sAsg f (gNm i) = sSet i f := rfl
theorem xs_set {i : Nat} {x : Str} {e : Expr} {p : Pos} {f : FE} (hN : X.N.Nodup) (hi : X.N[i]? = some x) (hx : Loc X.env.scope x) (he : xE X W e f)
    (hf : X.fn x = true ∨ X.env.scope.names.lookup x = some .local := by first | exact .inl rfl | exact .inr rfl | assumption) (hs : swapsWithSole [.Name x p] e pos.line X.env = pure false := by rfl)
    (hw : swappedStores [.Name x p] e X.env = pure none := by rfl) : xS X W (.Assign [.Name x p] e pos) (sSet i f) := xs_asg he (xg_name (vs := [i]) hN hi hx (List.mem_singleton.mpr rfl) hf) hs hw rfl
end
end CF
end
section
set_option maxRecDepth 100000
set_option maxHeartbeats 1000000
/-! Operators and built-ins of the data level. -/
namespace CF
open PySem PySem.Spec PyProof.Rows L2

/-! ### data as the library's data -/
mutual
def D.py : D → Option PyData
  | .non => some .none
  | .bl b => some (.bool b)
  | .int i => some (.int i)
  | .str x => if PyData.strOk x then some (.str x) else none
  | .tup xs => match D.pyAll xs with
    | some ys => some (.tuple ys)
    | none => none
  | .pt xs => match D.pyAll xs with
    | some ys => some (.tuple ys)
    | none => none
  | .lst xs => match D.pyAll xs with
    | some ys => some (.list ys)
    | none => none
  | .scr xs => match D.pyAll xs with
    | some ys => some (.list ys)
    | none => none
  | .dK _ => none
  | .dT _ => none
  | .ins _ _ => none
  | .ref _ => none
def D.pyAll : List D → Option (List PyData)
  | [] => some []
  | x :: r => match D.py x, D.pyAll r with
    | some y, some ys => some (y :: ys)
    | _, _ => none
end
/-- a cell's list as a list -/
def res (G : GH) : D → D
  | .ref n => match G[n]? with
    | some (.lst xs) => .lst xs
    | _ => .ref n
  | d => d
@[simp] theorem res_pt (G : GH) (xs : List D) : res G (.pt xs) = .pt xs := rfl
@[simp] theorem res_tup (G : GH) (xs : List D) : res G (.tup xs) = .tup xs := rfl
@[simp] theorem res_lst (G : GH) (xs : List D) : res G (.lst xs) = .lst xs := rfl
@[simp] theorem res_int (G : GH) (x : Int) : res G (.int x) = .int x := rfl
@[simp] theorem res_str (G : GH) (x : Str) : res G (.str x) = .str x := rfl
@[simp] theorem res_bl (G : GH) (x : Bool) : res G (.bl x) = .bl x := rfl
@[simp] theorem res_non (G : GH) : res G .non = .non := rfl
theorem lay_shaped {d : PyData} (h : d.canLay0 = true) (k : d.depth ≤ 64) : SeqAt.shaped d = true := by
  unfold SeqAt.shaped
  rw [h, decide_eq_true k]; rfl
section
variable {K : PySem.W.Frag} {L : Lk} {G : GH} {H : Hp}
mutual
theorem py_rep (hr : HR K L G H) : ∀ (x : D) (v : V) (d : PyData), Rep K L.Z L.r x v → x.py = some d → Dp K H v d ∧ d.canLay0 = true
  | .non, _, _, h, e => by cases h; cases e; exact ⟨.non, rfl⟩
  | .bl b, _, _, h, e => by cases h; cases e; exact ⟨.bl b, rfl⟩
  | .int i, _, _, h, e => by cases h; cases e; exact ⟨.int i, rfl⟩
  | .str x, _, _, h, e => by
    cases h
    rw [D.py] at e
    by_cases k : PyData.strOk x = true
    · rw [if_pos k] at e; cases e; exact ⟨.str x, by rw [PyData.canLay0]; exact k⟩
    · rw [if_neg k] at e; cases e
  | .tup xs, _, _, h, e => by
    rw [D.py] at e
    cases q : D.pyAll xs with
    | none => rw [q] at e; cases e
    | some ys =>
      rw [q] at e; cases e
      obtain ⟨p, vs, rfl, s, t⟩ := tup_rep hr h
      obtain ⟨a, b⟩ := pyAll_rep hr xs vs ys t q
      exact ⟨.tup s a, by rw [PyData.canLay0]; exact b⟩
  | .pt xs, _, _, h, e => by
    rw [D.py] at e
    cases q : D.pyAll xs with
    | none => rw [q] at e; cases e
    | some ys =>
      rw [q] at e; cases e
      obtain ⟨p, vs, rfl, s, t⟩ := tupOf_rep (ds := xs) hr h rfl
      obtain ⟨a, b⟩ := pyAll_rep hr xs vs ys t q
      exact ⟨.tup s a, by rw [PyData.canLay0]; exact b⟩
  | .lst xs, _, _, h, e => by
    rw [D.py] at e
    cases q : D.pyAll xs with
    | none => rw [q] at e; cases e
    | some ys =>
      rw [q] at e; cases e
      obtain ⟨p, vs, rfl, s, t⟩ := lst_rep (ds := xs) hr h rfl
      obtain ⟨a, b⟩ := pyAll_rep hr xs vs ys t q
      exact ⟨.lst s a, by rw [PyData.canLay0]; exact b⟩
  | .scr xs, _, _, h, e => by
    rw [D.py] at e
    cases q : D.pyAll xs with
    | none => rw [q] at e; cases e
    | some ys =>
      rw [q] at e; cases e
      obtain ⟨p, vs, rfl, s, t⟩ := lst_rep (ds := xs) hr h rfl
      obtain ⟨a, b⟩ := pyAll_rep hr xs vs ys t q
      exact ⟨.lst s a, by rw [PyData.canLay0]; exact b⟩
  | .dK _, _, _, _, e => by rw [D.py] at e; cases e
  | .dT _, _, _, _, e => by rw [D.py] at e; cases e
  | .ins _ _, _, _, _, e => by rw [D.py] at e; cases e
  | .ref _, _, _, _, e => by rw [D.py] at e; cases e
theorem pyAll_rep (hr : HR K L G H) : ∀ (xs : List D) (vs : List V) (ds : List PyData), Reps K L.Z L.r xs vs → D.pyAll xs = some ds → DpAll K H vs ds ∧ PyData.canLayAll0 ds = true
  | [], _, _, h, e => by cases h; rw [D.pyAll] at e; cases e; exact ⟨.nil, rfl⟩
  | x :: r, _, _, h, e => by
    cases h with
    | cons h1 h2 =>
      rw [D.pyAll] at e
      cases q1 : D.py x with
      | none => rw [q1] at e; cases e
      | some y =>
        cases q2 : D.pyAll r with
        | none => rw [q1, q2] at e; cases e
        | some ys =>
          rw [q1, q2] at e; cases e
          obtain ⟨a, b⟩ := py_rep hr x _ y h1 q1
          obtain ⟨c, d⟩ := pyAll_rep hr r _ ys h2 q2
          exact ⟨.cons a c, by rw [PyData.canLayAll0, b, d]; rfl⟩
end
theorem res_rep (hr : HR K L G H) {x : D} {v : V} {d : PyData} (h : Rep K L.Z L.r x v) (e : (res G x).py = some d) : Dp K H v d ∧ d.canLay0 = true := by
  cases h with
  | @ref n a q =>
    have hn : n < G.length := by rw [← hr.len]; exact (List.getElem?_eq_some_iff.mp q).1
    have e' : (match G[n]? with | some (.lst xs) => D.lst xs | _ => .ref n).py = some d := e
    rw [List.getElem?_eq_getElem hn] at e'
    cases k : G[n] with
    | lst xs =>
      rw [k] at e'
      have e2 : (D.lst xs).py = some d := e'
      rw [D.py] at e2
      cases z : D.pyAll xs with
      | none => rw [z] at e2; cases e2
      | some ys =>
        rw [z] at e2; cases e2
        obtain ⟨p, vs, ev, s, t⟩ := lst_rep (ds := xs) hr (.ref q) (by rw [lstOf_ref, List.getElem?_eq_getElem hn, k])
        obtain ⟨a', b⟩ := pyAll_rep hr xs vs ys t z
        rw [ev]
        exact ⟨.lst s a', by rw [PyData.canLay0]; exact b⟩
    | _ =>
      rw [k] at e'
      have e2 : (D.ref n).py = some d := e'
      rw [D.py] at e2
      cases e2
  | non => exact py_rep hr _ _ _ .non e
  | bl b => exact py_rep hr _ _ _ (.bl b) e
  | int b => exact py_rep hr _ _ _ (.int b) e
  | str b => exact py_rep hr _ _ _ (.str b) e
  | tup z t => exact py_rep hr _ _ _ (.tup z t) e
  | pt z k t => exact py_rep hr _ _ _ (.pt z k t) e
  | lst z t => exact py_rep hr _ _ _ (.lst z t) e
  | scr z t => exact py_rep hr _ _ _ (.scr z t) e
  | dK z k t => exact py_rep hr _ _ _ (.dK z k t) e
  | dT z k t => exact py_rep hr _ _ _ (.dT z k t) e
  | ins z k t => exact py_rep hr _ _ _ (.ins z k t) e
end

/-- x == y, where both are data -/
def pyEq (G : GH) (x y : D) : Option Bool := match (res G x).py, (res G y).py with
  | some d, some e => if d.depth ≤ 64 ∧ e.depth ≤ 64 then some (PyData.eqv d e) else none
  | _, _ => none
def dEq : F2 := fun x y G => match pyEq G x y with
  | some b => .ok (.bl b) G
  | none => .no
def dNe : F2 := fun x y G => match pyEq G x y with
  | some b => .ok (.bl (!b)) G
  | none => .no
section
variable {X : Cx}
theorem pyEq_rep {K : PySem.W.Frag} {L : Lk} {G : GH} {H : Hp} (hr : HR K L G H) {x y : D} {v u : V} {b : Bool} (rx : Rep K L.Z L.r x v) (ry : Rep K L.Z L.r y u) (e : pyEq G x y = some b) :
    ∃ d d', Dp K H v d ∧ Dp K H u d' ∧ SeqAt.shaped d = true ∧ SeqAt.shaped d' = true ∧ PyData.eqv d d' = b := by
  unfold pyEq at e
  cases q1 : (res G x).py with
  | none => rw [q1] at e; cases e
  | some d =>
    cases q2 : (res G y).py with
    | none => rw [q1, q2] at e; cases e
    | some d' =>
      rw [q1, q2] at e
      have e' : (if d.depth ≤ 64 ∧ d'.depth ≤ 64 then some (PyData.eqv d d') else none) = some b := e
      by_cases k : d.depth ≤ 64 ∧ d'.depth ≤ 64
      · rw [if_pos k] at e'
        obtain ⟨a1, b1⟩ := res_rep hr rx q1
        obtain ⟨a2, b2⟩ := res_rep hr ry q2
        exact ⟨d, d', a1, a2, lay_shaped b1 k.1, lay_shaped b2 k.2, Option.some.inj e'⟩
      · rw [if_neg k] at e'; cases e'
theorem o2_eq {K : PySem.W.Frag} : Op2 K dEq (rEqD K) := fun L G H x y v u W σ Q hr rx ry q => by
  unfold dEq at q
  cases e : pyEq G x y with
  | none => rw [e] at q; exact q.elim
  | some b =>
    rw [e] at q
    obtain ⟨d, d', h1, h2, h3, h4, h5⟩ := pyEq_rep hr rx ry e
    refine ⟨d, d', h1, h2, h3, h4, ?_⟩
    rw [h5]
    exact q L H _ (.refl L) hr (.bl b)
theorem o2_ne {K : PySem.W.Frag} : Op2 K dNe (rNeD K) := fun L G H x y v u W σ Q hr rx ry q => by
  unfold dNe at q
  cases e : pyEq G x y with
  | none => rw [e] at q; exact q.elim
  | some b =>
    rw [e] at q
    obtain ⟨d, d', h1, h2, h3, h4, h5⟩ := pyEq_rep hr rx ry e
    refine ⟨d, d', h1, h2, h3, h4, ?_⟩
    rw [h5]
    exact q L H _ (.refl L) hr (.bl (!b))

/-! ### numbers -/
/-- an int operation -/
def dI (c : Int → Int → Bool) (f : Int → Int → Int) : F2 := fun x y G => match x, y with
  | .int i, .int j => if c i j then .ok (.int (f i j)) G else .no
  | _, _ => .no
theorem o2_int {K : PySem.W.Frag} {C : Int → Int → Prop} {c : Int → Int → Bool} {f : Int → Int → Int} (h : ∀ i j, c i j = true → C i j) : Op2 K (dI c f) (rI C fun i j => .int (f i j)) := fun L G H x y v u W σ Q hr rx ry q => by
  cases rx with
  | int i =>
    cases ry with
    | int j =>
      have q' : Sat K W L σ (repD K) (if c i j then .ok (.int (f i j)) G else .no) Q := q
      by_cases k : c i j = true
      · rw [if_pos k] at q'
        exact ⟨i, j, rfl, rfl, h i j k, q' L H _ (.refl L) hr (.int _)⟩
      · rw [if_neg k] at q'; exact q'.elim
    | _ => exact q.elim
  | _ => cases ry <;> exact q.elim
/-- an int comparison -/
def dIB (f : Int → Int → Bool) : F2 := fun x y G => match x, y with
  | .int i, .int j => .ok (.bl (f i j)) G
  | _, _ => .no
theorem o2_intB {K : PySem.W.Frag} {f : Int → Int → Bool} : Op2 K (dIB f) (rI0 fun i j => .bl (f i j)) := fun L G H x y v u W σ Q hr rx ry q => by
  cases rx with
  | int i =>
    cases ry with
    | int j => exact ⟨i, j, rfl, rfl, q L H _ (.refl L) hr (.bl _)⟩
    | _ => exact q.elim
  | _ => cases ry <;> exact q.elim
abbrev dSub : F2 := dI (fun _ _ => true) (· - ·)
abbrev dMulI : F2 := dI (fun i j => decide (-(2 ^ 64) < i ∧ i < 2 ^ 64 ∨ -(2 ^ 64) < j ∧ j < 2 ^ 64)) (· * ·)
abbrev dMod : F2 := dI (fun _ j => decide (0 < j)) (· % ·)
abbrev dDiv : F2 := dI (fun _ j => decide (0 < j ∧ j < 2 ^ 64)) (· / ·)
abbrev dPow : F2 := dI (fun i j => decide (0 ≤ j ∧ j ≤ 1000000 ∧ i.natAbs < 2 ^ 64)) (fun i j => i ^ j.toNat)
abbrev dLt : F2 := dIB fun i j => decide (i < j)
abbrev dLe : F2 := dIB fun i j => decide (i ≤ j)
abbrev dGt : F2 := dIB fun i j => decide (j < i)
abbrev dGe : F2 := dIB fun i j => decide (j ≤ i)
theorem opr_sub : OpR X (binaryOp .Sub) (rI (fun _ _ => True) fun i j => .int (i - j)) := opI fun _ _ _ _ _ _ _ _ q => sub_int q
theorem o2_sub {K : PySem.W.Frag} : Op2 K dSub (rI (fun _ _ => True) fun i j => .int (i - j)) := o2_int fun _ _ _ => True.intro
theorem o2_mod {K : PySem.W.Frag} : Op2 K dMod (rI (fun _ j => 0 < j) fun i j => .int (i % j)) := o2_int fun _ _ h => of_decide_eq_true h
theorem o2_div {K : PySem.W.Frag} : Op2 K dDiv (rI CDivW fun i j => .int (i / j)) := o2_int fun i j h => by
  have h := of_decide_eq_true h
  exact wide_div (b := 64) h.1 (by omega) (by decide) (by decide)
theorem o2_pow {K : PySem.W.Frag} : Op2 K dPow (rI CPow fun i j => .int (i ^ j.toNat)) := o2_int fun i j h => (of_decide_eq_true h : 0 ≤ j ∧ j ≤ 1000000 ∧ i.natAbs < 2 ^ 64)

/-! ### + -/
def dAdd (mk : List D → GH → R D) : F2 := fun x y G => match x, y with
  | .int i, .int j => .ok (.int (i + j)) G
  | .str a, .str b => if a.length + b.length ≤ sizeLine then .ok (.str (a ++ b)) G else .no
  | .tup a, .tup b => if a.length + b.length ≤ sizeLine then .ok (.tup (a ++ b)) G else .no
  | .pt a, .pt b => if a.length + b.length ≤ sizeLine then .ok (.pt (a ++ b)) G else .no
  | x, y => match lstX G x, lstX G y with
    | some a, some b => if a.length + b.length ≤ sizeLine then mk (a ++ b) G else .no
    | _, _ => .no
/-- how a new list is told -/
def Mk (mk : List D → GH → R D) : Prop := ∀ (K : PySem.W.Frag) (L : Lk) (G : GH) (H : Hp) (ds : List D) (vs : List V) (p : Addr) (W : WX) (σ : St) (Q : VK), HR K L G H → Reps K L.Z L.r ds vs → H p = none → Sat K W L σ (repD K) (mk ds G) Q → Q (.ref p) (upd H p (.lst vs))
def mkF : List D → GH → R D := fun ds G => .ok (.lst ds) G
def mkM : List D → GH → R D := fun ds G => .ok (.ref G.length) (G ++ [.lst ds])
theorem mkF_ok : Mk mkF := fun K L G H ds vs p W σ Q hr r hp q => let ⟨a, b, c⟩ := put_lst r hr hp; q _ _ _ b a c
theorem mkM_ok : Mk mkM := fun K L G H ds vs p W σ Q hr r hp q => let ⟨a, b, c⟩ := add_lst r hr hp; q _ _ _ b a c
/-- t + u of tuples that are known to the object, told as the object -/
def rCatP : R2 := fun x y H Q => ∃ a b xs ys o o', x = .ref a ∧ y = .ref b ∧ H a = some (.frz o (.tup xs)) ∧ H b = some (.frz o' (.tup ys)) ∧ xs ≠ [] ∧ ys ≠ [] ∧ xs.length + ys.length ≤ sizeLine ∧
  ∀ p o2, H p = none → o2.dict = none → Q (.ref p) (upd H p (.frz o2 (.tup (xs ++ ys))))
theorem op_catP : OpR X (binaryOp .Add) rCatP := by
  intro pins s σ H x y v u Q I rx ry ⟨a, b, xs, ys, o, o', ex, ey, ha, hb, nx, ny, hz, q⟩
  subst ex ey
  cases rx
  cases ry
  obtain ⟨its, r1, p1, _⟩ := I.tuple (xs := xs) (.inl (.inr ⟨o, ha⟩))
  obtain ⟨its2, r2, p2, _⟩ := I.tuple (xs := ys) (.inl (.inr ⟨o', hb⟩))
  refine HT.cat_tup p1 p2 (fun z => nx (r1.nil_iff.mp z)) (fun z => absurd (r2.nil_iff.mp z) ny) (fun z => ?_) (by rw [← r1.length, ← r2.length]; exact hz)
  exact ⟨.ref s.heap.objs.size, _, I.laid (t' := s.toks) (o := .frz { cls := .type "tuple", data := .seq (its ++ its2).toArray } (.tup (xs ++ ys))) (fun b ob q => Heap.get?_push_of_some _ q) (Nat.le_refl _)
    ⟨Heap.get?_push_size _ rfl, by rw [List.length_append]; exact hz, _, r1.append r2, IsTup.new _ _⟩, rfl, q _ _ (I.hok.fresh (Nat.le_refl _)) rfl⟩
def rAddA (K : PySem.W.Frag) : R2 := fun x y H Q => (((rI0 (fun i j => .int (i + j)) x y H Q ∨ (∃ i j, x = .str i ∧ y = .str j ∧ i.length + j.length ≤ sizeLine ∧ Q (.str (i ++ j)) H)) ∨ rCatA K x y H Q) ∨ rCat x y H Q) ∨ rCatP x y H Q
theorem opr_add : OpR X (binaryOp .Add) (rAddA X.K) := (((op_add.or op_add_str).or op_catA).or op_cat).or op_catP
theorem o2_add {K : PySem.W.Frag} {mk : List D → GH → R D} (m : Mk mk) : Op2 K (dAdd mk) (rAddA K) := fun L G H x y v u W σ Q hr rx ry q => by
  have lists : ∀ a b, lstX G x = some a → lstX G y = some b → Sat K W L σ (repD K) (if a.length + b.length ≤ sizeLine then mk (a ++ b) G else .no) Q → rAddA K v u H Q := fun a b e1 e2 q => by
    obtain ⟨p1, vs, rfl, h1, t1⟩ := lstX_rep hr rx e1
    obtain ⟨p2, us, rfl, h2, t2⟩ := lstX_rep hr ry e2
    by_cases k : a.length + b.length ≤ sizeLine
    · rw [if_pos k] at q
      exact .inl <| .inr ⟨p1, p2, vs, us, rfl, rfl, h1, h2, by rw [← Reps.length t1, ← Reps.length t2]; exact k, fun p hp => m K L G H _ _ p W σ Q hr (t1.append t2) hp q⟩
    · rw [if_neg k] at q; exact q.elim
  have gen : (∀ i j, ¬ (x = .int i ∧ y = .int j)) → (∀ i j, ¬ (x = .str i ∧ y = .str j)) → (∀ i j, ¬ (x = .tup i ∧ y = .tup j)) →
      Sat K W L σ (repD K) (match lstX G x, lstX G y with | some a, some b => if a.length + b.length ≤ sizeLine then mk (a ++ b) G else .no | _, _ => .no) Q → rAddA K v u H Q := fun _ _ _ q => by
    cases e1 : lstX G x with
    | none => rw [e1] at q; exact q.elim
    | some a =>
      cases e2 : lstX G y with
      | none => rw [e1, e2] at q; exact q.elim
      | some b => rw [e1, e2] at q; exact lists a b e1 e2 q
  cases x with
  | int i =>
    cases y with
    | int j => cases rx; cases ry; exact .inl <| .inl (.inl (.inl ⟨i, j, rfl, rfl, q L H _ (.refl L) hr (.int _)⟩))
    | _ => exact q.elim
  | str a =>
    cases y with
    | str b =>
      cases rx; cases ry
      have q' : Sat K W L σ (repD K) (if a.length + b.length ≤ sizeLine then .ok (.str (a ++ b)) G else .no) Q := q
      by_cases k : a.length + b.length ≤ sizeLine
      · rw [if_pos k] at q'
        exact .inl <| .inl (.inl (.inr ⟨a, b, rfl, rfl, k, q' L H _ (.refl L) hr (.str _)⟩))
      · rw [if_neg k] at q'; exact q'.elim
    | _ => exact q.elim
  | tup a =>
    cases y with
    | tup b =>
      have q' : Sat K W L σ (repD K) (if a.length + b.length ≤ sizeLine then .ok (.tup (a ++ b)) G else .no) Q := q
      by_cases k : a.length + b.length ≤ sizeLine
      · rw [if_pos k] at q'
        obtain ⟨p1, vs, rfl, s1, t1⟩ := tup_rep hr rx
        obtain ⟨p2, us, rfl, s2, t2⟩ := tup_rep hr ry
        refine .inl <| .inl (.inr ⟨p1, p2, vs, us, rfl, rfl, s1, s2, by rw [← Reps.length t1, ← Reps.length t2]; exact k, fun e => ?_, fun _ e => ?_, fun _ _ p hp => ?_⟩)
        · subst e
          cases t1
          exact q' L H _ (.refl L) hr ry
        · subst e
          cases t2
          rw [List.append_nil] at q'
          exact q' L H _ (.refl L) hr rx
        · obtain ⟨a', b', c'⟩ := put_tup (t1.append t2) hr hp
          exact q' _ _ _ b' a' c'
      · rw [if_neg k] at q'; exact q'.elim
    | _ => exact q.elim
  | pt a =>
    cases y with
    | pt b =>
      have q' : Sat K W L σ (repD K) (if a.length + b.length ≤ sizeLine then .ok (.pt (a ++ b)) G else .no) Q := q
      by_cases k : a.length + b.length ≤ sizeLine
      · rw [if_pos k] at q'
        have rx' : Rep K L.Z L.r (.pt a) v := rx
        have ry' : Rep K L.Z L.r (.pt b) u := ry
        cases rx' with
        | @pt p1 o1 vs _ z1 k1 t1 =>
          cases ry' with
          | @pt p2 o2 us _ z2 k2 t2 =>
            have h1 := (hr.z _ _ z1).frz
            have h2 := (hr.z _ _ z2).frz
            have hl : vs.length + us.length ≤ sizeLine := by rw [← Reps.length t1, ← Reps.length t2]; exact k
            cases t1 with
            | nil => exact .inl <| .inl (.inr ⟨p1, p2, [], us, rfl, rfl, .inl (.inr ⟨_, h1⟩), .inl (.inr ⟨_, h2⟩), hl, fun _ => q' L H _ (.refl L) hr ry, fun n => absurd rfl n, fun n => absurd rfl n⟩)
            | @cons a0 v0 _ _ ra ta =>
              cases t2 with
              | nil =>
                rw [List.append_nil] at q'
                exact .inl <| .inl (.inr ⟨p1, p2, _, [], rfl, rfl, .inl (.inr ⟨_, h1⟩), .inl (.inr ⟨_, h2⟩), hl, (fun e => nomatch e), fun _ _ => q' L H _ (.refl L) hr rx, fun _ n => absurd rfl n⟩)
              | @cons b0 u0 _ _ rb tb =>
                refine .inr ⟨p1, p2, _, _, o1, o2, rfl, rfl, h1, h2, (fun e => nomatch e), (fun e => nomatch e), hl, fun p o3 hp ho => ?_⟩
                obtain ⟨a', b', c'⟩ := put_pt (Reps.append (.cons ra ta) (.cons rb tb)) hr hp ho
                exact q' _ _ _ b' a' c'
      · rw [if_neg k] at q'; exact q'.elim
    | _ => exact q.elim
  | lst a => exact gen (by intro _ _ h; cases h.1) (by intro _ _ h; cases h.1) (by intro _ _ h; cases h.1) q
  | ref a => exact gen (by intro _ _ h; cases h.1) (by intro _ _ h; cases h.1) (by intro _ _ h; cases h.1) q
  | _ => exact q.elim
end
end CF
end
section
set_option maxRecDepth 100000
set_option maxHeartbeats 1000000
/-! Subscripts, slices, membership, calls of built-ins by values. -/
namespace CF
open PySem PySem.Spec PyProof.Rows L2

/-! ### dicts by keys -/
def lookK {κ : Type} [DecidableEq κ] (kvs : List (κ × D)) (k : κ) : Option D := (kvs.find? fun kv => decide (kv.1 = k)).map (·.2)
def keyD : D → Option Key
  | .int i => some (.inl i)
  | .str x => some (.inr x)
  | _ => none
@[simp] theorem keyD_int (i : Int) : keyD (.int i) = some (.inl i) := rfl
@[simp] theorem keyD_str (x : Str) : keyD (.str x) = some (.inr x) := rfl
def dKOf (G : GH) : D → Option (List (Key × D))
  | .dK kvs => some kvs
  | .ref n => match G[n]? with
    | some (.dK kvs) => some kvs
    | _ => none
  | _ => none
@[simp] theorem dKOf_dK (G : GH) (kvs : List (Key × D)) : dKOf G (.dK kvs) = some kvs := rfl
@[simp] theorem dKOf_lst (G : GH) (kvs : List D) : dKOf G (.lst kvs) = none := rfl
@[simp] theorem dKOf_tup (G : GH) (kvs : List D) : dKOf G (.tup kvs) = none := rfl
@[simp] theorem dKOf_str (G : GH) (kvs : Str) : dKOf G (.str kvs) = none := rfl
@[simp] theorem dKOf_scr (G : GH) (kvs : List D) : dKOf G (.scr kvs) = none := rfl
@[simp] theorem dKOf_ref (G : GH) (n : Nat) : dKOf G (.ref n) = match G[n]? with | some (.dK kvs) => some kvs | _ => none := rfl
section
variable {K : PySem.W.Frag} {L : Lk} {G : GH} {H : Hp} {d : D} {v : V}
theorem look_rep {κ : Type} [DecidableEq κ] {Z : Hp} {r : List Addr} (k : κ) : ∀ {kds : List (κ × D)} {kvs : List (κ × V)}, kds.map (·.1) = kvs.map (·.1) → Reps K Z r (kds.map (·.2)) (kvs.map (·.2)) →
    (∀ d, lookK kds k = some d → ∃ v, valV kvs k = some v ∧ Rep K Z r d v) ∧ (lookK kds k = none → valV kvs k = none)
  | [], [], _, _ => ⟨fun d e => (by simp [lookK] at e), fun _ => rfl⟩
  | [], _ :: _, e, _ => by simp at e
  | _ :: _, [], e, _ => by simp at e
  | (k1, d1) :: r1, (k2, v2) :: r2, e, t => by
    simp only [List.map_cons, List.cons.injEq] at e
    obtain ⟨e1, e2⟩ := e
    subst e1
    cases t with
    | cons h t =>
      obtain ⟨i1, i2⟩ := look_rep k e2 t
      by_cases hk : k1 = k
      · refine ⟨fun d q => ⟨v2, valV_pos hk, ?_⟩, fun q => ?_⟩
        · simp [lookK, List.find?_cons, hk] at q
          subst q; exact h
        · simp [lookK, List.find?_cons, hk] at q
      · have en : lookK ((k1, d1) :: r1) k = lookK r1 k := by simp [lookK, List.find?_cons, hk]
        rw [en, valV_neg hk]
        exact ⟨i1, i2⟩
theorem dK_rep (hr : HR K L G H) (h : Rep K L.Z L.r d v) {kds : List (Key × D)} (e : dKOf G d = some kds) :
    ∃ p kvs, v = .ref p ∧ Rd H p (.dK kvs) ∧ kds.map (·.1) = kvs.map (·.1) ∧ Reps K L.Z L.r (kds.map (·.2)) (kvs.map (·.2)) := by
  cases h with
  | dK z k t => cases e; exact ⟨_, _, rfl, (hr.z _ _ z).rd, k, t⟩
  | @ref n a q =>
    have hn : n < G.length := by rw [← hr.len]; exact (List.getElem?_eq_some_iff.mp q).1
    have c := hr.cell n a G[n] q (by simp [hn])
    rw [dKOf_ref, List.getElem?_eq_getElem hn] at e
    cases k : G[n] with
    | dK xs =>
      rw [k] at e c; cases e
      cases c with
      | dK h k t => exact ⟨_, _, rfl, .inl h, k, t⟩
    | _ => rw [k] at e; cases e
  | _ => cases e
theorem keyD_rep {Z : Hp} {r : List Addr} {k : Key} (h : Rep K Z r d v) (e : keyD d = some k) : v = kV k := by
  cases h with
  | int i => cases e; rfl
  | str x => cases e; rfl
  | _ => cases e
/-- what d[y] is, where it is told -/
def dGetO (G : GH) (x y : D) : Option (Option D) := match dKOf G x, keyD y with
  | some kvs, some k => some (lookK kvs k)
  | _, _ => none
theorem dGetO_rep (hr : HR K L G H) {x y : D} {u w : V} {o : Option D} (rx : Rep K L.Z L.r x u) (ry : Rep K L.Z L.r y w) (e : dGetO G x y = some o) :
    ∃ p ov, u = .ref p ∧ DGet H p w ov ∧ ov.isSome = o.isSome ∧ ∀ d, o = some d → ∃ v, ov = some v ∧ Rep K L.Z L.r d v := by
  unfold dGetO at e
  cases e1 : dKOf G x with
  | none => rw [e1] at e; cases e
  | some kds =>
    cases e2 : keyD y with
    | none => rw [e1, e2] at e; cases e
    | some k =>
      rw [e1, e2] at e
      have e' := Option.some.inj e
      obtain ⟨p, kvs, rfl, hp, hk, t⟩ := dK_rep hr rx e1
      have ey := keyD_rep ry e2
      subst ey
      obtain ⟨i1, i2⟩ := look_rep k hk t
      refine ⟨p, valV kvs k, rfl, .inl ⟨kvs, k, hp, rfl, rfl⟩, ?_, fun d ed => ?_⟩
      · cases o with
        | none => rw [i2 e']; rfl
        | some d =>
          obtain ⟨v, q, _⟩ := i1 d e'
          rw [q]; rfl
      · subst ed
        exact i1 d e'
end

/-! ### x[i] -/
def dIx : F2 := fun x y G => match y with
  | .int i => (match x with
    | .tup xs => (match atI xs i with
      | some d => .ok d G
      | none => .no)
    | .pt xs => (match atI xs i with
      | some d => .ok d G
      | none => .no)
    | .str z => if z.length ≤ sizeLine then (match atI z.cps.toList i with
      | some c => .ok (.str ⟨#[c]⟩) G
      | none => .no) else .no
    | x => match lstOf G x with
      | some xs => (match atI xs i with
        | some d => .ok d G
        | none => .no)
      | none => match dGetO G x (.int i) with
        | some (some d) => .ok d G
        | _ => .no)
  | y => match dGetO G x y with
    | some (some d) => .ok d G
    | _ => .no
theorem reps_atI {K : PySem.W.Frag} {Z : Hp} {r : List Addr} {ds : List D} {vs : List V} {i : Int} {d : D} (t : Reps K Z r ds vs) (e : atI ds i = some d) : ∃ v, atI vs i = some v ∧ Rep K Z r d v := by
  unfold atI at e ⊢
  rw [← Reps.length t]
  cases q : ixN ds.length i with
  | none => rw [q] at e; cases e
  | some j =>
    rw [q] at e
    exact t.get e
def rDGetV : R2 := fun x y H Q => ∃ a v, x = .ref a ∧ DGet H a y (some v) ∧ Q v H
section
variable {X : Cx}
theorem ix_dict (hu : X.A.units + 1 < cLine) : IxR X rDGetV := by
  intro value slice pins s σ H x y v u Q I rx ry h hs
  obtain ⟨a, w, rfl, g, q⟩ := h
  cases rx
  have hT := dict_typeIs I g
  unfold subscriptTail
  refine wpAny_bind ?_
  rw [getitemInPython_of_ne hT.not_modules]
  refine wpAny_bind (wpAny_specialOf hT PySem.F.slot_dict_getitem.lookup ?_)
  have fin : wpAny (model X.prog X.w) X.A (subscripted slice false (.ref a) u) (fun r s₃ => wpAny (model X.prog X.w) X.A (letTemporaryGo value (.ref a) r >>= fun _ => pure r) (EP X pins σ Q) X.xe s₃) X.xe s := by
    rw [hs]
    exact wpAny_operating (wpAny_mono (d_getItem hu I g ry fun w' s3 I3 rw' => show EP X pins σ Q w' s3 from ⟨w, H, I3, rw', q⟩) (fun r s₃ h₃ => wpAny_bind (wpAny_letTemporaryGo (wpAny_pure h₃))) fun _ _ x => x)
  first
    | exact wpAny_pure (wpAny_bind fin)
    | exact wpAny_bind (wpAny_pure (wpAny_bind fin))
    | exact wpAny_bind fin
def rIxA (K : PySem.W.Frag) : R2 := fun x y H Q => rIx K x y H Q ∨ rDGetV x y H Q
theorem ix_all (hu : X.A.units + 1 < cLine) : IxR X (rIxA X.K) := ix_seq.or (ix_dict hu)
theorem o2_ix {K : PySem.W.Frag} : Op2 K dIx (rIxA K) := fun L G H x y v u W σ Q hr rx ry q => by
  have dd : ∀ {y'}, Rep K L.Z L.r y' u → Sat K W L σ (repD K) (match dGetO G x y' with | some (some d) => .ok d G | _ => .no) Q → rIxA K v u H Q := fun {y'} ry q => by
    cases e : dGetO G x y' with
    | none => rw [e] at q; exact q.elim
    | some o =>
      cases o with
      | none => rw [e] at q; exact q.elim
      | some d =>
        rw [e] at q
        obtain ⟨p, ov, rfl, g, _, k⟩ := dGetO_rep hr rx ry e
        obtain ⟨w, rfl, rw'⟩ := k d rfl
        exact .inr ⟨p, w, rfl, g, q L H w (.refl L) hr rw'⟩
  have sq : ∀ (xs : List D) (i : Int), y = .int i → lstOf G x = some xs → Sat K W L σ (repD K) (match atI xs i with | some d => .ok d G | none => .no) Q → rIxA K v u H Q := fun xs i ey e q1 => by
    subst ey
    cases ry
    obtain ⟨p, vs, rfl, s, t⟩ := lst_rep hr rx e
    cases e2 : atI xs i with
    | none => rw [e2] at q1; exact q1.elim
    | some d =>
      rw [e2] at q1
      obtain ⟨w, h1, h2⟩ := reps_atI t e2
      exact .inl (.inl ⟨p, vs, i, w, rfl, rfl, s, h1, q1 L H w (.refl L) hr h2⟩)
  cases y with
  | int i =>
    have gen : Sat K W L σ (repD K) (match lstOf G x with | some xs => (match atI xs i with | some d => .ok d G | none => .no) | none => match dGetO G x (.int i) with | some (some d) => .ok d G | _ => .no) Q → rIxA K v u H Q := fun q => by
      cases e : lstOf G x with
      | some xs => rw [e] at q; exact sq xs i rfl e q
      | none => rw [e] at q; exact dd ry q
    cases x with
    | pt xs =>
      cases ry
      obtain ⟨p, vs, rfl, s, t⟩ := tupOf_rep (ds := xs) hr rx rfl
      have q' : Sat K W L σ (repD K) (match atI xs i with | some d => .ok d G | none => .no) Q := q
      cases e2 : atI xs i with
      | none => rw [e2] at q'; exact q'.elim
      | some d =>
        rw [e2] at q'
        obtain ⟨w, h1, h2⟩ := reps_atI t e2
        exact .inl (.inr (.inl ⟨p, vs, i, w, rfl, rfl, s, h1, q' L H w (.refl L) hr h2⟩))
    | tup xs =>
      cases ry
      obtain ⟨p, vs, rfl, s, t⟩ := tup_rep hr rx
      have q' : Sat K W L σ (repD K) (match atI xs i with | some d => .ok d G | none => .no) Q := q
      cases e2 : atI xs i with
      | none => rw [e2] at q'; exact q'.elim
      | some d =>
        rw [e2] at q'
        obtain ⟨w, h1, h2⟩ := reps_atI t e2
        exact .inl (.inr (.inl ⟨p, vs, i, w, rfl, rfl, s, h1, q' L H w (.refl L) hr h2⟩))
    | str z =>
      cases rx
      cases ry
      have q' : Sat K W L σ (repD K) (if z.length ≤ sizeLine then (match atI z.cps.toList i with | some c => .ok (.str ⟨#[c]⟩) G | none => .no) else .no) Q := q
      by_cases k : z.length ≤ sizeLine
      · rw [if_pos k] at q'
        cases e2 : atI z.cps.toList i with
        | none => rw [e2] at q'; exact q'.elim
        | some c =>
          rw [e2] at q'
          exact .inl (.inr (.inr ⟨z, i, c, rfl, rfl, k, e2, q' L H _ (.refl L) hr (.str _)⟩))
      · rw [if_neg k] at q'; exact q'.elim
    | _ => exact gen q
  | _ => exact dd ry q
end

/-! ### slices -/
def eOpt : Option FE → DEnv → GH → R (Option Int)
  | none => fun _ G => .ok none G
  | some f => fun δ G => (f δ G).bind fun d G1 => match d with
    | .int i => .ok (some i) G1
    | _ => .no
def cutD {α : Type} (xs : List α) (lo hi : Option Int) : List α := (xs.drop (HT.sIx xs.length 0 lo)).take (HT.sIx xs.length xs.length hi - HT.sIx xs.length 0 lo)
def dSl (mk : List D → GH → R D) (x : D) (lo hi : Option Int) (G : GH) : R D := match x with
  | .tup xs => .ok (.tup (cutD xs lo hi)) G
  | .pt xs => .ok (.pt (cutD xs lo hi)) G
  | .str z => if z.length ≤ sizeLine then .ok (.str (cutS z lo hi)) G else .no
  | x => match lstOf G x with
    | some xs => mk (cutD xs lo hi) G
    | none => .no
def eSl (mk : List D → GH → R D) (f : FE) (lo hi : Option FE) : FE := fun δ G => (f δ G).bind fun x G1 => (eOpt lo δ G1).bind fun l G2 => (eOpt hi δ G2).bind fun h G3 => dSl mk x l h G3
theorem sIx_whole {α : Type} {xs : List α} {lo hi : Option Int} (h : HT.sIx xs.length 0 lo = 0 ∧ HT.sIx xs.length xs.length hi = xs.length) : cutD xs lo hi = xs := by
  unfold cutD
  rw [h.1, h.2]
  simp
section
variable {X : Cx} {W : WX} {pos p2 : Pos}
def repO : Lk → Option Int → Option Int → Prop := fun _ a b => a = b
inductive xO (X : Cx) (W : WX) : Option Expr → Option FE → Prop where
  | none : xO X W none none
  | some {e : Expr} {f : FE} (h : xE X W e f) : xO X W (some e) (some f)
theorem po_of {oe : Option Expr} {of : Option FE} (h : xO X W oe of) : PO X oe (tG X.K W repO (eOpt of)) := by
  cases h with
  | none => exact ⟨fun pins s σ H Q I ⟨L, δ, G, hr, er, q⟩ => po_none.run pins s σ H Q I (q L H none (.refl L) hr rfl)⟩
  | some h =>
    refine ⟨fun pins s σ H Q I ⟨L, δ, G, hr, er, q⟩ => (po_some h).run pins s σ H Q I ?_⟩
    refine Sat.bind (rep' := repO) hr er q fun L1 G1 H1 d v le hr1 er1 rd q1 => ?_
    cases rd with
    | int i => exact ⟨i, rfl, q1 L1 H1 _ (.refl _) hr1 rfl⟩
    | _ => exact q1.elim
/-- a slice of a tuple that is known to the object, told as the object -/
def rSlP : V → Option Int → Option Int → Hp → VK → Prop := fun x lo hi H Q => ∃ a xs o, x = .ref a ∧ H a = some (.frz o (.tup xs)) ∧ ¬ (HT.sIx xs.length 0 lo = 0 ∧ HT.sIx xs.length xs.length hi = xs.length) ∧
  ∀ p o', H p = none → o'.dict = none → Q (.ref p) (upd H p (.frz o' (.tup (cutV xs lo hi))))
theorem sl_pt : SlR X rSlP := by
  intro pins s σ H x v vl vu lo hi sl Q I rx hs pl pu ⟨a, xs, o, ex, hx, hw, q⟩
  subst ex
  cases rx
  obtain ⟨its, r, ht, hz⟩ := I.tuple (xs := xs) (.inl (.inr ⟨o, hx⟩))
  have hlen : its.toArray.size = xs.length := by rw [List.size_toArray]; exact r.length.symm
  refine ⟨"tuple", _, PyProof.Rows.slot_tuple_getitem.lookup, ht.typeIs, HT.getItem_tuple_cut ht hs pl pu (by rw [hlen]; exact hw) ?_ (by rw [hlen]; exact hz)⟩
  rw [hlen]
  exact ⟨.ref s.heap.objs.size, _, I.laid (t' := s.toks) (o := .frz { cls := .type "tuple", data := .seq ((its.drop (HT.sIx xs.length 0 lo)).take (HT.sIx xs.length xs.length hi - HT.sIx xs.length 0 lo)).toArray } (.tup (cutV xs lo hi))) (fun b ob q => Heap.get?_push_of_some _ q) (Nat.le_refl _)
    ⟨Heap.get?_push_size _ rfl, Nat.le_trans (cutV_length xs lo hi) hz, _, (r.drop (HT.sIx xs.length 0 lo)).take (HT.sIx xs.length xs.length hi - HT.sIx xs.length 0 lo), IsTup.new _ _⟩, rfl, q _ _ (I.hok.fresh (Nat.le_refl _)) rfl⟩
def rSlAll (K : PySem.W.Frag) : V → Option Int → Option Int → Hp → VK → Prop := fun x lo hi H Q => ((rSlL K x lo hi H Q ∨ rSlA K x lo hi H Q) ∨ rSlS x lo hi H Q) ∨ rSlP x lo hi H Q
theorem xe_sl {e : Expr} {lo hi : Option Expr} {f : FE} {fl fh : Option FE} {mk : List D → GH → R D} (m : Mk mk) (h : xE X W e f) (hl : xO X W lo fl) (hh : xO X W hi fh) : xE X W (.Subscript e (.Slice lo hi none p2) pos) (eSl mk f fl fh) :=
  PEimp (pe_slice (r := rSlAll X.K) (((sl_list.or sl_tupA).or sl_str).or sl_pt) h (po_of hl) (po_of hh)) fun σ H Q ⟨L, δ, G, hr, er, q⟩ =>
    Sat.bind (rep' := repD X.K) hr er q fun L1 G1 H1 x v le hr1 er1 rx q1 => Sat.bind (rep' := repD X.K) hr1 er1 q1 fun L2 G2 H2 l l' le2 hr2 er2 rl q2 => Sat.bind (rep' := repD X.K) hr2 er2 q2 fun L3 G3 H3 u u' le3 hr3 er3 ru q3 => by
      have rl' : l = l' := rl
      have ru' : u = u' := ru
      subst rl' ru'
      have rx3 := (Rep.mono le2 rx).mono le3
      have gen : ∀ xs, lstOf G3 x = some xs → Sat X.K W L3 σ (repD X.K) (mk (cutD xs l u) G3) Q → rSlAll X.K v l u H3 Q := fun xs e q => by
        obtain ⟨p, vs, rfl, s, t⟩ := lst_rep hr3 rx3 e
        refine .inl (.inl (.inl ⟨p, vs, rfl, s, fun p' hp => ?_⟩))
        have t' : Reps X.K L3.Z L3.r (cutD xs l u) (cutV vs l u) := by
          unfold cutD cutV
          rw [Reps.length t]
          exact (t.drop _).take _
        exact m _ _ _ _ _ _ _ _ _ _ hr3 t' hp q
      cases x with
      | tup xs =>
        obtain ⟨p, vs, rfl, s, t⟩ := tup_rep hr3 rx3
        have q' : Sat X.K W L3 σ (repD X.K) (.ok (.tup (cutD xs l u)) G3) Q := q3
        refine .inl (.inl (.inr ⟨p, vs, rfl, s, fun w => ?_, fun w p' hp => ?_⟩))
        · have w' : HT.sIx xs.length 0 l = 0 ∧ HT.sIx xs.length xs.length u = xs.length := by rw [Reps.length t]; exact w
          rw [sIx_whole w'] at q'
          exact q' L3 H3 _ (.refl _) hr3 rx3
        · have t' : Reps X.K L3.Z L3.r (cutD xs l u) (cutV vs l u) := by
            unfold cutD cutV
            rw [Reps.length t]
            exact (t.drop _).take _
          obtain ⟨a, b, c⟩ := put_tup t' hr3 hp
          exact q' _ _ _ b a c
      | pt xs =>
        have q' : Sat X.K W L3 σ (repD X.K) (.ok (.pt (cutD xs l u)) G3) Q := q3
        have rx3' : Rep X.K L3.Z L3.r (.pt xs) v := rx3
        cases rx3' with
        | @pt p o vs _ z k t =>
          have hp := (hr3.z _ _ z).frz
          by_cases w : HT.sIx vs.length 0 l = 0 ∧ HT.sIx vs.length vs.length u = vs.length
          · have w' : HT.sIx xs.length 0 l = 0 ∧ HT.sIx xs.length xs.length u = xs.length := by rw [Reps.length t]; exact w
            rw [sIx_whole w'] at q'
            exact .inl (.inl (.inr ⟨p, vs, rfl, .inl (.inr ⟨o, hp⟩), fun _ => q' L3 H3 _ (.refl _) hr3 rx3, fun n => absurd w n⟩))
          · have t' : Reps X.K L3.Z L3.r (cutD xs l u) (cutV vs l u) := by
              unfold cutD cutV
              rw [Reps.length t]
              exact (t.drop _).take _
            refine .inr ⟨p, vs, o, rfl, hp, w, fun p' o' hp' ho => ?_⟩
            obtain ⟨a, b, c⟩ := put_pt t' hr3 hp' ho
            exact q' _ _ _ b a c
      | str z =>
        cases rx3
        have q' : Sat X.K W L3 σ (repD X.K) (if z.length ≤ sizeLine then .ok (.str (cutS z l u)) G3 else .no) Q := q3
        by_cases k : z.length ≤ sizeLine
        · rw [if_pos k] at q'
          exact .inl (.inr ⟨z, rfl, k, q' L3 H3 _ (.refl _) hr3 (.str _)⟩)
        · rw [if_neg k] at q'; exact q'.elim
      | lst xs => exact gen xs rfl q3
      | scr xs => exact gen xs rfl q3
      | ref n =>
        have q' : Sat X.K W L3 σ (repD X.K) (match lstOf G3 (.ref n) with | some xs => mk (cutD xs l u) G3 | none => .no) Q := q3
        cases e : lstOf G3 (.ref n) with
        | none => rw [e] at q'; exact q'.elim
        | some xs => rw [e] at q'; exact gen xs e q'
      | _ => exact q3.elim
theorem xe_ix {a b : Expr} {fa fb : FE} (hu : X.A.units + 1 < cLine) (ha : xE X W a fa) (hb : xE X W b fb) (hs : PlainIx b := by exact fun _ _ => rfl) : xE X W (.Subscript a b pos) (eOp dIx fa fb) := PEimp (pe_ix (ix_all hu) ha hb hs) (eOp_imp o2_ix)

/-! ### in -/
def flatD : D → Bool
  | .non => true
  | .bl _ => true
  | .int _ => true
  | .str _ => true
  | _ => false
def eqF : D → D → Bool
  | .non, .non => true
  | .bl a, .bl b => a == b
  | .bl a, .int j => (if a then 1 else 0) == j
  | .int i, .bl b => i == (if b then 1 else 0)
  | .int i, .int j => i == j
  | .str x, .str y => x == y
  | _, _ => false
end
end CF
end
section
set_option maxRecDepth 100000
set_option maxHeartbeats 1000000
/-! Loops, comprehensions, defs and their calls, freezing. -/
namespace CF
open PySem PySem.Spec PyProof.Rows L2

/-! ### what is walked -/
/-- the iterator serves these items, as long as chk holds -/
structure Srv (K : PySem.W.Frag) (J : It) (L : Lk) (items : List D) (chk : GH → Bool) : Prop where
  go : ∀ L' G H (i : Nat) d, L.cle L' → HR K L' G H → chk G = true → items[i]? = some d → J.go i H ∧ ∀ x H2, J.yld i H x H2 → ∃ L2, L'.le L2 ∧ HR K L2 G H2 ∧ Rep K L2.Z L2.r d x
  stop : ∀ L' G H (i : Nat), L.cle L' → HR K L' G H → chk G = true → items.length ≤ i → J.stop i H
structure Its where
  items : List D
  chk : GH → Bool
abbrev FI := DEnv → GH → R Its
def tI (K : PySem.W.Frag) (W : WX) (f : FI) : TI := fun σ H Q => ∃ L δ G, HR K L G H ∧ ER K L δ σ ∧ match f δ G with
  | .ok it G1 => ∀ L' H' J, L.le L' → HR K L' G1 H' → Srv K J L' it.items it.chk → Q J H'
  | .ex x G1 => ∀ L' H' c dx, L.le L' → HR K L' G1 H' → XRep K L' x c dx → W c dx σ H'
  | .no => False
def xI (X : Cx) (W : WX) (tg iter : Expr) (f : FI) : Prop := PI X tg iter (tI X.K W f)
theorem PIimp {X : Cx} {tg e : Expr} {t t' : TI} (h : PI X tg e t) (i : ∀ σ H Q, t' σ H Q → t σ H Q) : PI X tg e t' := ⟨fun pins s σ H Q I q => h.run pins s σ H Q I (i _ _ _ q)⟩

/-! ### for -/
def sForL (chk : GH → Bool) (g : FG) (body : FS) : List D → DEnv → GH → RS
  | [], δ, G => .nx δ G
  | d :: r, δ, G => match g d δ G with
    | .nx δ1 G1 => (match body δ1 G1 with
      | .nx δ2 G2 => if chk G2 then sForL chk g body r δ2 G2 else .no
      | .ct δ2 G2 => if chk G2 then sForL chk g body r δ2 G2 else .no
      | .bk δ2 G2 => .nx δ2 G2
      | .rt d G2 => .rt d G2
      | .ex x δ2 G2 => .ex x δ2 G2
      | .no => .no)
    | _ => .no
def sFor (fi : FI) (g : FG) (body : FS) : FS := fun δ G => (fi δ G).thn δ fun it G1 => if it.chk G1 then sForL it.chk g body it.items δ G1 else .no
theorem iThn {K : PySem.W.Frag} {W : WX} {L : Lk} {σ : St} {δ : DEnv} {G : GH} {H : Hp} {f : FI} {k : Its → GH → RS} {E : Ends} {Q1 : It → Hp → Prop}
    (hr : HR K L G H) (er : ER K L δ σ) (h : SatS K W L ((f δ G).thn δ k) E)
    (nx : ∀ L1 G1 H1 it J, L.le L1 → HR K L1 G1 H1 → ER K L1 δ σ → Srv K J L1 it.items it.chk → SatS K W L1 (k it G1) E → Q1 J H1) : tI K W f σ H Q1 := by
  refine ⟨L, δ, G, hr, er, ?_⟩
  cases e : f δ G with
  | ok it G1 =>
    rw [e] at h
    exact fun L1 H1 J le hr1 sv => nx L1 G1 H1 it J le hr1 (er.mono le) sv (SatS.mono (L := L) (r := k it G1) h le)
  | ex x G1 =>
    rw [e] at h
    exact fun L1 H1 c dx le hr1 xr => h L1 σ H1 c dx le hr1 (er.mono le) xr
  | no =>
    rw [e] at h
    exact h
theorem iBind {γ δ' : Type} {K : PySem.W.Frag} {W : WX} {L : Lk} {σ : St} {δ : DEnv} {G : GH} {H : Hp} {rep' : Lk → γ → δ' → Prop} {f : FI} {k : Its → GH → R γ} {Q : δ' → Hp → Prop} {Q1 : It → Hp → Prop}
    (hr : HR K L G H) (er : ER K L δ σ) (h : Sat K W L σ rep' ((f δ G).bind k) Q)
    (nx : ∀ L1 G1 H1 it J, L.le L1 → HR K L1 G1 H1 → ER K L1 δ σ → Srv K J L1 it.items it.chk → Sat K W L1 σ rep' (k it G1) Q → Q1 J H1) : tI K W f σ H Q1 := by
  refine ⟨L, δ, G, hr, er, ?_⟩
  cases e : f δ G with
  | ok it G1 =>
    rw [e] at h
    exact fun L1 H1 J le hr1 sv => nx L1 G1 H1 it J le hr1 (er.mono le) sv (Sat.mono (L := L) (r := k it G1) h le)
  | ex x G1 =>
    rw [e] at h
    exact h
  | no =>
    rw [e] at h
    exact h
section
variable {X : Cx} {W : WX} {pos : Pos} {tg iter : Expr} {us : List Nat}
theorem xs_for {body : List Stmt} {fi : FI} {g : FG} {fb : FS} (hp : PassesOwn (model X.prog X.w) X.A X.env X.xe) (hc : X.calm = true) (hi : xI X W tg iter fi) (hg : xG X us tg g) (hb : xSs X W body fb)
    (hs : ∀ x, foldedSetIterable iter X.env x = pure x := by intro _; rfl) : xS X W (.For tg iter body [] pos) (sFor fi g fb) :=
  PSimp (ps_for hp hc hi hg hb hs) fun E σ H ⟨L, δ, G, hr, er, q⟩ => iThn hr er q fun L1 G1 H1 it J le hr1 er1 sv q1 => by
    by_cases hk : it.chk G1 = true
    · rw [if_pos hk] at q1
      refine ⟨fun i m σ H => m = it.items.length - i ∧ i ≤ it.items.length ∧ ∃ L' δ' G', L1.le L' ∧ HR X.K L' G' H ∧ ER X.K L' δ' σ ∧ it.chk G' = true ∧ SatS X.K W L' (sForL it.chk g fb (it.items.drop i) δ' G') E,
        ⟨_, rfl, Nat.zero_le _, L1, δ, G1, .refl _, hr1, er1, hk, by rw [List.drop_zero]; exact q1⟩, ?_⟩
      rintro i m σ2 H2 ⟨rfl, hi, L2, δ2, G2, le2, hr2, er2, hk2, q2⟩
      by_cases hlt : i < it.items.length
      · have ed : it.items[i]? = some it.items[i] := by simp [hlt]
        obtain ⟨hgo, hy⟩ := sv.go L2 G2 H2 i _ le2.c hr2 hk2 ed
        refine .inr ⟨hgo, fun σ3 H3 => ∃ L' δ' G', L1.le L' ∧ HR X.K L' G' H3 ∧ ER X.K L' δ' σ3 ∧ it.chk G' = true ∧ SatS X.K W L' (sForL it.chk g fb (it.items.drop (i + 1)) δ' G') E,
          fun σ3 H3 n => ⟨it.items.length - (i + 1), by omega, rfl, hlt, n⟩, fun x H3 yd => ?_⟩
        obtain ⟨L3, le3, hr3, rd⟩ := hy x H3 yd
        rw [List.drop_eq_getElem_cons hlt] at q2
        have q3 : SatS X.K W L3 _ E := SatS.mono q2 le3
        refine ⟨L3, it.items[i], δ2, G2, hr3, er2.mono le3, rd, ?_⟩
        unfold sForL at q3
        cases e1 : g it.items[i] δ2 G2 with
        | nx δ4 G4 =>
          rw [e1] at q3
          dsimp only at q3
          intro L4 σ4 H4 le4 hr4 er4 _
          have q4 : SatS X.K W L4 _ E := SatS.mono q3 le4
          refine ⟨L4, δ4, G4, hr4, er4, ?_⟩
          have again : ∀ δ5 G5, SatS X.K W L4 (if it.chk G5 = true then sForL it.chk g fb (it.items.drop (i + 1)) δ5 G5 else .no) E → ∀ L5 σ5 H5, L4.le L5 → HR X.K L5 G5 H5 → ER X.K L5 δ5 σ5 →
              ∃ L' δ' G', L1.le L' ∧ HR X.K L' G' H5 ∧ ER X.K L' δ' σ5 ∧ it.chk G' = true ∧ SatS X.K W L' (sForL it.chk g fb (it.items.drop (i + 1)) δ' G') E := fun δ5 G5 q5 L5 σ5 H5 le5 hr5 er5 => by
            by_cases hk5 : it.chk G5 = true
            · rw [if_pos hk5] at q5
              exact ⟨L5, δ5, G5, ((le2.trans le3).trans le4).trans le5, hr5, er5, hk5, SatS.mono q5 le5⟩
            · rw [if_neg hk5] at q5; exact q5.elim
          cases e2 : fb δ4 G4 with
          | nx δ5 G5 => rw [e2] at q4; exact again δ5 G5 q4
          | ct δ5 G5 => rw [e2] at q4; exact again δ5 G5 q4
          | bk δ5 G5 => rw [e2] at q4; exact q4
          | rt d G5 => rw [e2] at q4; exact q4
          | ex x δ5 G5 => rw [e2] at q4; exact q4
          | no => rw [e2] at q4; exact q4
        | _ => rw [e1] at q3; exact q3.elim
      · refine .inl ⟨sv.stop L2 G2 H2 i le2.c hr2 hk2 (by omega), ?_⟩
        rw [List.drop_eq_nil_of_le (by omega)] at q2
        exact q2 L2 σ2 H2 (.refl _) hr2 er2
    · rw [if_neg hk] at q1; exact q1.elim

/-! ### comprehensions -/
def R.nox {α : Type} (r : R α) : R α := match r with
  | .ex _ _ => .no
  | r => r
@[simp] theorem R.nox_ok {α : Type} (a : α) (G : GH) : (R.ok a G).nox = .ok a G := rfl
@[simp] theorem R.nox_no {α : Type} : (R.no : R α).nox = .no := rfl
@[simp] theorem R.nox_ex {α : Type} (x : Ex) (G : GH) : (R.ex x G : R α).nox = .no := rfl
def lcL (chk : GH → Bool) (g : FG) (t : FT) (f : FE) (δ : DEnv) : List D → List D → GH → R (List D)
  | [], acc, G => .ok acc G
  | d :: r, acc, G => match g d δ G with
    | .nx δ1 G1 => (t δ1 G1).nox.bind fun b G2 => if b then (f δ1 G2).nox.bind fun y G3 => (if chk G3 && decide (acc.length < sizeLine) then lcL chk g t f δ r (acc ++ [y]) G3 else .no)
      else (if chk G2 then lcL chk g t f δ r acc G2 else .no)
    | _ => .no
def tYesD : FT := fun _ G => .ok true G
/-- no exception -/
abbrev noW : WX := fun _ _ _ _ => False
def xTs (X : Cx) (ifs : List Expr) (t : FT) : Prop := PTs X ifs (tG X.K noW repB t)
theorem xts_nil {X : Cx} : xTs X [] tYesD := ⟨fun pins s σ H Q I ⟨L, δ, G, hr, er, q⟩ => pts_nil.run pins s σ H Q I (q L H true (.refl L) hr rfl)⟩
theorem xts_one {X : Cx} {c : Expr} {t : FT} (h : xT X noW c t) : xTs X [c] t := pts_one h
/-- a list comprehension -/
def eLc (mk : List D → GH → R D) (fi : FI) (g : FG) (t : FT) (f : FE) (vs : List Nat) : FE := fun δ G => (fi δ G).bind fun it G1 => if it.chk G1 then (lcL it.chk g t f (wipeD δ vs) it.items [] G1).bind mk else .no
/-- a step that raises nothing -/
theorem Sat.nb {α β γ δ' : Type} {K : PySem.W.Frag} {W : WX} {L : Lk} {σ σ' : St} {δ : DEnv} {G : GH} {H : Hp} {rep : Lk → α → β → Prop} {rep' : Lk → γ → δ' → Prop} {f : DEnv → GH → R α} {k : α → GH → R γ} {Q : δ' → Hp → Prop} {Q1 : β → Hp → Prop} {L0 : Lk}
    (hr : HR K L G H) (er : ER K L δ σ) (l0 : L0.cle L) (h : Sat K W L0 σ' rep' ((f δ G).nox.bind k) Q)
    (nx : ∀ L1 G1 H1 a v, L.le L1 → HR K L1 G1 H1 → ER K L1 δ σ → rep L1 a v → f δ G = .ok a G1 → Q1 v H1) : tG K noW rep f σ H Q1 := by
  refine ⟨L, δ, G, hr, er, ?_⟩
  cases e : f δ G with
  | ok a G1 => exact fun L1 H1 v le hr1 ra => nx L1 G1 H1 a v le hr1 (er.mono le) ra e
  | ex x G1 =>
    rw [e] at h
    exact h.elim
  | no =>
    rw [e] at h
    exact h.elim
theorem wipe_wipe (σ : St) : ∀ vs : List Nat, wipe (wipe σ vs) vs = wipe σ vs
  | [] => rfl
  | v :: vs => by
    show (wipe ((wipe σ vs).set v none) vs).set v none = (wipe σ vs).set v none
    have key : ∀ {us : List Nat} {τ : St}, (wipe (τ.set v none) us).set v none = (wipe τ us).set v none := by
      intro us
      induction us with
      | nil => intro τ; show (τ.set v none).set v none = τ.set v none; rw [List.set_set]
      | cons u us ih =>
        intro τ
        show ((wipe (τ.set v none) us).set u none).set v none = ((wipe τ us).set u none).set v none
        by_cases e : u = v
        · subst e
          rw [List.set_set, List.set_set]; exact ih
        · rw [List.set_comm _ _ e, ih, List.set_comm _ _ (Ne.symm e)]
    rw [key, wipe_wipe σ vs]
theorem lc_imp {K : PySem.W.Frag} {W : WX} {mk : List D → GH → R D} {fi : FI} {g : FG} {t : FT} {f : FE} {vs : List Nat} (m : Mk mk) (σ : St) (H : Hp) (Q : VK) (h : tG K W (repD K) (eLc mk fi g t f vs) σ H Q) : tLc (tI K W fi) (tGt K vs g) (tG K noW repB t) (tG K noW (repD K) f) vs σ H Q := by
  obtain ⟨L, δ, G, hr, er, q⟩ := h
  exact iBind (rep' := repD K) hr er q fun L1 G1 H1 it J le hr1 er1 sv q1 => by
    by_cases hk : it.chk G1 = true
    · rw [if_pos hk] at q1
      intro Dl hD
      have hF : L1.F Dl = none := hr1.ffree hD
      have nofrz : ∀ (xs : List V) od w, HO.lst xs ≠ .frz od w := fun xs od w z => by cases z
      generalize hδ : wipeD δ vs = δw at q1
      have erw : ∀ L', L1.cle L' → ER K L' δw (wipe σ vs) := fun L' c => by
        have e0 : ER K L' δ σ := ⟨er1.1, fun i d e => let ⟨v, a, b⟩ := er1.2 i d e; ⟨v, a, Rep.mono (a := L1) (b := L'.frm L1.F) ⟨c.z, c.r, rfl⟩ b⟩⟩
        rw [← hδ]
        exact e0.wipe _
      -- the turn's state: acc so far, its values
      refine ⟨fun i n H => n = it.items.length - i ∧ i ≤ it.items.length ∧ ∃ L' G' acc av, L1.cle L' ∧ L'.F = L1.F ∧ HR K (L'.prv Dl (.lst av)) G' H ∧ Reps K L'.Z L'.r acc av ∧ it.chk G' = true ∧
          Sat K W L' σ (repD K) ((lcL it.chk g t f δw (it.items.drop i) acc G').bind mk) Q,
        ⟨_, rfl, Nat.zero_le _, L1, G1, [], [], .refl _, rfl, hr1.prv hD, .nil, hk, by rw [List.drop_zero]; exact q1⟩, ?_⟩
      rintro i n H2 ⟨rfl, hi2, L2, G2, acc, av, c2, f2, hr2, ra, hk2, q2⟩
      have c2' : L1.cle (L2.prv Dl (.lst av)) := ⟨c2.z, c2.r⟩
      by_cases hlt : i < it.items.length
      · have ed : it.items[i]? = some it.items[i] := by simp [hlt]
        obtain ⟨hgo, hy⟩ := sv.go _ G2 H2 i _ c2' hr2 hk2 ed
        refine .inr ⟨hgo, fun H3 => ∃ L' G' acc av, L1.cle L' ∧ L'.F = L1.F ∧ HR K (L'.prv Dl (.lst av)) G' H3 ∧ Reps K L'.Z L'.r acc av ∧ it.chk G' = true ∧
            Sat K W L' σ (repD K) ((lcL it.chk g t f δw (it.items.drop (i + 1)) acc G').bind mk) Q,
          fun H3 n => ⟨it.items.length - (i + 1), by omega, rfl, hlt, n⟩, fun x H3 yd => ?_⟩
        obtain ⟨L3, le3, hr3, rd⟩ := hy x H3 yd
        rw [List.drop_eq_getElem_cons hlt] at q2
        unfold lcL at q2
        refine ⟨L3, it.items[i], δw, G2, hr3, erw L3 (c2'.trans le3.c), rd, ?_⟩
        cases e1 : g it.items[i] δw G2 with
        | nx δ4 G4 =>
          rw [e1] at q2
          dsimp only at q2
          intro L4 σ4 H4 le4 hr4 er4 w4
          refine ⟨w4.trans (wipe_wipe _ _), ?_⟩
          have l0 : L2.cle L4 := (show L2.cle (L2.prv Dl (.lst av)) from ⟨fun _ _ z => z, fun _ _ z => z⟩).trans (le3.trans le4).c
          have frameOf : ∀ (L5 : Lk), L4.le L5 → (L5.frm L1.F).prv Dl (.lst av) = L5 := fun L5 l5 => by
            have e5 : L5.F = upd L2.F Dl (.lst av) := l5.f.trans (le4.f.trans le3.f)
            show Lk.mk L5.Z L5.r (upd L1.F Dl (.lst av)) = L5
            rw [← f2, ← e5]
          refine Sat.nb (L0 := L2) (rep' := repD K) hr4 er4 l0 (k := fun b G2 => (if b then (f δ4 G2).nox.bind fun y G3 => (if it.chk G3 && decide (acc.length < sizeLine) then lcL it.chk g t f δw (it.items.drop (i + 1)) (acc ++ [y]) G3 else .no) else (if it.chk G2 then lcL it.chk g t f δw (it.items.drop (i + 1)) acc G2 else .no)).bind mk) (Q := Q) (W := W) (σ' := σ) (by
              cases e3 : t δ4 G4 with
              | ok b G5 => rw [e3] at q2; exact q2
              | ex x G5 => rw [e3] at q2; exact q2
              | no => rw [e3] at q2; exact q2) fun L5 G5 H5 b b' le5 hr5 er5 rb e5 => ?_
          have rb' : b = b' := rb
          subst rb'
          rw [e5] at q2
          have q3 : Sat K W L2 σ (repD K) ((if b = true then (f δ4 G5).nox.bind fun y G3 => (if (it.chk G3 && decide (acc.length < sizeLine)) = true then lcL it.chk g t f δw (it.items.drop (i + 1)) (acc ++ [y]) G3 else .no) else (if it.chk G5 = true then lcL it.chk g t f δw (it.items.drop (i + 1)) acc G5 else .no)).bind mk) Q := q2
          have up : ∀ {r : R D} (L6 : Lk), L2.cle L6 → Sat K W L2 σ (repD K) r Q → Sat K W (L6.frm L1.F) σ (repD K) r Q := fun {r} L6 c6 q => Sat.mono (L := L2) (r := r) q ⟨c6.z, c6.r, f2.symm⟩
          cases b with
          | true =>
            rw [if_pos rfl] at q3 ⊢
            refine Sat.nb (L0 := L2) (rep' := repD K) hr5 er5 (l0.trans le5.c) (k := fun y G3 => (if (it.chk G3 && decide (acc.length < sizeLine)) = true then lcL it.chk g t f δw (it.items.drop (i + 1)) (acc ++ [y]) G3 else .no).bind mk) (Q := Q) (W := W) (σ' := σ) (by
              cases e3 : f δ4 G5 with
              | ok b G5 => rw [e3] at q3; exact q3
              | ex x G5 => rw [e3] at q3; exact q3
              | no => rw [e3] at q3; exact q3) fun L6 G6 H6 y yv le6 hr6 er6 ry e6 => ?_
            rw [e6] at q3
            have q4 : Sat K W L2 σ (repD K) ((if (it.chk G6 && decide (acc.length < sizeLine)) = true then lcL it.chk g t f δw (it.items.drop (i + 1)) (acc ++ [y]) G6 else .no).bind mk) Q := q3
            have c6 : L2.cle L6 := l0.trans (le5.trans le6).c
            have hr6' : HR K ((L6.frm L1.F).prv Dl (.lst av)) G6 H6 := by rw [frameOf L6 (le5.trans le6)]; exact hr6
            by_cases hk6 : (it.chk G6 && decide (acc.length < sizeLine)) = true
            · rw [if_pos hk6] at q4
              obtain ⟨hk6, hz6⟩ := Bool.and_eq_true_iff.mp hk6
              have hz6 := of_decide_eq_true hz6
              have ra6 : Reps K L6.Z L6.r acc av := Reps.mono (a := L2) (b := L6.frm L2.F) ⟨c6.z, c6.r, rfl⟩ ra
              exact ⟨av, hr6'.prvH, by rw [← Reps.length ra]; exact hz6, L6.frm L1.F, G6, acc ++ [y], av ++ [yv], (⟨(c2.trans c6).z, (c2.trans c6).r⟩ : L1.cle (L6.frm L1.F)), rfl, hr6'.prvSet (nofrz av), ra6.append (.cons ry .nil), hk6, up L6 c6 q4⟩
            · rw [if_neg hk6] at q4; exact q4.elim
          | false =>
            rw [if_neg Bool.false_ne_true] at q3 ⊢
            have c5 : L2.cle L5 := l0.trans le5.c
            have hr5' : HR K ((L5.frm L1.F).prv Dl (.lst av)) G5 H5 := by rw [frameOf L5 le5]; exact hr5
            by_cases hk5 : it.chk G5 = true
            · rw [if_pos hk5] at q3
              exact ⟨L5.frm L1.F, G5, acc, av, (⟨(c2.trans c5).z, (c2.trans c5).r⟩ : L1.cle (L5.frm L1.F)), rfl, hr5', Reps.mono (a := L2) (b := L5.frm L2.F) ⟨c5.z, c5.r, rfl⟩ ra, hk5, up L5 c5 q3⟩
            · rw [if_neg hk5] at q3; exact q3.elim
        | _ => rw [e1] at q2; exact q2.elim
      · refine .inl ⟨sv.stop _ G2 H2 i c2' hr2 hk2 (by omega), ?_⟩
        rw [List.drop_eq_nil_of_le (by omega)] at q2
        have q3 : Sat K W L2 σ (repD K) (mk acc G2) Q := q2
        have hF2 : L2.F Dl = none := by rw [f2]; exact hF
        have out := hr2.prvOut (nofrz av) hF2
        have fin := m K L2 G2 (fun b => if b = Dl then none else H2 b) acc av Dl W σ Q out ra (if_pos rfl) q3
        rw [upd_out hr2.prvH] at fin
        exact fin
    · rw [if_neg hk] at q1; exact q1.elim
theorem xe_lc {elt : Expr} {ifs : List Expr} {scope : Scope} {own : List (Str × Nat)} {mk : List D → GH → R D} {fi : FI} {g : FG} {t : FT} {f : FE} (m : Mk mk) (hc : X.calm = true) (hN : X.N.Nodup) (hi : xI X W tg iter fi) (ok : BlkOk X.N X.env.scope scope own)
    (hg : ∀ (s : Shared) (H : Hp) (C : Addr) (cl : List (Str × Addr)) (fp : List Addr), xG (X.blk s H scope (compEnvC scope cl C X.env) fp) (own.map (·.2)) tg g)
    (ht : ∀ (s : Shared) (H : Hp) (C : Addr) (cl : List (Str × Addr)) (fp : List Addr), xTs (X.blk s H scope (compEnvC scope cl C X.env) fp) ifs t)
    (he : ∀ (s : Shared) (H : Hp) (C : Addr) (cl : List (Str × Addr)) (fp : List Addr), xE (X.blk s H scope (compEnvC scope cl C X.env) fp) noW elt f) (hs : ∀ x, foldedSetIterable iter X.env x = pure x := by intro _; rfl) :
    xE X W (.ListComp elt [⟨tg, iter, ifs, 0⟩] scope pos) (eLc mk fi g t f (own.map (·.2))) :=
  PEimp (pe_lc (wi := tI X.K W fi) (g := tGt X.K (own.map fun p : Str × Nat => p.2) g) (tt := tG X.K noW repB t) (te := tG X.K noW (repD X.K) f) hc hN hi ok hg ht he hs) (lc_imp m)
theorem xs_setLc {i : Nat} {y : Str} {py spos : Pos} {elt : Expr} {ifs : List Expr} {scope : Scope} {own : List (Str × Nat)} {mk : List D → GH → R D} {fi : FI} {g : FG} {t : FT} {f : FE} (m : Mk mk) (hc : X.calm = true) (hN : X.N.Nodup) (hy : X.N[i]? = some y) (hyl : X.env.scope.names.lookup y = some .local) (hsw : swapsWith (.ListComp elt [⟨tg, iter, ifs, 0⟩] scope pos) (some (.Name y py)) spos.line X.env = pure true) (hi : xI X W tg iter fi) (ok : BlkOk X.N X.env.scope scope own)
    (hg : ∀ (s : Shared) (H : Hp) (C : Addr) (cl : List (Str × Addr)) (fp : List Addr), xG (X.blk s H scope (compEnvC scope cl C X.env) fp) (own.map (·.2)) tg g)
    (ht : ∀ (s : Shared) (H : Hp) (C : Addr) (cl : List (Str × Addr)) (fp : List Addr), xTs (X.blk s H scope (compEnvC scope cl C X.env) fp) ifs t)
    (he : ∀ (s : Shared) (H : Hp) (C : Addr) (cl : List (Str × Addr)) (fp : List Addr), xE (X.blk s H scope (compEnvC scope cl C X.env) fp) noW elt f) (hs : ∀ x, foldedSetIterable iter X.env x = pure x := by intro _; rfl) :
    xS X W (.Assign [.Name y py] (.ListComp elt [⟨tg, iter, ifs, 0⟩] scope pos) spos) (sSet i (eLc mk fi g t f (own.map (·.2)))) :=
  PSimp (ps_setLc (wi := tI X.K W fi) (g := tGt X.K (own.map fun p : Str × Nat => p.2) g) (tt := tG X.K noW repB t) (te := tG X.K noW (repD X.K) f) hc hN hy hyl hsw hi ok hg ht he hs) fun E σ H ⟨L, δ, G, hr, er, q⟩ =>
    lc_imp m σ H _ (Sat.thn hr er q fun L1 G1 H1 d v le hr1 er1 rd q1 => q1 L1 _ H1 (.refl _) hr1 (er1.set i rd))
end
end CF
end
section
set_option maxRecDepth 100000
set_option maxHeartbeats 1000000
/-! What is walked; defs, their calls; freezing. -/
namespace CF
open PySem PySem.Spec PyProof.Rows L2

theorem Rep.cmono {K : PySem.W.Frag} {a b : Lk} (h : a.cle b) {d : D} {v : V} (r : Rep K a.Z a.r d v) : Rep K b.Z b.r d v := Rep.mono (a := a) (b := b.frm a.F) ⟨h.z, h.r, rfl⟩ r
theorem Reps.cmono {K : PySem.W.Frag} {a b : Lk} (h : a.cle b) {d : List D} {v : List V} (r : Reps K a.Z a.r d v) : Reps K b.Z b.r d v := Reps.mono (a := a) (b := b.frm a.F) ⟨h.z, h.r, rfl⟩ r
theorem PIor {X : Cx} {tg e : Expr} {t t' : TI} (h : PI X tg e t) (h' : PI X tg e t') : PI X tg e (fun σ H R => t σ H R ∨ t' σ H R) := ⟨fun pins s σ H R I q => q.elim (h.run pins s σ H R I) (h'.run pins s σ H R I)⟩
theorem PEor {X : Cx} {e : Expr} {t t' : TE} (h : PE X e t) (h' : PE X e t') : PE X e (fun σ H R => t σ H R ∨ t' σ H R) := ⟨fun pins s σ H R I q => q.elim (h.run pins s σ H R I) (h'.run pins s σ H R I)⟩

open Classical in
/-- the items of a list, and that they stay -/
noncomputable def lstIts (G : GH) (x : D) : Option Its := match x with
  | .lst xs => some ⟨xs, fun _ => true⟩
  | .scr xs => some ⟨xs, fun _ => true⟩
  | .ref n => match G[n]? with
    | some (.lst xs) => some ⟨xs, fun G' => decide (G'[n]? = some (.lst xs))⟩
    | _ => none
  | _ => none
/-- the items of a value, and that they stay -/
noncomputable def itsD (G : GH) (x : D) : Option Its := match x with
  | .tup xs => some ⟨xs, fun _ => true⟩
  | .pt xs => some ⟨xs, fun _ => true⟩
  | .str z => some ⟨z.cps.toList.map fun c => .str ⟨#[c]⟩, fun _ => true⟩
  | x => lstIts G x
@[simp] theorem lstIts_lst (G : GH) (xs : List D) : lstIts G (.lst xs) = some ⟨xs, fun _ => true⟩ := rfl
@[simp] theorem lstIts_scr (G : GH) (xs : List D) : lstIts G (.scr xs) = some ⟨xs, fun _ => true⟩ := rfl
@[simp] theorem itsD_tup (G : GH) (xs : List D) : itsD G (.tup xs) = some ⟨xs, fun _ => true⟩ := rfl
@[simp] theorem itsD_pt (G : GH) (xs : List D) : itsD G (.pt xs) = some ⟨xs, fun _ => true⟩ := rfl
@[simp] theorem itsD_lst (G : GH) (xs : List D) : itsD G (.lst xs) = some ⟨xs, fun _ => true⟩ := rfl
@[simp] theorem itsD_scr (G : GH) (xs : List D) : itsD G (.scr xs) = some ⟨xs, fun _ => true⟩ := rfl
@[simp] theorem itsD_str (G : GH) (z : Str) : itsD G (.str z) = some ⟨z.cps.toList.map fun c => .str ⟨#[c]⟩, fun _ => true⟩ := rfl
@[simp] theorem itsD_ref (G : GH) (n : Nat) : itsD G (.ref n) = lstIts G (.ref n) := rfl
noncomputable def iSeq (f : FE) : FI := fun δ G => (f δ G).bind fun x G1 => match itsD G1 x with
  | some it => .ok it G1
  | none => .no
section
variable {K : PySem.W.Frag}
theorem srv_list {L : Lk} {a : Addr} {vs : List V} {ds : List D} {chk : GH → Bool} (hs : ∀ L' G H, L.cle L' → HR K L' G H → chk G = true → SqL K H a vs) (t : Reps K L.Z L.r ds vs) : Srv K (Itl K a) L ds chk where
  go := fun L' G H i d c hr hk e => by
    have s := hs L' G H c hr hk
    obtain ⟨v, ev, r⟩ := t.get e
    refine ⟨⟨vs, v, s, ev⟩, fun x H2 y => ?_⟩
    obtain ⟨rfl, y2⟩ := y
    have q := y2 vs s
    rw [ev] at q
    cases q
    exact ⟨L', .refl _, hr, r.cmono c⟩
  stop := fun L' G H i c hr hk e => ⟨vs, hs L' G H c hr hk, by rw [← Reps.length t]; exact e⟩
theorem srv_tup {L : Lk} {a : Addr} {vs : List V} {ds : List D} {chk : GH → Bool} (hs : ∀ L' G H, L.cle L' → HR K L' G H → SqT K H a vs) (t : Reps K L.Z L.r ds vs) : Srv K (Itt K a) L ds chk where
  go := fun L' G H i d c hr hk e => by
    have s := hs L' G H c hr
    obtain ⟨v, ev, r⟩ := t.get e
    refine ⟨⟨vs, v, s, ev⟩, fun x H2 y => ?_⟩
    obtain ⟨rfl, y2⟩ := y
    have q := y2 vs s
    rw [ev] at q
    cases q
    exact ⟨L', .refl _, hr, r.cmono c⟩
  stop := fun L' G H i c hr hk e => ⟨vs, hs L' G H c hr, by rw [← Reps.length t]; exact e⟩
theorem srv_str {L : Lk} {z : Str} {chk : GH → Bool} : Srv K (L2.Its z) L (z.cps.toList.map fun c => .str ⟨#[c]⟩) chk where
  go := fun L' G H i d c hr hk e => by
    rw [List.getElem?_map] at e
    cases q : z.cps.toList[i]? with
    | none => rw [q] at e; cases e
    | some cc =>
      rw [q] at e; cases e
      have hi : i < z.cps.size := by simpa using (List.getElem?_eq_some_iff.mp q).1
      refine ⟨hi, fun x H2 y => ?_⟩
      obtain ⟨rfl, c', e1, rfl⟩ := y
      rw [Array.getElem?_toList, e1] at q
      cases q
      exact ⟨L', .refl _, hr, .str _⟩
  stop := fun L' G H i c hr hk e => by show z.cps.size ≤ i; simpa using e
theorem tupAt_sq {L : Lk} {G : GH} {H : Hp} {p : Addr} {vs : List V} (hr : HR K L G H) (z : TupAt K L.Z p vs) : SqT K H p vs := z.elim (fun z => .of (hr.z _ _ z).tup) fun z => .inr z
open Classical in
/-- how a walked list stands -/
theorem walkL {L : Lk} {G : GH} {H : Hp} {x : D} {v : V} {it : Its} (hr : HR K L G H) (h : Rep K L.Z L.r x v) (e : lstIts G x = some it) :
    ∃ a xs, v = .ref a ∧ SqL K H a xs ∧ Srv K (Itl K a) L it.items it.chk ∧ Reps K L.Z L.r it.items xs := by
  cases h with
  | lst z t =>
    cases e
    exact ⟨_, _, rfl, .of (hr.z _ _ z).lst, srv_list (fun L' G' H' c hr' _ => .of (hr'.z _ _ (c.z _ _ z)).lst) t, t⟩
  | scr z t =>
    cases e
    exact ⟨_, _, rfl, scr_sq hr z, srv_list (fun L' G' H' c hr' _ => scr_sq hr' (z.mono c.z)) t, t⟩
  | @ref n a q =>
    have hn : n < G.length := by rw [← hr.len]; exact (List.getElem?_eq_some_iff.mp q).1
    have c0 := hr.cell n a G[n] q (by simp [hn])
    have e' : (match G[n]? with | some (.lst xs) => some (Its.mk xs fun G' => decide (G'[n]? = some (.lst xs))) | _ => none) = some it := e
    rw [List.getElem?_eq_getElem hn] at e'
    cases k : G[n] with
    | lst xs =>
      rw [k] at e' c0
      cases e'
      cases c0 with
      | @lst _ vs _ h0 t0 =>
        refine ⟨a, _, rfl, .of h0, ⟨fun L' G' H' i d c hr' hk' e2 => ?_, fun L' G' H' i c hr' hk' e2 => ?_⟩, t0⟩
        · have hk2 := of_decide_eq_true hk'
          have c1 := hr'.cell n a _ (c.r _ _ q) hk2
          cases c1 with
          | lst h1 t1 =>
            obtain ⟨v, ev, r⟩ := t1.get e2
            refine ⟨⟨_, v, .of h1, ev⟩, fun x H2 y => ?_⟩
            obtain ⟨rfl, y2⟩ := y
            have q3 := y2 _ (.of h1)
            rw [ev] at q3
            cases q3
            exact ⟨L', .refl _, hr', r⟩
        · have hk2 := of_decide_eq_true hk'
          have c1 := hr'.cell n a _ (c.r _ _ q) hk2
          cases c1 with
          | lst h1 t1 => exact ⟨_, .of h1, by rw [← Reps.length t1]; exact e2⟩
    | _ => rw [k] at e'; cases e'
  | _ => cases e
end
section
variable {X : Cx} {W : WX} {pos p : Pos} {tg : Expr}
/-- any list, tuple, text -/
theorem xi_seq {e : Expr} {f : FE} (h : xE X W e f) : xI X W tg e (iSeq f) :=
  PIimp (PIor (PIor (pi_list (tg := tg) h) (pi_tup h)) (pi_str h)) fun σ H Q ⟨L, δ, G, hr, er, q⟩ => by
    cases e0 : f δ G with
    | no =>
      simp only [iSeq, e0, R.bind_no] at q
    | ex x G1 =>
      simp only [iSeq, e0, R.bind_ex] at q
      refine .inl (.inl ⟨L, δ, G, hr, er, ?_⟩)
      rw [e0]; exact q
    | ok x G1 =>
      simp only [iSeq, e0, R.bind_ok] at q
      cases e1 : itsD G1 x with
      | none => rw [e1] at q; exact q.elim
      | some it =>
        rw [e1] at q
        have lists : lstIts G1 x = some it → iList X.K (tG X.K W (repD X.K) f) σ H Q := fun e2 => by
          refine ⟨L, δ, G, hr, er, ?_⟩
          rw [e0]
          intro L1 H1 v le hr1 rx
          obtain ⟨a, xs, e3, e4, s, _⟩ := walkL hr1 (show Rep X.K L1.Z L1.r x v from rx) e2
          exact ⟨a, e3, ⟨xs, e4⟩, q L1 H1 _ le hr1 s⟩
        cases x with
        | tup xs =>
          cases e1
          refine .inl (.inr ⟨L, δ, G, hr, er, ?_⟩)
          rw [e0]
          intro L1 H1 v le hr1 rx
          have rx' : Rep X.K L1.Z L1.r (.tup xs) v := rx
          cases rx' with
          | tup z t => exact ⟨_, rfl, ⟨_, tupAt_sq hr1 z⟩, q L1 H1 _ le hr1 (srv_tup (fun L' G' H' c hr' => tupAt_sq hr' (z.mono c.z)) t)⟩
        | pt xs =>
          cases e1
          refine .inl (.inr ⟨L, δ, G, hr, er, ?_⟩)
          rw [e0]
          intro L1 H1 v le hr1 rx
          have rx' : Rep X.K L1.Z L1.r (.pt xs) v := rx
          cases rx' with
          | @pt _ o _ _ z k t => exact ⟨_, rfl, ⟨_, .inl (.inr ⟨o, (hr1.z _ _ z).frz⟩)⟩, q L1 H1 _ le hr1 (srv_tup (fun L' G' H' c hr' => .inl (.inr ⟨o, (hr'.z _ _ (c.z _ _ z)).frz⟩)) t)⟩
        | str z =>
          cases e1
          refine .inr ⟨L, δ, G, hr, er, ?_⟩
          rw [e0]
          intro L1 H1 v le hr1 rx
          have rx' : Rep X.K L1.Z L1.r (.str z) v := rx
          cases rx'
          exact ⟨z, rfl, q L1 H1 _ le hr1 srv_str⟩
        | _ => exact .inl (.inl (lists e1))
/-- range(n), range(a, b) -/
def rngIts (lo : Int) (n : Nat) : Its := ⟨(List.range n).map fun i => .int (lo + (i : Nat)), fun _ => true⟩
theorem srv_rng {K : PySem.W.Frag} {L : Lk} {lo : Int} {n : Nat} : Srv K (Itr lo n) L (rngIts lo n).items (rngIts lo n).chk where
  go := fun L' G H i d c hr hk e => by
    have e : ((List.range n).map fun i => D.int (lo + (i : Nat)))[i]? = some d := e
    rw [List.getElem?_map] at e
    by_cases hi : i < n
    · rw [List.getElem?_range hi] at e
      cases e
      refine ⟨hi, fun x H2 y => ?_⟩
      obtain ⟨rfl, rfl⟩ := y
      exact ⟨L', .refl _, hr, .int _⟩
    · rw [List.getElem?_eq_none (by simpa using hi)] at e
      cases e
  stop := fun L' G H i c hr hk e => by
    have e : ((List.range n).map fun i => D.int (lo + (i : Nat))).length ≤ i := e
    show n ≤ i
    simpa using e
/-- what range takes -/
def rngC (j : Int) : Prop := -(2 ^ 62) ≤ j ∧ j < 2 ^ 62
instance (j : Int) : Decidable (rngC j) := by unfold rngC; infer_instance
theorem rngC_nat {n : Nat} (h : n < 1000000) : rngC (n : Int) := by unfold rngC; omega
def iRg1 (g : FA) : FI := fun δ G => (g δ G).bind fun ds G1 => match ds with
  | [.int j] => if rngC j then .ok (rngIts 0 j.toNat) G1 else .no
  | _ => .no
def iRg2 (g : FA) : FI := fun δ G => (g δ G).bind fun ds G1 => match ds with
  | [.int i, .int j] => if rngC i ∧ rngC j then .ok (rngIts i (j - i).toNat) G1 else .no
  | _ => .no
theorem aBindI {α : Type} {K : PySem.W.Frag} {L : Lk} {σ : St} {δ : DEnv} {G : GH} {H : Hp} {rep : Lk → D → V → Prop} {β : Type} {rp : Lk → α → β → Prop} {f : DEnv → GH → R α} {k : α → GH → R Its} {Q : It → Hp → Prop} {Q1 : β → Hp → Prop}
    (hr : HR K L G H) (er : ER K L δ σ) (h : match (f δ G).bind k with
      | .ok it G1 => ∀ L' H' J, L.le L' → HR K L' G1 H' → Srv K J L' it.items it.chk → Q J H'
      | .ex x G1 => ∀ L' H' c dx, L.le L' → HR K L' G1 H' → XRep K L' x c dx → W c dx σ H'
      | .no => False)
    (nx : ∀ L1 G1 H1 a v, L.le L1 → HR K L1 G1 H1 → rp L1 a v → (match k a G1 with
      | .ok it G1 => ∀ L' H' J, L.le L' → HR K L' G1 H' → Srv K J L' it.items it.chk → Q J H'
      | .ex x G1 => ∀ L' H' c dx, L.le L' → HR K L' G1 H' → XRep K L' x c dx → W c dx σ H'
      | .no => False) → Q1 v H1) : tG K W rp f σ H Q1 := by
  refine ⟨L, δ, G, hr, er, ?_⟩
  cases e : f δ G with
  | ok a G1 =>
    rw [e] at h
    exact fun L1 H1 v le hr1 ra => nx L1 G1 H1 a v le hr1 ra h
  | ex x G1 =>
    rw [e] at h
    exact h
  | no =>
    rw [e] at h
    exact h
theorem xi_range1 {a : Expr} {g : FA} (hg : Gl X "range") (hm : X.mg "range" = none) (ha : xA X W [a] g) (hs : starEach [a] X.env = [(false, eval a X.env)] := by rfl) : xI X W tg (.Call (.Name "range" p) [a] [] pos) (iRg1 g) :=
  PIimp (pi_range1 hg hm ha hs) fun σ H Q ⟨L, δ, G, hr, er, q⟩ => aBindI (rp := repA X.K) (rep := repD X.K) hr er q fun L1 G1 H1 ds vs le hr1 rd q1 => by
    cases rd with
    | nil => exact q1.elim
    | cons r t =>
      cases r with
      | int j =>
        cases t with
        | nil =>
          have q2 : (match (if rngC j then R.ok (rngIts 0 j.toNat) G1 else .no) with
            | .ok it G1 => ∀ L' H' J, L.le L' → HR X.K L' G1 H' → Srv X.K J L' it.items it.chk → Q J H'
            | .ex x G1 => ∀ L' H' c dx, L.le L' → HR X.K L' G1 H' → XRep X.K L' x c dx → W c dx σ H'
            | .no => False) := q1
          by_cases k : rngC j
          · rw [if_pos k] at q2
            exact ⟨j, rfl, k.1, k.2, q2 L1 H1 _ le hr1 srv_rng⟩
          · rw [if_neg k] at q2; exact q2.elim
        | cons _ _ => exact q1.elim
      | _ => cases t <;> exact q1.elim
theorem xi_range2 {a b : Expr} {g : FA} (hg : Gl X "range") (hm : X.mg "range" = none) (ha : xA X W [a, b] g) (hs : starEach [a, b] X.env = [(false, eval a X.env), (false, eval b X.env)] := by rfl) (hs2 : starEach [b] X.env = [(false, eval b X.env)] := by rfl) : xI X W tg (.Call (.Name "range" p) [a, b] [] pos) (iRg2 g) :=
  PIimp (pi_range2 hg hm ha hs hs2) fun σ H Q ⟨L, δ, G, hr, er, q⟩ => aBindI (rp := repA X.K) (rep := repD X.K) hr er q fun L1 G1 H1 ds vs le hr1 rd q1 => by
    have bad : ∀ {ds : List D}, (∀ i j, ds ≠ [.int i, .int j]) → (match (match ds with
        | [.int i, .int j] => if rngC i ∧ rngC j then R.ok (rngIts i (j - i).toNat) G1 else .no
        | _ => .no : R Its) with
            | .ok it G1 => ∀ L' H' J, L.le L' → HR X.K L' G1 H' → Srv X.K J L' it.items it.chk → Q J H'
            | .ex x G1 => ∀ L' H' c dx, L.le L' → HR X.K L' G1 H' → XRep X.K L' x c dx → W c dx σ H'
            | .no => False) → False := fun {ds} h q => by
      split at q
      · rename_i e
        split at e
        · rename_i i j; exact h i j rfl
        · cases e
      · rename_i e
        split at e
        · rename_i i j; exact h i j rfl
        · cases e
      · exact q
    by_cases hd : ∃ i j, ds = [.int i, .int j]
    · obtain ⟨i, j, rfl⟩ := hd
      cases rd with
      | cons r t =>
        cases r
        cases t with
        | cons r t =>
          cases r
          cases t
          have q2 : (match (if rngC i ∧ rngC j then R.ok (rngIts i (j - i).toNat) G1 else .no) with
            | .ok it G1 => ∀ L' H' J, L.le L' → HR X.K L' G1 H' → Srv X.K J L' it.items it.chk → Q J H'
            | .ex x G1 => ∀ L' H' c dx, L.le L' → HR X.K L' G1 H' → XRep X.K L' x c dx → W c dx σ H'
            | .no => False) := q1
          by_cases k : rngC i ∧ rngC j
          · rw [if_pos k] at q2
            exact ⟨i, j, rfl, ⟨k.1.1, k.1.2, k.2.1, k.2.2⟩, q2 L1 H1 _ le hr1 srv_rng⟩
          · rw [if_neg k] at q2; exact q2.elim
    · exact (bad (fun i j e => hd ⟨i, j, e⟩) q1).elim
end

/-! ### defs -/
def startD (N : List Str) (ds : List D) : DEnv := ds.map some ++ List.replicate (N.length - ds.length) none
theorem er_start {K : PySem.W.Frag} {L : Lk} {N : List Str} {ds : List D} {vs : List V} (t : Reps K L.Z L.r ds vs) : ER K L (startD N ds) (L2.start N vs) := by
  have hl := t.length
  refine ⟨by simp [startD, L2.start, hl], fun i d e => ?_⟩
  unfold startD at e
  unfold L2.start
  by_cases hi : i < ds.length
  · rw [List.getElem?_append_left (by simpa using hi), List.getElem?_map] at e
    cases q : ds[i]? with
    | none => rw [q] at e; cases e
    | some x =>
      rw [q] at e; cases e
      obtain ⟨v, e1, r⟩ := t.get q
      exact ⟨v, by rw [List.getElem?_append_left (by rw [List.length_map, ← hl]; exact hi), List.getElem?_map, e1]; rfl, r⟩
  · rw [List.getElem?_append_right (by simpa using hi), List.getElem?_replicate] at e
    split at e <;> cases e
/-- a def's function, from its body's -/
def defF (N : List Str) (fb : FS) : List D → GH → R D := fun ds G => match fb (startD N ds) G with
  | .nx _ G' => .ok .non G'
  | .rt d G' => .ok d G'
  | .ex x _ G' => .ex x G'
  | _ => .no
/-- the promise: F tells the value and the cells behind -/
def spD (K : PySem.W.Frag) (n : Nat) (F : List D → GH → R D) : Sp := fun vs H Q E => vs.length = n ∧ ∃ L ds G, HR K L G H ∧ Reps K L.Z L.r ds vs ∧ Sat K (fun c dx _ H' => E c dx H') L [] (repD K) (F ds G) Q
/-- a def does what F tells, wherever it is called outside of a repr -/
structure FnD (P : Program) (w : World) (K : PySem.W.Frag) (mg : Str → Option Value) (base : Heap) (k : Nat) (f : Addr) (fd : FuncData) (ps : List Str) (F : List D → GH → R D) : Prop where
  go : ∀ (B : Around) (up : List Env) (s : Shared) (H : Hp) (ar : Args) (us : List Value) (vs : List V) (Q : VK) (E : XK), Room k B → B.guards = some [] → Env0 P w K mg base B up s H → BindsTo s fd ar (ps.zip us) → Vals vs us → spD K ps.length F vs H Q E →
    codeAny (model P w) B (.call (.ref f) ar) (CR (L2.CX P w) up P w H s Q E) s
/-- what a def's body wishes of exceptions -/
abbrev wE (E : XK) : WX := fun c dx _ H => E c dx H
section
variable {P : Program} {w : World} {K : PySem.W.Frag} {mg : Str → Option Value} {base : Heap}
/-- a def of the text as it stands behind the top -/
structure FnAt (K : PySem.W.Frag) (x qual : Str) (st : Stmt) (f : Addr) (fd : FuncData) : Prop where
  ex : ∃ (oc : Value) (od : Option Addr) (dV kV doc pm : Value) (an : Option Addr) (cdv ct : Value) (osl : Array (Option Value)),
    fd = PySem.W.fnOf x qual (defArgs st) (defBody st) (defScope st) dV kV doc pm an cdv ct ∧ K.lookup f = some ⟨oc, od, .func fd, osl⟩ ∧ PySem.W.codeIn K cdv qual = true
  kp : PySem.W.keepIn K (.ref f) = true
theorem FnAt.mk0 {x qual : Str} {st : Stmt} {f : Addr} {fd : FuncData} (F : Fun K x qual st f fd) : FnAt K x qual st f fd :=
  ⟨let ⟨oc, od, kV, doc, pm, an, cdv, ct, osl, e, l, c⟩ := F.ex; ⟨oc, od, .none, kV, doc, pm, an, cdv, ct, osl, e, l, c⟩, F.kp⟩
theorem FnAt.mkD {x qual : Str} {st : Stmt} {f : Addr} {fd : FuncData} {dvs : List V} {kws : List (Str × V)} (F : FunD K x qual (defArgs st) (defBody st) (defScope st) dvs kws f fd) : FnAt K x qual st f fd :=
  ⟨let ⟨oc, od, dV, kV, doc, pm, an, cdv, ct, osl, e, l, c, _, _⟩ := F.ex; ⟨oc, od, dV, kV, doc, pm, an, cdv, ct, osl, e, l, c⟩, F.kp⟩
/-- THE RULE for a def -/
theorem fnD {x qual : Str} {st : Stmt} {f : Addr} {fd : FuncData} {N ps : List Str} {k : Nat} {fb : FS} (F : FnAt K x qual st f fd) (S : FnScope N ps (defScope st))
    (h : ∀ (cdv : Value) (A : Around) (outer : List Env) (s : Shared) (H : Hp) (E : XK), Room k (A.deeper (envOfC qual (defScope st) s.heap.objs.size f cdv)) → A.guards = some [] →
      xSs (cxOf (L2.CX P w) P w K mg base N qual (defScope st) f cdv A outer s H E) (wE E) (defBody st) fb) : FnD P w K mg base (k + 1) f fd ps (defF N fb) := by
  obtain ⟨oc, od, dV, kV, doc, pm, an, cdv, ct, osl, rfl, lk, hcd⟩ := F.ex
  refine ⟨fun B up s H ar us vs Q E room gd e0 bnd rel prom => ?_⟩
  obtain ⟨nv, L, ds, G, hr0, rd, q⟩ := prom
  have at0 := e0.bs
  have KI : K.In s.heap := e0.mod.kin.keeps fun b o z => (at0 b o z).1
  have NL : s.heap.NoLimit := e0.mod.nolimit.keeps fun b o z => (at0 b o z).1
  refine codeAny_call_function room.depth (KI _ _ lk) rfl S.co S.gen rfl (PySem.W.codeRec_of KI hcd) (bnd _ _ _ _ ?_)
  refine wpAny_newFunctionEnv_cells S.kind (fun ⟨nm, _⟩ hy => (S.par nm (List.of_mem_zip hy).1).imp id fun z => ⟨z, PySem.W.cellsFrom_some _ _ _ (.inl z)⟩) fun env ee s1 inC => ?_
  subst ee
  refine ⟨NL.keeps inC.toInCall.keep, codeAny_func ?_⟩
  have I : Inv (cxOf (L2.CX P w) P w K mg base N qual (defScope st) f cdv B up s H E) [] (L2.start N vs) H s1 := inv_start S room.hd e0 nv rel inC
  have body := h cdv B up s H E (room.deeper _) gd
  have qs : tS K (wE E) fb { nx := fun _ H' => Q .non H', rt := Q } (L2.start N vs) H := by
    refine ⟨L, startD N ds, G, hr0, er_start rd, ?_⟩
    have q' : Sat K (fun c dx _ H' => E c dx H') L [] (repD K) (defF N fb ds G) Q := q
    unfold defF at q'
    cases e : fb (startD N ds) G with
    | nx δ G' => rw [e] at q'; exact fun L' σ' H' le hr2 _ => q' L' H' .non le hr2 .non
    | rt d G' => rw [e] at q'; exact q'
    | ex x δ G' => rw [e] at q'; exact fun L' σ' H' c dx le hr2 _ xr => q' L' H' c dx le hr2 xr
    | bk δ G' => rw [e] at q'; exact q'.elim
    | ct δ G' => rw [e] at q'; exact q'.elim
    | no => rw [e] at q'; exact q'.elim
  refine wpAny_mono (body.run [] s1 (L2.start N vs) H _ I qs) (fun fl s' z => ?_) fun _ _ z => z
  cases fl with
  | ret u =>
    obtain ⟨v, _, H', J, rv, z⟩ := z
    exact ⟨v, H', J.os, J.bare, J.base, J.hok, rv, z⟩
  | next =>
    obtain ⟨_, H', J, z⟩ := z
    exact ⟨.non, H', J.os, J.bare, J.base, J.hok, rfl, z⟩
  | brk => obtain ⟨_, _, _, z⟩ := z; exact z.elim
  | cont => obtain ⟨_, _, _, z⟩ := z; exact z.elim
end
section
variable {X : Cx} {W : WX} {pos p : Pos}
theorem Sat.w {α β : Type} {K : PySem.W.Frag} {W W' : WX} {L : Lk} {σ σ' : St} {rep : Lk → α → β → Prop} {r : R α} {Q : β → Hp → Prop} (h : Sat K W L σ rep r Q) (hw : ∀ c dx H, W c dx σ H → W' c dx σ' H) : Sat K W' L σ' rep r Q := by
  cases r with
  | ok d G => exact h
  | ex x G => exact fun L' H' c dx le hr xr => hw _ _ _ (h L' H' c dx le hr xr)
  | no => exact h
/-- f(..), f a def of the text; dds: the values of the parameters that aren't given -/
def eCall (n : Nat) (F : List D → GH → R D) (dds : List D) (g : FA) : FE := fun δ G => (g δ G).bind fun ds G1 => if (ds ++ dds).length = n then F (ds ++ dds) G1 else .no
theorem xe_callD {k : Nat} {f : Addr} {fd : FuncData} {ps : List Str} {F : List D → GH → R D} {ds : List Value} {dvs : List V} {dds : List D} {x : Str} {e : Expr} {es : List Expr} {g : FA} (tk : Takes X W)
    (Fn : FnD X.prog X.w X.K X.mg X.base k f fd ps F) (hr : Room k X.A) (hgd : X.A.guards = some []) (hm : X.mg x = some (.ref f)) (hk : PySem.W.keepIn X.K (.ref f) = true) (hb : Binds X.K fd ps ds) (hd : Vals dvs ds) (rd : ∀ L : Lk, Reps X.K L.Z L.r dds dvs)
    (ha : xA X W (e :: es) g) (hg : Gl X x := by rfl) (hdb : (x == ("__debug__" : Str)) = false := by decide) (he : starEach (e :: es) X.env = (false, eval e X.env) :: starEach es X.env := by rfl) (hpl : (backTo pos (starEach es X.env)).any (·.1) = false := by rfl) :
    xE X W (.Call (.Name x p) (e :: es) [] pos) (eCall ps.length F dds g) := by
  refine ⟨fun pins s σ H Q I h => wpAny_Call_Name_kw (ld_glob I hg hm ?_ hdb)⟩
  obtain ⟨L, δ, G, hr', er, q⟩ := h
  refine PySem.W.callWith_K (h₀ := X.base) I.ok.mod.kin hk (thn (ha.run pos pins s σ H (fun vs H1 => spD X.K ps.length F (vs ++ dvs) H1 Q (fun c d H => W c d σ H)) I
    (Sat.bind (rep' := repD X.K) hr' er q fun L1 G1 H1 as vs le hr1 er1 ra q1 => by
      have t : Reps X.K L1.Z L1.r (as ++ dds) (vs ++ dvs) := Reps.append ra (rd L1)
      by_cases hl : (as ++ dds).length = ps.length
      · rw [if_pos hl] at q1
        exact ⟨by rw [← t.length]; exact hl, L1, as ++ dds, G1, hr1, t, Sat.w q1 fun _ _ _ h => h⟩
      · rw [if_neg hl] at q1; exact q1.elim)) fun us s1 ⟨vs, H1, I1, r, pr⟩ => ⟨I1.kIn, ?_⟩) he hpl
  have rall : Vals (vs ++ dvs) (us ++ ds) := r.append hd
  have hl : (us ++ ds).length = ps.length := by rw [← rall.length]; exact pr.1
  refine wpAny_call (codeAny_mono (Fn.go X.A X.stack s1 H1 ⟨us, []⟩ (us ++ ds) (vs ++ dvs) Q _ hr hgd I1.env0 (hb s1 us I1.kIn hl) rall pr) fun out s' z => ?_)
  match out, z with
  | .error e, z => exact passAt tk σ pins H1 s1 e s' I1 z
  | .ok (.ret u), z => exact I1.after z
  | .ok .next, z => exact False.elim z
  | .ok .brk, z => exact False.elim z
  | .ok .cont, z => exact False.elim z
end
end CF
end
section
set_option maxRecDepth 100000
set_option maxHeartbeats 1000000
/-! Freezing: what a def has made is told as values; its cells are forgotten. -/
namespace CF
open PySem PySem.Spec PyProof.Rows L2

mutual
/-- a value with its cells looked up -/
def fzW (rf : Nat → Option D) : D → Option D
  | .non => some .non
  | .bl b => some (.bl b)
  | .int i => some (.int i)
  | .str x => some (.str x)
  | .tup xs => match fzWs rf xs with
    | some ys => some (.tup ys)
    | none => none
  | .pt xs => match fzWs rf xs with
    | some ys => some (.pt ys)
    | none => none
  | .lst xs => match fzWs rf xs with
    | some ys => some (.lst ys)
    | none => none
  | .scr xs => match fzWs rf xs with
    | some ys => some (.scr ys)
    | none => none
  | .dK kvs => match fzWk rf kvs with
    | some ys => some (.dK ys)
    | none => none
  | .dT kvs => match fzWt rf kvs with
    | some ys => some (.dT ys)
    | none => none
  | .ins C fs => match fzWf rf fs with
    | some ys => some (.ins C ys)
    | none => none
  | .ref n => rf n
def fzWs (rf : Nat → Option D) : List D → Option (List D)
  | [] => some []
  | x :: r => match fzW rf x, fzWs rf r with
    | some y, some ys => some (y :: ys)
    | _, _ => none
def fzWk (rf : Nat → Option D) : List (Key × D) → Option (List (Key × D))
  | [] => some []
  | (k, x) :: r => match fzW rf x, fzWk rf r with
    | some y, some ys => some ((k, y) :: ys)
    | _, _ => none
def fzWt (rf : Nat → Option D) : List (List Key × D) → Option (List (List Key × D))
  | [] => some []
  | (k, x) :: r => match fzW rf x, fzWt rf r with
    | some y, some ys => some ((k, y) :: ys)
    | _, _ => none
def fzWf (rf : Nat → Option D) : List (Str × D) → Option (List (Str × D))
  | [] => some []
  | (k, x) :: r => match fzW rf x, fzWf rf r with
    | some y, some ys => some ((k, y) :: ys)
    | _, _ => none
end
/-- the cells from n on are looked up, m deep -/
def fzr (G : GH) (n : Nat) : Nat → Nat → Option D
  | 0, k => if k < n then some (.ref k) else none
  | m + 1, k => if k < n then some (.ref k) else match G[k]? with
    | some (.lst ds) => (match fzWs (fzr G n m) ds with
      | some ys => some (.lst ys)
      | none => none)
    | some (.dK ds) => (match fzWk (fzr G n m) ds with
      | some ys => some (.dK ys)
      | none => none)
    | some (.dT ds) => (match fzWt (fzr G n m) ds with
      | some ys => some (.dT ys)
      | none => none)
    | some (.ins C ds) => (match fzWf (fzr G n m) ds with
      | some ys => some (.ins C ys)
      | none => none)
    | none => none
abbrev fzD (G : GH) (n : Nat) : D → Option D := fzW (fzr G n 4)
abbrev fzDs (G : GH) (n : Nat) : List D → Option (List D) := fzWs (fzr G n 4)
/-- no cell in it -/
def pure0 (d : D) : Prop := ∀ rf, fzW rf d = some d
def pures0 (d : List D) : Prop := ∀ rf, fzWs rf d = some d
theorem pure0_non : pure0 .non := fun _ => by rw [fzW]
theorem pure0_bl (b : Bool) : pure0 (.bl b) := fun _ => by rw [fzW]
theorem pure0_int (b : Int) : pure0 (.int b) := fun _ => by rw [fzW]
theorem pure0_str (b : Str) : pure0 (.str b) := fun _ => by rw [fzW]
theorem pure0_tup {xs : List D} (h : pures0 xs) : pure0 (.tup xs) := fun rf => by rw [fzW, h rf]
theorem pure0_pt {xs : List D} (h : pures0 xs) : pure0 (.pt xs) := fun rf => by rw [fzW, h rf]
theorem pure0_lst {xs : List D} (h : pures0 xs) : pure0 (.lst xs) := fun rf => by rw [fzW, h rf]
theorem pures0_nil : pures0 [] := fun _ => by rw [fzWs]
theorem pures0_cons {x : D} {xs : List D} (h : pure0 x) (t : pures0 xs) : pures0 (x :: xs) := fun rf => by rw [fzWs, h rf, t rf]
theorem pures0_map {α : Type} {f : α → D} (h : ∀ a, pure0 (f a)) : ∀ l : List α, pures0 (l.map f)
  | [] => pures0_nil
  | a :: l => pures0_cons (h a) (pures0_map h l)
theorem pures0_all : ∀ {l : List D}, (∀ d ∈ l, pure0 d) → pures0 l
  | [], _ => pures0_nil
  | a :: l, h => pures0_cons (h a (List.mem_cons_self ..)) (pures0_all fun d hd => h d (List.mem_cons_of_mem _ hd))

/-- all that stands at cells from n on, beside what is frozen -/
noncomputable def zFull (Z : Hp) (r : List Addr) (n : Nat) (H : Hp) : Hp := fun p => match Z p with
  | some o => some o
  | none => open Classical in if ∃ k, n ≤ k ∧ r[k]? = some p then H p else none
theorem zFull_old {Z : Hp} {r : List Addr} {n : Nat} {H : Hp} {p : Addr} {o : HO} (e : Z p = some o) : zFull Z r n H p = some o := by unfold zFull; rw [e]
theorem zFull_new {Z : Hp} {r : List Addr} {n k : Nat} {H : Hp} {p : Addr} (e : Z p = none) (h : n ≤ k) (q : r[k]? = some p) : zFull Z r n H p = H p := by unfold zFull; rw [e]; exact if_pos ⟨k, h, q⟩
theorem zFull_none {Z : Hp} {r : List Addr} {n : Nat} {H : Hp} {p : Addr} (e : Z p = none) (h : ∀ k, n ≤ k → r[k]? ≠ some p) : zFull Z r n H p = none := by
  unfold zFull; rw [e]; exact if_neg fun ⟨k, a, b⟩ => h k a b
section
variable {K : PySem.W.Frag}
/-- rf tells what the cells' addresses are -/
def RfOk (K : PySem.W.Frag) (L1 : Lk) (Z' : Hp) (r' : List Addr) (rf : Nat → Option D) : Prop := ∀ k d' a, rf k = some d' → L1.r[k]? = some a → Rep K Z' r' d' (.ref a)
mutual
theorem fzW_rep {L1 : Lk} {Z' : Hp} {r' : List Addr} {rf : Nat → Option D} (hz : ∀ p o, L1.Z p = some o → Z' p = some o) (hf : RfOk K L1 Z' r' rf) : ∀ (d d' : D) (v : V), fzW rf d = some d' → Rep K L1.Z L1.r d v → Rep K Z' r' d' v
  | .non, _, _, e, h => by rw [fzW] at e; cases e; cases h; exact .non
  | .bl b, _, _, e, h => by rw [fzW] at e; cases e; cases h; exact .bl b
  | .int b, _, _, e, h => by rw [fzW] at e; cases e; cases h; exact .int b
  | .str b, _, _, e, h => by rw [fzW] at e; cases e; cases h; exact .str b
  | .tup xs, _, _, e, h => by
    rw [fzW] at e
    cases q : fzWs rf xs with
    | none => rw [q] at e; cases e
    | some ys =>
      rw [q] at e; cases e
      cases h with
      | tup z t => exact .tup (z.mono hz) (fzWs_rep hz hf xs ys _ q t)
  | .pt xs, _, _, e, h => by
    rw [fzW] at e
    cases q : fzWs rf xs with
    | none => rw [q] at e; cases e
    | some ys =>
      rw [q] at e; cases e
      cases h with
      | pt z k t => exact .pt (hz _ _ z) k (fzWs_rep hz hf xs ys _ q t)
  | .lst xs, _, _, e, h => by
    rw [fzW] at e
    cases q : fzWs rf xs with
    | none => rw [q] at e; cases e
    | some ys =>
      rw [q] at e; cases e
      cases h with
      | lst z t => exact .lst (hz _ _ z) (fzWs_rep hz hf xs ys _ q t)
  | .scr xs, _, _, e, h => by
    rw [fzW] at e
    cases q : fzWs rf xs with
    | none => rw [q] at e; cases e
    | some ys =>
      rw [q] at e; cases e
      cases h with
      | scr z t => exact .scr (z.mono hz) (fzWs_rep hz hf xs ys _ q t)
  | .dK xs, _, _, e, h => by
    rw [fzW] at e
    cases q : fzWk rf xs with
    | none => rw [q] at e; cases e
    | some ys =>
      rw [q] at e; cases e
      cases h with
      | dK z k t =>
        obtain ⟨a, b⟩ := fzWk_rep hz hf xs ys _ q t
        exact .dK (hz _ _ z) (a.trans k) b
  | .dT xs, _, _, e, h => by
    rw [fzW] at e
    cases q : fzWt rf xs with
    | none => rw [q] at e; cases e
    | some ys =>
      rw [q] at e; cases e
      cases h with
      | dT z k t =>
        obtain ⟨a, b⟩ := fzWt_rep hz hf xs ys _ q t
        exact .dT (hz _ _ z) (a.trans k) b
  | .ins C xs, _, _, e, h => by
    rw [fzW] at e
    cases q : fzWf rf xs with
    | none => rw [q] at e; cases e
    | some ys =>
      rw [q] at e; cases e
      cases h with
      | ins z k t =>
        obtain ⟨a, b⟩ := fzWf_rep hz hf xs ys _ q t
        exact .ins (hz _ _ z) (a.trans k) b
  | .ref k, _, _, e, h => by
    rw [fzW] at e
    cases h with
    | ref q => exact hf k _ _ e q
theorem fzWs_rep {L1 : Lk} {Z' : Hp} {r' : List Addr} {rf : Nat → Option D} (hz : ∀ p o, L1.Z p = some o → Z' p = some o) (hf : RfOk K L1 Z' r' rf) : ∀ (d d' : List D) (v : List V), fzWs rf d = some d' → Reps K L1.Z L1.r d v → Reps K Z' r' d' v
  | [], _, _, e, h => by rw [fzWs] at e; cases e; cases h; exact .nil
  | x :: r, _, _, e, h => by
    rw [fzWs] at e
    cases q1 : fzW rf x with
    | none => rw [q1] at e; cases e
    | some y =>
      cases q2 : fzWs rf r with
      | none => rw [q1, q2] at e; cases e
      | some ys =>
        rw [q1, q2] at e; cases e
        cases h with
        | cons a b => exact .cons (fzW_rep hz hf x y _ q1 a) (fzWs_rep hz hf r ys _ q2 b)
theorem fzWk_rep {L1 : Lk} {Z' : Hp} {r' : List Addr} {rf : Nat → Option D} (hz : ∀ p o, L1.Z p = some o → Z' p = some o) (hf : RfOk K L1 Z' r' rf) : ∀ (d d' : List (Key × D)) (v : List V), fzWk rf d = some d' → Reps K L1.Z L1.r (d.map (·.2)) v → d'.map (·.1) = d.map (·.1) ∧ Reps K Z' r' (d'.map (·.2)) v
  | [], _, _, e, h => by rw [fzWk] at e; cases e; cases h; exact ⟨rfl, .nil⟩
  | (k, x) :: r, _, _, e, h => by
    rw [fzWk] at e
    cases q1 : fzW rf x with
    | none => rw [q1] at e; cases e
    | some y =>
      cases q2 : fzWk rf r with
      | none => rw [q1, q2] at e; cases e
      | some ys =>
        rw [q1, q2] at e; cases e
        cases h with
        | cons a b =>
          obtain ⟨c, d⟩ := fzWk_rep hz hf r ys _ q2 b
          exact ⟨by simp [c], .cons (fzW_rep hz hf x y _ q1 a) d⟩
theorem fzWt_rep {L1 : Lk} {Z' : Hp} {r' : List Addr} {rf : Nat → Option D} (hz : ∀ p o, L1.Z p = some o → Z' p = some o) (hf : RfOk K L1 Z' r' rf) : ∀ (d d' : List (List Key × D)) (v : List V), fzWt rf d = some d' → Reps K L1.Z L1.r (d.map (·.2)) v → d'.map (·.1) = d.map (·.1) ∧ Reps K Z' r' (d'.map (·.2)) v
  | [], _, _, e, h => by rw [fzWt] at e; cases e; cases h; exact ⟨rfl, .nil⟩
  | (k, x) :: r, _, _, e, h => by
    rw [fzWt] at e
    cases q1 : fzW rf x with
    | none => rw [q1] at e; cases e
    | some y =>
      cases q2 : fzWt rf r with
      | none => rw [q1, q2] at e; cases e
      | some ys =>
        rw [q1, q2] at e; cases e
        cases h with
        | cons a b =>
          obtain ⟨c, d⟩ := fzWt_rep hz hf r ys _ q2 b
          exact ⟨by simp [c], .cons (fzW_rep hz hf x y _ q1 a) d⟩
theorem fzWf_rep {L1 : Lk} {Z' : Hp} {r' : List Addr} {rf : Nat → Option D} (hz : ∀ p o, L1.Z p = some o → Z' p = some o) (hf : RfOk K L1 Z' r' rf) : ∀ (d d' : List (Str × D)) (v : List V), fzWf rf d = some d' → Reps K L1.Z L1.r (d.map (·.2)) v → d'.map (·.1) = d.map (·.1) ∧ Reps K Z' r' (d'.map (·.2)) v
  | [], _, _, e, h => by rw [fzWf] at e; cases e; cases h; exact ⟨rfl, .nil⟩
  | (k, x) :: r, _, _, e, h => by
    rw [fzWf] at e
    cases q1 : fzW rf x with
    | none => rw [q1] at e; cases e
    | some y =>
      cases q2 : fzWf rf r with
      | none => rw [q1, q2] at e; cases e
      | some ys =>
        rw [q1, q2] at e; cases e
        cases h with
        | cons a b =>
          obtain ⟨c, d⟩ := fzWf_rep hz hf r ys _ q2 b
          exact ⟨by simp [c], .cons (fzW_rep hz hf x y _ q1 a) d⟩
end
/-- the cells' addresses, their contents frozen -/
theorem fzr_ok {L1 : Lk} {G1 : GH} {H : Hp} {n : Nat} {Z' : Hp} {r' : List Addr} (hr : HR K L1 G1 H) (hz : ∀ p o, L1.Z p = some o → Z' p = some o) (hk : ∀ k a, k < n → L1.r[k]? = some a → r'[k]? = some a)
    (hn : ∀ k a, n ≤ k → L1.r[k]? = some a → Z' a = H a) : ∀ m, RfOk K L1 Z' r' (fzr G1 n m)
  | 0 => fun k d' a e q => by
    unfold fzr at e
    by_cases h : k < n
    · rw [if_pos h] at e; cases e; exact .ref (hk k a h q)
    · rw [if_neg h] at e; cases e
  | m + 1 => fun k d' a e q => by
    have ih := fzr_ok hr hz hk hn m
    unfold fzr at e
    by_cases h : k < n
    · rw [if_pos h] at e; cases e; exact .ref (hk k a h q)
    · rw [if_neg h] at e
      have hl : k < G1.length := by rw [← hr.len]; exact (List.getElem?_eq_some_iff.mp q).1
      have c := hr.cell k a G1[k] q (by simp [hl])
      have za : Z' a = H a := hn k a (by omega) q
      rw [List.getElem?_eq_getElem hl] at e
      cases g : G1[k] with
      | lst ds =>
        rw [g] at e c
        dsimp only at e
        cases c with
        | lst h0 t =>
          cases q1 : fzWs (fzr G1 n m) ds with
          | none => rw [q1] at e; cases e
          | some ys =>
            rw [q1] at e; cases e
            exact .lst (za.trans h0) (fzWs_rep hz ih ds ys _ q1 t)
      | dK ds =>
        rw [g] at e c
        dsimp only at e
        cases c with
        | dK h0 h1 t =>
          cases q1 : fzWk (fzr G1 n m) ds with
          | none => rw [q1] at e; cases e
          | some ys =>
            rw [q1] at e; cases e
            obtain ⟨x, y⟩ := fzWk_rep hz ih ds ys _ q1 t
            exact .dK (za.trans h0) (x.trans h1) y
      | dT ds =>
        rw [g] at e c
        dsimp only at e
        cases c with
        | dT h0 h1 t =>
          cases q1 : fzWt (fzr G1 n m) ds with
          | none => rw [q1] at e; cases e
          | some ys =>
            rw [q1] at e; cases e
            obtain ⟨x, y⟩ := fzWt_rep hz ih ds ys _ q1 t
            exact .dT (za.trans h0) (x.trans h1) y
      | ins C ds =>
        rw [g] at e c
        dsimp only at e
        cases c with
        | ins h0 h1 t =>
          cases q1 : fzWf (fzr G1 n m) ds with
          | none => rw [q1] at e; cases e
          | some ys =>
            rw [q1] at e; cases e
            obtain ⟨x, y⟩ := fzWf_rep hz ih ds ys _ q1 t
            exact .ins (za.trans h0) (x.trans h1) y

theorem fzWk_of (rf : Nat → Option D) : ∀ (l : List (Key × D)), fzWs rf (l.map (·.2)) = some (l.map (·.2)) → fzWk rf l = some l
  | [], _ => by rw [fzWk]
  | (k, x) :: r, e => by
    rw [List.map_cons, fzWs] at e
    rw [fzWk]
    cases q1 : fzW rf x with
    | none => rw [q1] at e; cases e
    | some y =>
      cases q2 : fzWs rf (r.map (·.2)) with
      | none => rw [q1, q2] at e; cases e
      | some ys =>
        rw [q1, q2] at e
        have e' := Option.some.inj e
        injection e' with e1 e2
        subst e1
        rw [fzWk_of rf r (by rw [q2, e2])]
theorem fzWt_of (rf : Nat → Option D) : ∀ (l : List (List Key × D)), fzWs rf (l.map (·.2)) = some (l.map (·.2)) → fzWt rf l = some l
  | [], _ => by rw [fzWt]
  | (k, x) :: r, e => by
    rw [List.map_cons, fzWs] at e
    rw [fzWt]
    cases q1 : fzW rf x with
    | none => rw [q1] at e; cases e
    | some y =>
      cases q2 : fzWs rf (r.map (·.2)) with
      | none => rw [q1, q2] at e; cases e
      | some ys =>
        rw [q1, q2] at e
        have e' := Option.some.inj e
        injection e' with e1 e2
        subst e1
        rw [fzWt_of rf r (by rw [q2, e2])]
theorem fzWf_of (rf : Nat → Option D) : ∀ (l : List (Str × D)), fzWs rf (l.map (·.2)) = some (l.map (·.2)) → fzWf rf l = some l
  | [], _ => by rw [fzWf]
  | (k, x) :: r, e => by
    rw [List.map_cons, fzWs] at e
    rw [fzWf]
    cases q1 : fzW rf x with
    | none => rw [q1] at e; cases e
    | some y =>
      cases q2 : fzWs rf (r.map (·.2)) with
      | none => rw [q1, q2] at e; cases e
      | some ys =>
        rw [q1, q2] at e
        have e' := Option.some.inj e
        injection e' with e1 e2
        subst e1
        rw [fzWf_of rf r (by rw [q2, e2])]
mutual
theorem rep_closed {Z : Hp} {r : List Addr} : ∀ {d : D} {v : V}, Rep K Z r d v → fzW (fzr [] r.length 0) d = some d
  | _, _, .non => by rw [fzW]
  | _, _, .bl _ => by rw [fzW]
  | _, _, .int _ => by rw [fzW]
  | _, _, .str _ => by rw [fzW]
  | _, _, .tup _ t => by rw [fzW, reps_closed t]
  | _, _, .lst _ t => by rw [fzW, reps_closed t]
  | _, _, .pt _ _ t => by rw [fzW, reps_closed t]
  | _, _, .dK _ _ t => by rw [fzW, fzWk_of _ _ (reps_closed t)]
  | _, _, .dT _ _ t => by rw [fzW, fzWt_of _ _ (reps_closed t)]
  | _, _, .ins _ _ t => by rw [fzW, fzWf_of _ _ (reps_closed t)]
  | _, _, .scr _ t => by rw [fzW, reps_closed t]
  | _, _, .ref q => by
    rw [fzW]
    unfold fzr
    rw [if_pos (List.getElem?_eq_some_iff.mp q).1]
theorem reps_closed {Z : Hp} {r : List Addr} : ∀ {d : List D} {v : List V}, Reps K Z r d v → fzWs (fzr [] r.length 0) d = some d
  | _, _, .nil => by rw [fzWs]
  | _, _, .cons x t => by rw [fzWs, rep_closed x, reps_closed t]
end
/-- a cell that leans on cells below n alone, and stays so -/
def closedC (n : Nat) : Cell → Prop
  | .lst ds => fzWs (fzr [] n 0) ds = some ds
  | .dK ds => fzWk (fzr [] n 0) ds = some ds
  | .dT ds => fzWt (fzr [] n 0) ds = some ds
  | .ins _ ds => fzWf (fzr [] n 0) ds = some ds
/-- the cells that stood at the entry: as they were, or leaning on such alone -/
def kept (G G1 : GH) : Prop := G.length ≤ G1.length ∧ ∀ k c, k < G.length → G1[k]? = some c → G[k]? = some c ∨ closedC G.length c
/-- the state behind, the cells from n on taken as values -/
theorem HR.cut {L L1 : Lk} {G G1 : GH} {H0 H : Hp} (h0 : HR K L G H0) (le : L.le L1) (hr : HR K L1 G1 H) (kp : kept G G1) :
    L.le ⟨zFull L1.Z L1.r G.length H, L1.r.take G.length, L1.F⟩ ∧ HR K ⟨zFull L1.Z L1.r G.length H, L1.r.take G.length, L1.F⟩ (G1.take G.length) H := by
  have hz : ∀ p o, L1.Z p = some o → zFull L1.Z L1.r G.length H p = some o := fun p o e => zFull_old e
  have hk : ∀ (k : Nat) (a : Addr), k < G.length → L1.r[k]? = some a → (L1.r.take G.length)[k]? = some a := fun k a h q => by rw [List.getElem?_take_of_lt h]; exact q
  have hk' : ∀ (k : Nat) (a : Addr), (L1.r.take G.length)[k]? = some a → k < G.length ∧ L1.r[k]? = some a := fun k a q => by
    have hl := (List.getElem?_eq_some_iff.mp q).1
    rw [List.length_take] at hl
    have : k < G.length := by omega
    rw [List.getElem?_take_of_lt this] at q
    exact ⟨this, q⟩
  have hnew : ∀ (k : Nat) (a : Addr), G.length ≤ k → L1.r[k]? = some a → zFull L1.Z L1.r G.length H a = H a := fun k a h q => zFull_new (hr.dis k a q) h q
  have l0 : ∀ {n : Nat} {x : Addr}, L.r[n]? = some x → n < G.length := fun {n x} e => by rw [← h0.len]; exact (List.getElem?_eq_some_iff.mp e).1
  have lk : L.le ⟨zFull L1.Z L1.r G.length H, L1.r.take G.length, L1.F⟩ := ⟨fun p o e => hz p o (le.z p o e), fun n x e => hk n x (l0 e) (le.r n x e), le.f⟩
  refine ⟨lk, ⟨fun p o e => ?_, ?_, fun k a c e1 e2 => ?_, fun n m a e1 e2 => hr.inj n m a (hk' n a e1).2 (hk' m a e2).2, fun k a e => ?_, hr.fr, fun k a e => hr.fd k a (hk' k a e).2, fun p o e => ?_⟩⟩
  · have e' : zFull L1.Z L1.r G.length H p = some o := e
    cases q : L1.Z p with
    | some u =>
      rw [hz p u q] at e'
      have e2 := Option.some.inj e'
      subst e2
      exact hr.z p _ q
    | none =>
      by_cases h : ∃ k, G.length ≤ k ∧ L1.r[k]? = some p
      · obtain ⟨k, a, b⟩ := h
        rw [zFull_new q a b] at e'
        exact .inl e'
      · rw [zFull_none q fun k a b => h ⟨k, a, b⟩] at e'; cases e'
  · show (L1.r.take G.length).length = (G1.take G.length).length
    rw [List.length_take, List.length_take, hr.len]
  · obtain ⟨hkl, q⟩ := hk' k a e1
    rw [List.getElem?_take_of_lt hkl] at e2
    have c1 := hr.cell k a c q e2
    -- what the cell holds leans on cells below
    have rf0 : ∀ (Z : Hp) (H' : Hp), (∀ p o, Z p = some o → zFull L1.Z L1.r G.length H p = some o) → RfOk K ⟨L1.Z, L1.r, L1.F⟩ (zFull L1.Z L1.r G.length H) (L1.r.take G.length) (fzr [] G.length 0) := fun _ _ _ => fun k d' a e q => by
      unfold fzr at e
      by_cases h : k < G.length
      · rw [if_pos h] at e; cases e; exact .ref (hk k a h q)
      · rw [if_neg h] at e; cases e
    have rf := rf0 L1.Z H hz
    have fin : closedC G.length c → CellAt K ⟨zFull L1.Z L1.r G.length H, L1.r.take G.length, L1.F⟩ H c a := fun cl => by
      cases c1 with
      | lst h t => exact .lst h (fzWs_rep (L1 := L1) hz rf _ _ _ cl t)
      | dK h k t => exact .dK h k (fzWk_rep (L1 := L1) hz rf _ _ _ cl t).2
      | dT h k t => exact .dT h k (fzWt_rep (L1 := L1) hz rf _ _ _ cl t).2
      | ins h k t => exact .ins h k (fzWf_rep (L1 := L1) hz rf _ _ _ cl t).2
    rcases kp.2 k c hkl e2 with old | cl
    · -- as it was: its values are told by L already
      have hak : ∃ b, L.r[k]? = some b := ⟨_, List.getElem?_eq_getElem (by rw [h0.len]; exact hkl)⟩
      obtain ⟨b, hb⟩ := hak
      have c0 := h0.cell k b c hb old
      refine fin ?_
      rw [← h0.len]
      cases c0 with
      | lst h t => exact reps_closed t
      | dK h k t => exact fzWk_of _ _ (reps_closed t)
      | dT h k t => exact fzWt_of _ _ (reps_closed t)
      | ins h k t => exact fzWf_of _ _ (reps_closed t)
    · exact fin cl
  · obtain ⟨hkl, q⟩ := hk' k a e
    exact zFull_none (hr.dis k a q) fun j hj b => by have := hr.inj j k a b q; omega
  · rcases hr.fz p o e with z | z
    · exact .inl z
    · refine .inr (zFull_none z fun k _ b => ?_)
      have := hr.fd k p b
      rw [e] at this; cases this

/-- a def's result, its cells from n on taken as values -/
noncomputable def fzR (G : GH) (r : R D) : R D := match r with
  | .ok d G1 => (open Classical in if kept G G1 then (match fzD G1 G.length d with
    | some d' => .ok d' (G1.take G.length)
    | none => .no) else .no)
  | .ex x G1 => (open Classical in if kept G G1 then (match fzWf (fzr G1 G.length 4) x.fs with
    | some fs => .ex ⟨x.cls, fs⟩ (G1.take G.length)
    | none => .no) else .no)
  | .no => .no
theorem Sat.fz {W : WX} {L : Lk} {G : GH} {H0 : Hp} {σ : St} {r : R D} {Q : VK} (h0 : HR K L G H0) (h : Sat K W L σ (repD K) (fzR G r) Q) : Sat K W L σ (repD K) r Q := by
  have pre : ∀ {L1 : Lk} {G1 : GH} {H : Hp}, HR K L1 G1 H → RfOk K L1 (zFull L1.Z L1.r G.length H) (L1.r.take G.length) (fzr G1 G.length 4) := fun {L1 G1 H} hr =>
    fzr_ok hr (fun p o e => zFull_old e) (fun k a h q => by rw [List.getElem?_take_of_lt h]; exact q) (fun k a h q => zFull_new (hr.dis k a q) h q) 4
  cases r with
  | ok d G1 =>
    intro L1 H v le hr rd
    unfold fzR at h
    dsimp only at h
    by_cases kp : kept G G1
    · rw [if_pos kp] at h
      cases q : fzD G1 G.length d with
      | none => rw [q] at h; exact h.elim
      | some d' =>
        rw [q] at h
        obtain ⟨l2, hr2⟩ := HR.cut h0 le hr kp
        exact h _ H v l2 hr2 (fzW_rep (fun p o e => zFull_old e) (pre hr) d d' v q rd)
    · rw [if_neg kp] at h; exact h.elim
  | ex x G1 =>
    intro L1 H c dx le hr xr
    unfold fzR at h
    dsimp only at h
    by_cases kp : kept G G1
    · rw [if_pos kp] at h
      cases q : fzWf (fzr G1 G.length 4) x.fs with
      | none => rw [q] at h; exact h.elim
      | some fs =>
        rw [q] at h
        obtain ⟨l2, hr2⟩ := HR.cut h0 le hr kp
        obtain ⟨e1, d, fv, e2, e3, e4, e5⟩ := xr
        obtain ⟨a, b⟩ := fzWf_rep (fun p o e => zFull_old e) (pre hr) _ _ _ q e5
        exact h _ H c dx l2 hr2 ⟨e1, d, fv, e2, zFull_old e3, a.trans e4, b⟩
    · rw [if_neg kp] at h; exact h.elim
  | no => exact h
/-- the promise of a def, told by another function -/
theorem FnD.le {P : Program} {w : World} {mg : Str → Option Value} {base : Heap} {k : Nat} {f : Addr} {fd : FuncData} {ps : List Str} {F F' : List D → GH → R D} (h : FnD P w K mg base k f fd ps F)
    (i : ∀ ds G, F' ds G = .no ∨ F' ds G = fzR G (F ds G)) : FnD P w K mg base k f fd ps F' :=
  ⟨fun B up s H ar us vs Q E room gd e0 bnd rel ⟨hl, L, ds, G, hr, rd, q⟩ => h.go B up s H ar us vs Q E room gd e0 bnd rel ⟨hl, L, ds, G, hr, rd, by
    rcases i ds G with e | e
    · rw [e] at q; exact q.elim
    · rw [e] at q; exact Sat.fz hr q⟩⟩
theorem kept_refl (G J : GH) : kept G (G ++ J) := ⟨by simp, fun k c h e => .inl (by rw [List.getElem?_append_left h] at e; exact e)⟩
theorem fzR_ok {G J : GH} {d d' : D} (e : fzD (G ++ J) G.length d = some d') : fzR G (.ok d (G ++ J)) = .ok d' G := by
  unfold fzR
  dsimp only
  rw [if_pos (kept_refl G J), e]
  simp
theorem fzR_ok0 {G : GH} {d d' : D} (e : fzD G G.length d = some d') : fzR G (.ok d G) = .ok d' G := by
  have q := fzR_ok (J := []) (G := G) (d := d) (d' := d') (by rw [List.append_nil]; exact e)
  rw [List.append_nil] at q; exact q
theorem fzR_ex {G J : GH} {x : Ex} {fs : List (Str × D)} (e : fzWf (fzr (G ++ J) G.length 4) x.fs = some fs) : fzR G (.ex x (G ++ J)) = .ex ⟨x.cls, fs⟩ G := by
  unfold fzR
  dsimp only
  rw [if_pos (kept_refl G J), e]
  simp
end
end CF
end
section
set_option maxRecDepth 100000
set_option maxHeartbeats 1000000
/-! Membership, built-in functions, list methods. -/
namespace CF
open PySem PySem.Spec PyProof.Rows L2

/-! ### in -/
theorem reps_flat {K : PySem.W.Frag} {Z : Hp} {r : List Addr} : ∀ {ds : List D} {vs : List V}, Reps K Z r ds vs → ds.all flatD = vs.all flatV
  | _, _, .nil => rfl
  | _, _, .cons x t => by
    rw [List.all_cons, List.all_cons, reps_flat t]
    cases x <;> rfl
theorem rep_flat {K : PySem.W.Frag} {Z : Hp} {r : List Addr} {d : D} {v : V} (h : Rep K Z r d v) : flatD d = flatV v := by cases h <;> rfl
theorem rep_eqF {K : PySem.W.Frag} {Z : Hp} {r : List Addr} {d e : D} {v u : V} (h : Rep K Z r d v) (k : Rep K Z r e u) (f : flatD d = true) (f' : flatD e = true) : eqF d e = eqV v u := by
  cases h <;> cases k <;> first | rfl | exact absurd f (by simp [flatD]) | exact absurd f' (by simp [flatD])
theorem reps_any {K : PySem.W.Frag} {Z : Hp} {r : List Addr} {x : D} {u : V} (hx : Rep K Z r x u) (fx : flatD x = true) : ∀ {ds : List D} {vs : List V}, Reps K Z r ds vs → ds.all flatD = true → (ds.any fun y => eqF y x) = inV u vs
  | _, _, .nil, _ => rfl
  | _, _, .cons h t, f => by
    rw [List.all_cons, Bool.and_eq_true] at f
    unfold inV
    rw [List.any_cons, List.any_cons, rep_eqF h hx f.1 fx, reps_any hx fx t f.2]
    rfl
def dInS (x : D) (ys : List D) : Option Bool := if flatD x && ys.all flatD then some (ys.any fun y => eqF y x) else none
/-- x in y -/
def inD (G : GH) (x y : D) : Option Bool := match y with
  | .str z => (match x with
    | .str w => some (!(Builtin.Str.occurrences z w 0 z.length 1).isEmpty)
    | _ => none)
  | .tup ys => dInS x ys
  | y => match lstOf G y with
    | some ys => dInS x ys
    | none => (dGetO G y x).map (·.isSome)
def dIn : F2 := fun x y G => match inD G x y with
  | some b => .ok (.bl b) G
  | none => .no
def dNotIn : F2 := fun x y G => match inD G x y with
  | some b => .ok (.bl (!b)) G
  | none => .no
def rInDK (neg : Bool) : R2 := fun y x H Q => ∃ a o, x = .ref a ∧ DGet H a y o ∧ Q (.bl (if neg then !o.isSome else o.isSome)) H
def rInStr (neg : Bool) : R2 := fun x y H Q => ∃ i j, x = .str i ∧ y = .str j ∧ Q (.bl (if neg then !(!(Builtin.Str.occurrences j i 0 j.length 1).isEmpty) else !(Builtin.Str.occurrences j i 0 j.length 1).isEmpty)) H
def rInAll (K : PySem.W.Frag) (neg : Bool) : R2 := fun x y H Q => (rInStr neg x y H Q ∨ rIn K neg x y H Q) ∨ rInDK neg x y H Q
section
variable {X : Cx}
theorem op_inDK (hu : X.A.units + 1 < cLine) : OpR X (compareOp .In) (rInDK false) := fun pins s σ H y x u v Q I ry rx ⟨a, o, e, g, q⟩ => by
  subst e; cases rx
  exact d_in hu I g ry fun s' I' => ⟨.bl o.isSome, H, I', rfl, q⟩
theorem op_notInDK (hu : X.A.units + 1 < cLine) : OpR X (compareOp .NotIn) (rInDK true) := fun pins s σ H y x u v Q I ry rx ⟨a, o, e, g, q⟩ => by
  subst e; cases rx
  exact d_notIn hu I g ry fun s' I' => ⟨.bl (!o.isSome), H, I', rfl, q⟩
theorem opr_in (hu : X.A.units + 1 < cLine) : OpR X (compareOp .In) (rInAll X.K false) := (OpR.or (show OpR X (compareOp .In) (rInStr false) from op_in_str) op_in_seq).or (op_inDK hu)
theorem opr_notIn (hu : X.A.units + 1 < cLine) : OpR X (compareOp .NotIn) (rInAll X.K true) := (OpR.or (show OpR X (compareOp .NotIn) (rInStr true) from op_notin_str) op_notIn_seq).or (op_notInDK hu)
theorem inD_rep {K : PySem.W.Frag} {L : Lk} {G : GH} {H : Hp} (hr : HR K L G H) {x y : D} {v u : V} {b neg : Bool} {Q : VK} (rx : Rep K L.Z L.r x v) (ry : Rep K L.Z L.r y u) (e : inD G x y = some b) (q : Q (.bl (if neg then !b else b)) H) : rInAll K neg v u H Q := by
  have seq : ∀ (ys : List D) (p : Addr) (vs : List V), u = .ref p → (SqL K H p vs ∨ SqT K H p vs) → Reps K L.Z L.r ys vs → dInS x ys = some b → rInAll K neg v u H Q := fun ys p vs eu s t e => by
    unfold dInS at e
    by_cases f : (flatD x && ys.all flatD) = true
    · rw [if_pos f] at e
      cases e
      obtain ⟨f1, f2⟩ := Bool.and_eq_true_iff.mp f
      refine .inl (.inr ⟨p, vs, eu, s, by rw [← rep_flat rx]; exact f1, by rw [← reps_flat t]; exact f2, ?_⟩)
      rw [← reps_any rx f1 t f2]
      exact q
    · rw [if_neg f] at e; cases e
  have gen : (match lstOf G y with | some ys => dInS x ys | none => (dGetO G y x).map (·.isSome)) = some b → rInAll K neg v u H Q := fun e => by
    cases k : lstOf G y with
    | some ys =>
      rw [k] at e
      obtain ⟨p, vs, eu, s, t⟩ := lst_rep hr ry k
      exact seq ys p vs eu (.inl s) t e
    | none =>
      rw [k] at e
      cases k2 : dGetO G y x with
      | none => rw [k2] at e; cases e
      | some o =>
        rw [k2] at e
        cases e
        obtain ⟨p, ov, eu, g, h1, _⟩ := dGetO_rep hr ry rx k2
        refine .inr ⟨p, ov, eu, g, ?_⟩
        rw [h1]; exact q
  cases y with
  | str z =>
    cases x with
    | str w =>
      cases rx; cases ry; cases e
      exact .inl (.inl ⟨w, z, rfl, rfl, q⟩)
    | _ => cases e
  | tup ys =>
    obtain ⟨p, vs, eu, s, t⟩ := tup_rep hr ry
    exact seq ys p vs eu (.inr s) t e
  | _ => exact gen e
theorem o2_in {K : PySem.W.Frag} : Op2 K dIn (rInAll K false) := fun L G H x y v u W σ Q hr rx ry q => by
  unfold dIn at q
  cases e : inD G x y with
  | none => rw [e] at q; exact q.elim
  | some b => rw [e] at q; exact inD_rep hr rx ry e (q L H _ (.refl L) hr (.bl b))
theorem o2_notIn {K : PySem.W.Frag} : Op2 K dNotIn (rInAll K true) := fun L G H x y v u W σ Q hr rx ry q => by
  unfold dNotIn at q
  cases e : inD G x y with
  | none => rw [e] at q; exact q.elim
  | some b => rw [e] at q; exact inD_rep hr rx ry e (q L H _ (.refl L) hr (.bl (!b)))
/-! ### is None -/
def isN : D → Bool
  | .non => true
  | _ => false
def dIsN : F2 := fun x y G => match y with
  | .non => .ok (.bl (isN x)) G
  | _ => .no
def dNotN : F2 := fun x y G => match y with
  | .non => .ok (.bl (!isN x)) G
  | _ => .no
theorem isN_rep {K : PySem.W.Frag} {Z : Hp} {r : List Addr} {d : D} {v : V} (h : Rep K Z r d v) : isN d = decide (v = .non) := by cases h <;> rfl
theorem o2_isN {K : PySem.W.Frag} : Op2 K dIsN (fun x y H Q => y = .non ∧ Q (.bl (decide (x = .non))) H) := fun L G H x y v u W σ Q hr rx ry q => by
  cases ry with
  | non => exact ⟨rfl, by rw [← isN_rep rx]; exact q L H _ (.refl L) hr (.bl _)⟩
  | _ => exact q.elim
theorem o2_notN {K : PySem.W.Frag} : Op2 K dNotN (fun x y H Q => y = .non ∧ Q (.bl (!decide (x = .non))) H) := fun L G H x y v u W σ Q hr rx ry q => by
  cases ry with
  | non => exact ⟨rfl, by rw [← isN_rep rx]; exact q L H _ (.refl L) hr (.bl _)⟩
  | _ => exact q.elim
/-! ### numbers, + - -/
theorem o2_mul {K : PySem.W.Frag} : Op2 K dMulI (rI CMul fun i j => .int (i * j)) := o2_int fun i j h => (of_decide_eq_true h : -(2 ^ 64) < i ∧ i < 2 ^ 64 ∨ -(2 ^ 64) < j ∧ j < 2 ^ 64)
def dNeg (x : D) (G : GH) : R D := match x with
  | .int i => .ok (.int (-i)) G
  | _ => .no
variable {W : WX} {pos p : Pos} {a : Expr} {fa : FE}
def eUn (f : D → GH → R D) (fa : FE) : FE := fun δ G => (fa δ G).bind f
theorem xe_neg (ha : xE X W a fa) : xE X W (.UnaryOp .USub a pos) (eUn dNeg fa) :=
  PEimp (pe_un un_neg ha) fun σ H Q ⟨L, δ, G, hr, er, q⟩ => Sat.bind (rep' := repD X.K) hr er q fun L1 G1 H1 x v le hr1 er1 rx q1 => by
    cases rx with
    | int i => exact ⟨i, rfl, q1 L1 H1 _ (.refl _) hr1 (.int _)⟩
    | _ => exact q1.elim

/-! ### not, and, or as values -/
def eNot (f : FT) : FE := fun δ G => (f δ G).bind fun b G1 => .ok (.bl (!b)) G1
/-- a value by its truth -/
theorem truD_sat {L : Lk} {G : GH} {H : Hp} {σ : St} {x : D} {v : V} {f : Bool → R Bool} {Q : Bool → Hp → Prop} (hr : HR X.K L G H) (rx : Rep X.K L.Z L.r x v) : True := trivial
theorem xe_not {f : FE} (ha : xE X W a f) : xE X W (.UnaryOp .Not a pos) (eNot (eTru f)) :=
  PEimp (pe_notT ha) fun σ H Q ⟨L, δ, G, hr, er, q⟩ => by
    have q' : Sat X.K W L σ (repD X.K) ((f δ G).bind fun d G1 => (match truD G1 d with | some b => R.ok b G1 | none => .no).bind fun b G1 => .ok (.bl (!b)) G1) Q := by
      have e : eNot (eTru f) δ G = ((f δ G).bind fun d G1 => (match truD G1 d with | some b => R.ok b G1 | none => .no).bind fun b G1 => .ok (.bl (!b)) G1) := by
        unfold eNot eTru
        cases f δ G <;> rfl
      rw [← e]; exact q
    exact Sat.bind (rep' := repD X.K) hr er q' fun L1 G1 H1 x v le hr1 er1 rx q1 => by
      cases e' : truD G1 x with
      | none => rw [e'] at q1; exact q1.elim
      | some b =>
        rw [e'] at q1
        exact ⟨b, truD_rep hr1 rx e', q1 L1 H1 _ (.refl _) hr1 (.bl _)⟩
/-- x or y, x and y, by truth -/
def eOr (f g : FE) : FE := fun δ G => (f δ G).bind fun d G1 => match truD G1 d with
  | some true => .ok d G1
  | some false => g δ G1
  | none => .no
def eAnd (f g : FE) : FE := fun δ G => (f δ G).bind fun d G1 => match truD G1 d with
  | some true => g δ G1
  | some false => .ok d G1
  | none => .no
variable {b : Expr} {fb : FE} {rest : List Expr}
theorem xe_one {op : BoolOp} (h : xE X W a fa) : xE X W (.BoolOp op [a] pos) fa := pe_one h
theorem xe_or (ha : xE X W a fa) (hb : xE X W (.BoolOp .Or (b :: rest) pos) fb) : xE X W (.BoolOp .Or (a :: b :: rest) pos) (eOr fa fb) :=
  PEimp (pe_orT ha hb) fun σ H Q ⟨L, δ, G, hr, er, q⟩ => Sat.bind (rep' := repD X.K) hr er q fun L1 G1 H1 x v le hr1 er1 rx q1 => by
    cases e' : truD G1 x with
    | none => rw [e'] at q1; exact q1.elim
    | some k =>
      rw [e'] at q1
      refine ⟨k, truD_rep hr1 rx e', ?_⟩
      cases k with
      | true => rw [if_pos rfl]; exact q1 L1 H1 v (.refl _) hr1 rx
      | false => rw [if_neg Bool.false_ne_true]; exact ⟨L1, δ, G1, hr1, er1, q1⟩
theorem xe_and (ha : xE X W a fa) (hb : xE X W (.BoolOp .And (b :: rest) pos) fb) : xE X W (.BoolOp .And (a :: b :: rest) pos) (eAnd fa fb) :=
  PEimp (pe_andT ha hb) fun σ H Q ⟨L, δ, G, hr, er, q⟩ => Sat.bind (rep' := repD X.K) hr er q fun L1 G1 H1 x v le hr1 er1 rx q1 => by
    cases e' : truD G1 x with
    | none => rw [e'] at q1; exact q1.elim
    | some k =>
      rw [e'] at q1
      refine ⟨k, truD_rep hr1 rx e', ?_⟩
      cases k with
      | true => rw [if_pos rfl]; exact ⟨L1, δ, G1, hr1, er1, q1⟩
      | false => rw [if_neg Bool.false_ne_true]; exact q1 L1 H1 v (.refl _) hr1 rx

/-! ### built-in functions by values -/
def CbD (K : PySem.W.Frag) (f : List D → GH → R D) (r : List V → Hp → VK → Prop) : Prop := ∀ (L : Lk) (G : GH) (H : Hp) (ds : List D) (vs : List V) (W : WX) (σ : St) (Q : VK), HR K L G H → Reps K L.Z L.r ds vs → Sat K W L σ (repD K) (f ds G) Q → r vs H Q
def eCB (f : List D → GH → R D) (g : FA) : FE := fun δ G => (g δ G).bind f
variable {x : Str} {e : Expr} {es : List Expr} {g : FA} {f : List D → GH → R D} {r : List V → Hp → VK → Prop} {id T : String}
theorem xe_cb (hc : CallR X (.builtin id) r) (o : CbD X.K f r) (hm : X.mg x = none) (hv : bootBuiltins x = some (.builtin id)) (ha : xA X W (e :: es) g) (hg : Gl X x := by rfl) (hn : x ≠ "__name__" := by decide) (hdb : (x == ("__debug__" : Str)) = false := by decide)
    (he : starEach (e :: es) X.env = (false, eval e X.env) :: starEach es X.env := by rfl) (hpl : (backTo pos (starEach es X.env)).any (·.1) = false := by rfl) : xE X W (.Call (.Name x p) (e :: es) [] pos) (eCB f g) :=
  PEimp (pe_callB hc hg hm hv ha hn hdb he hpl) fun σ H Q ⟨L, δ, G, hr, er, q⟩ => Sat.bind (rep' := repD X.K) hr er q fun L1 G1 H1 ds vs le hr1 er1 rd q1 => o L1 G1 H1 ds vs W σ Q hr1 rd q1
theorem xe_cty (hc : CallR X (.type T) r) (o : CbD X.K f r) (hm : X.mg x = none) (hv : bootBuiltins x = some (.type T)) (ha : xA X W (e :: es) g) (hg : Gl X x := by rfl) (hn : x ≠ "__name__" := by decide) (hdb : (x == ("__debug__" : Str)) = false := by decide)
    (he : starEach (e :: es) X.env = (false, eval e X.env) :: starEach es X.env := by rfl) (hpl : (backTo pos (starEach es X.env)).any (·.1) = false := by rfl) : xE X W (.Call (.Name x p) (e :: es) [] pos) (eCB f g) :=
  PEimp (pe_callTy hc hg hm hv ha hn hdb he hpl) fun σ H Q ⟨L, δ, G, hr, er, q⟩ => Sat.bind (rep' := repD X.K) hr er q fun L1 G1 H1 ds vs le hr1 er1 rd q1 => o L1 G1 H1 ds vs W σ Q hr1 rd q1
end
/-- a wish about one argument -/
def one (f : D → GH → R D) : List D → GH → R D := fun ds G => match ds with
  | [d] => f d G
  | _ => .no
theorem cb_one {K : PySem.W.Frag} {f : D → GH → R D} {r : List V → Hp → VK → Prop} (h : ∀ (L : Lk) (G : GH) (H : Hp) (d : D) (v : V) (W : WX) (σ : St) (Q : VK), HR K L G H → Rep K L.Z L.r d v → Sat K W L σ (repD K) (f d G) Q → r [v] H Q) : CbD K (one f) r := fun L G H ds vs W σ Q hr rd q => by
  cases rd with
  | nil => exact q.elim
  | cons a t =>
    cases t with
    | nil => exact h L G H _ _ W σ Q hr a q
    | cons _ _ => exact q.elim
/-! len -/
def lenO (G : GH) : D → Option Nat
  | .str x => if x.length ≤ sizeLine then some x.length else none
  | .tup xs => some xs.length
  | .pt xs => some xs.length
  | d => match lstOf G d with
    | some xs => some xs.length
    | none => (dKOf G d).map (·.length)
@[simp] theorem lenO_tup (G : GH) (xs : List D) : lenO G (.tup xs) = some xs.length := rfl
@[simp] theorem lenO_pt (G : GH) (xs : List D) : lenO G (.pt xs) = some xs.length := rfl
@[simp] theorem lenO_lst (G : GH) (xs : List D) : lenO G (.lst xs) = some xs.length := rfl
@[simp] theorem lenO_scr (G : GH) (xs : List D) : lenO G (.scr xs) = some xs.length := rfl
@[simp] theorem lenO_dK (G : GH) (xs : List (Key × D)) : lenO G (.dK xs) = some xs.length := rfl
def dLen : D → GH → R D := fun d G => match lenO G d with
  | some n => .ok (.int n) G
  | none => .no
section
variable {X : Cx} {W : WX} {pos p : Pos} {e : Expr} {g : FA}
def rLenA (K : PySem.W.Frag) : List V → Hp → VK → Prop := fun xs H Q => ((∃ p ys, xs = [.ref p] ∧ (SqL K H p ys ∨ SqT K H p ys) ∧ Q (.int ys.length) H) ∨ (∃ z, xs = [.str z] ∧ z.length ≤ sizeLine ∧ Q (.int z.length) H)) ∨ ∃ a kvs, xs = [V.ref a] ∧ Rd H a (.dK kvs) ∧ Q (.int kvs.length) H
theorem call_lenRd : CallR X (.builtin "len") (fun xs H Q => ∃ a kvs, xs = [V.ref a] ∧ Rd H a (.dK kvs) ∧ Q (.int kvs.length) H) := fun pins s σ H xs us Q I r ⟨a, kvs, e, h, q⟩ => by
  subst e
  cases r with
  | cons h1 h2 =>
    cases h1; cases h2
    exact d_len I h fun t s' I' => ⟨.int kvs.length, H, I', ⟨t, rfl⟩, q⟩
theorem callr_len : CallR X (.builtin "len") (rLenA X.K) := (call_len_seq.or call_len_str).or call_lenRd
theorem cb_len {K : PySem.W.Frag} : CbD K (one dLen) (rLenA K) := cb_one fun L G H d v W σ Q hr rd q => by
  unfold dLen at q
  cases e : lenO G d with
  | none => rw [e] at q; exact q.elim
  | some n =>
    rw [e] at q
    have k := q L H _ (.refl L) hr (.int _)
    have gen : (match lstOf G d with | some xs => some xs.length | none => (dKOf G d).map (·.length)) = some n → rLenA K [v] H Q := fun e => by
      cases e1 : lstOf G d with
      | some xs =>
        rw [e1] at e; cases e
        obtain ⟨p, vs, rfl, s, t⟩ := lst_rep hr rd e1
        exact .inl (.inl ⟨p, vs, rfl, .inl s, by rw [← t.length]; exact k⟩)
      | none =>
        rw [e1] at e
        cases e2 : dKOf G d with
        | none => rw [e2] at e; cases e
        | some kds =>
          rw [e2] at e; cases e
          obtain ⟨p, kvs, rfl, h, hk, t⟩ := dK_rep hr rd e2
          have hl := congrArg List.length hk
          simp only [List.length_map] at hl
          exact .inr ⟨p, kvs, rfl, h, by rw [← hl]; exact k⟩
    cases d with
    | str x =>
      cases rd
      have e' : (if x.length ≤ sizeLine then some x.length else none) = some n := e
      by_cases hl : x.length ≤ sizeLine
      · rw [if_pos hl] at e'; cases e'
        exact .inl (.inr ⟨x, rfl, hl, k⟩)
      · rw [if_neg hl] at e'; cases e'
    | tup xs =>
      cases e
      obtain ⟨p, vs, rfl, s, t⟩ := tup_rep hr rd
      exact .inl (.inl ⟨p, vs, rfl, .inr s, by rw [← t.length]; exact k⟩)
    | pt xs =>
      cases e
      obtain ⟨p, vs, rfl, s, t⟩ := tupOf_rep (ds := xs) hr rd rfl
      exact .inl (.inl ⟨p, vs, rfl, .inr s, by rw [← t.length]; exact k⟩)
    | _ => exact gen e
theorem xe_len (hm : X.mg "len" = none) (ha : xA X W [e] g) (hg : Gl X "len" := by rfl) (he : starEach [e] X.env = (false, eval e X.env) :: starEach [] X.env := by rfl) : xE X W (.Call (.Name "len" p) [e] [] pos) (eCB (one dLen) g) :=
  xe_cb callr_len cb_len hm PySem.boot_len ha hg (by decide) (by decide) he rfl
/-! all, any, sum -/
def blsOf : List D → Option (List Bool)
  | [] => some []
  | .bl b :: r => (blsOf r).map (b :: ·)
  | _ => none
def intsOf : List D → Option (List Int)
  | [] => some []
  | .int b :: r => (intsOf r).map (b :: ·)
  | _ => none
@[simp] theorem blsOf_map (bs : List Bool) : blsOf (bs.map D.bl) = some bs := by induction bs with | nil => rfl | cons b r ih => simp [blsOf, ih]
@[simp] theorem intsOf_map (bs : List Int) : intsOf (bs.map D.int) = some bs := by induction bs with | nil => rfl | cons b r ih => simp [intsOf, ih]
theorem bls_rep {K : PySem.W.Frag} {Z : Hp} {r : List Addr} : ∀ {ds : List D} {vs : List V} {bs : List Bool}, Reps K Z r ds vs → blsOf ds = some bs → vs = bs.map V.bl
  | _, _, _, .nil, e => by cases e; rfl
  | d :: ds, _, bs, .cons h t, e => by
    cases h with
    | bl b =>
      rw [blsOf] at e
      cases q : blsOf ds with
      | none => rw [q] at e; cases e
      | some cs => rw [q] at e; cases e; rw [bls_rep t q]; rfl
    | _ => simp [blsOf] at e
theorem ints_rep {K : PySem.W.Frag} {Z : Hp} {r : List Addr} : ∀ {ds : List D} {vs : List V} {bs : List Int}, Reps K Z r ds vs → intsOf ds = some bs → vs = bs.map V.int
  | _, _, _, .nil, e => by cases e; rfl
  | d :: ds, _, bs, .cons h t, e => by
    cases h with
    | int b =>
      rw [intsOf] at e
      cases q : intsOf ds with
      | none => rw [q] at e; cases e
      | some cs => rw [q] at e; cases e; rw [ints_rep t q]; rfl
    | _ => simp [intsOf] at e
def dAll : D → GH → R D := fun d G => match (lstOf G d).bind blsOf with
  | some bs => .ok (.bl (bs.all id)) G
  | none => .no
def dAny : D → GH → R D := fun d G => match (lstOf G d).bind blsOf with
  | some bs => .ok (.bl (bs.any id)) G
  | none => .no
def dSum : D → GH → R D := fun d G => match (lstOf G d).bind intsOf with
  | some bs => .ok (.int bs.sum) G
  | none => .no
theorem cb_all {K : PySem.W.Frag} : CbD K (one dAll) (rAll K) := cb_one fun L G H d v W σ Q hr rd q => by
  unfold dAll at q
  cases e : lstOf G d with
  | none => rw [e] at q; exact q.elim
  | some xs =>
    rw [e] at q
    cases e2 : blsOf xs with
    | none => rw [Option.bind_some, e2] at q; exact q.elim
    | some bs =>
      rw [Option.bind_some, e2] at q
      obtain ⟨p, vs, rfl, s, t⟩ := lst_rep hr rd e
      exact ⟨p, bs, rfl, by rw [← bls_rep t e2]; exact s, q L H _ (.refl L) hr (.bl _)⟩
theorem cb_any {K : PySem.W.Frag} : CbD K (one dAny) (rAny K) := cb_one fun L G H d v W σ Q hr rd q => by
  unfold dAny at q
  cases e : lstOf G d with
  | none => rw [e] at q; exact q.elim
  | some xs =>
    rw [e] at q
    cases e2 : blsOf xs with
    | none => rw [Option.bind_some, e2] at q; exact q.elim
    | some bs =>
      rw [Option.bind_some, e2] at q
      obtain ⟨p, vs, rfl, s, t⟩ := lst_rep hr rd e
      exact ⟨p, bs, rfl, by rw [← bls_rep t e2]; exact s, q L H _ (.refl L) hr (.bl _)⟩
theorem cb_sum {K : PySem.W.Frag} : CbD K (one dSum) (rSum K) := cb_one fun L G H d v W σ Q hr rd q => by
  unfold dSum at q
  cases e : lstOf G d with
  | none => rw [e] at q; exact q.elim
  | some xs =>
    rw [e] at q
    cases e2 : intsOf xs with
    | none => rw [Option.bind_some, e2] at q; exact q.elim
    | some bs =>
      rw [Option.bind_some, e2] at q
      obtain ⟨p, vs, rfl, s, t⟩ := lst_rep hr rd e
      exact ⟨p, bs, rfl, by rw [← ints_rep t e2]; exact s, q L H _ (.refl L) hr (.int _)⟩
theorem xe_all (hc : X.calm = true) (hm : X.mg "all" = none) (ha : xA X W [e] g) (hg : Gl X "all" := by rfl) (he : starEach [e] X.env = (false, eval e X.env) :: starEach [] X.env := by rfl) : xE X W (.Call (.Name "all" p) [e] [] pos) (eCB (one dAll) g) :=
  xe_cb (cr_all hc) cb_all hm (by decide +kernel) ha hg (by decide) (by decide) he rfl
theorem xe_any (hc : X.calm = true) (hm : X.mg "any" = none) (ha : xA X W [e] g) (hg : Gl X "any" := by rfl) (he : starEach [e] X.env = (false, eval e X.env) :: starEach [] X.env := by rfl) : xE X W (.Call (.Name "any" p) [e] [] pos) (eCB (one dAny) g) :=
  xe_cb (cr_any hc) cb_any hm (by decide +kernel) ha hg (by decide) (by decide) he rfl
theorem xe_sum (hc : X.calm = true) (hm : X.mg "sum" = none) (ha : xA X W [e] g) (hg : Gl X "sum" := by rfl) (he : starEach [e] X.env = (false, eval e X.env) :: starEach [] X.env := by rfl) : xE X W (.Call (.Name "sum" p) [e] [] pos) (eCB (one dSum) g) :=
  xe_cb (cr_sum hc) cb_sum hm (by decide +kernel) ha hg (by decide) (by decide) he rfl
/-! int, str of a number; tuple, list -/
def dInt : D → GH → R D := fun d G => match d with
  | .int i => .ok (.int i) G
  | .bl k => .ok (.int (if k then 1 else 0)) G
  | _ => .no
theorem cb_int {K : PySem.W.Frag} : CbD K (one dInt) (fun xs H Q => (∃ i, xs = [.int i] ∧ Q (.int i) H) ∨ ∃ k, xs = [.bl k] ∧ Q (.int (if k then 1 else 0)) H) := cb_one fun L G H d v W σ Q hr rd q => by
  cases rd with
  | int i => exact .inl ⟨i, rfl, q L H _ (.refl L) hr (.int _)⟩
  | bl k => exact .inr ⟨k, rfl, q L H _ (.refl L) hr (.int _)⟩
  | _ => exact q.elim
theorem xe_int1 (hm : X.mg "int" = none) (ha : xA X W [e] g) (hg : Gl X "int" := by rfl) (he : starEach [e] X.env = (false, eval e X.env) :: starEach [] X.env := by rfl) : xE X W (.Call (.Name "int" p) [e] [] pos) (eCB (one dInt) g) :=
  xe_cty call_int1 cb_int hm (by decide +kernel) ha hg (by decide) (by decide) he rfl
def dTuple : D → GH → R D := fun d G => match d with
  | .tup xs => .ok (.tup xs) G
  | d => match lstOf G d with
    | some xs => .ok (.tup xs) G
    | none => .no
theorem cb_tuple {K : PySem.W.Frag} : CbD K (one dTuple) (fun xs H Q => ∃ p ys, xs = [.ref p] ∧ ((SqL K H p ys ∧ ∀ l, H l = none → Q (.ref l) (upd H l (.tup ys))) ∨ (SqT K H p ys ∧ Q (.ref p) H))) := cb_one fun L G H d v W σ Q hr rd q => by
  have gen : Sat K W L σ (repD K) (match lstOf G d with | some xs => .ok (.tup xs) G | none => .no) Q → ∃ p ys, [v] = [.ref p] ∧ ((SqL K H p ys ∧ ∀ l, H l = none → Q (.ref l) (upd H l (.tup ys))) ∨ (SqT K H p ys ∧ Q (.ref p) H)) := fun q => by
    cases e : lstOf G d with
    | none => rw [e] at q; exact q.elim
    | some xs =>
      rw [e] at q
      obtain ⟨p, vs, rfl, s, t⟩ := lst_rep hr rd e
      exact ⟨p, vs, rfl, .inl ⟨s, fun l hl => let ⟨a, b, c⟩ := put_tup t hr hl; q _ _ _ b a c⟩⟩
  cases d with
  | tup xs =>
    obtain ⟨p, vs, rfl, s, t⟩ := tup_rep hr rd
    exact ⟨p, vs, rfl, .inr ⟨s, q L H _ (.refl L) hr rd⟩⟩
  | _ => exact gen q
theorem xe_tuple (hm : X.mg "tuple" = none) (ha : xA X W [e] g) (hg : Gl X "tuple" := by rfl) (he : starEach [e] X.env = (false, eval e X.env) :: starEach [] X.env := by rfl) : xE X W (.Call (.Name "tuple" p) [e] [] pos) (eCB (one dTuple) g) :=
  xe_cty call_tuple_of cb_tuple hm (by decide +kernel) ha hg (by decide) (by decide) he rfl
/-- tuple(xs) of a list, told as the object -/
def dTupP : D → GH → R D := fun d G => match lstOf G d with
  | some xs => .ok (.pt xs) G
  | none => .no
def rTupP (K : PySem.W.Frag) : List V → Hp → VK → Prop := fun xs H Q => ∃ p ys, xs = [.ref p] ∧ SqL K H p ys ∧ ∀ l o, H l = none → o.dict = none → Q (.ref l) (upd H l (.frz o (.tup ys)))
theorem call_tupP : CallR X (.type "tuple") (rTupP X.K) := by
  intro pins s σ H xs us Q I r ⟨p, ys, ex, hq, q⟩
  subst ex
  obtain ⟨u, rfl, rx⟩ := vals1 r
  cases rx
  obtain ⟨its, r', pl, hz⟩ := I.list hq
  have hlen := r'.length
  refine call_tuple_list pl.isList (fun h' kp => ?_) (by simp only [List.size_toArray] <;> omega)
  have I1 : Inv X pins σ H { s with heap := h' } := I.kept (t' := s.toks) kp
  exact ⟨.ref h'.objs.size, _, I1.laid (o := .frz { cls := .type "tuple", data := .seq its.toArray } (.tup ys)) (t' := s.toks) (fun b o e => Heap.get?_push_of_some _ e) (Nat.le_refl _)
    ⟨Heap.get?_push_size _ rfl, hz, its, r', IsTup.new _ _⟩, rfl, q _ _ (I1.hok.fresh (Nat.le_refl _)) rfl⟩
theorem cb_tupP {K : PySem.W.Frag} : CbD K (one dTupP) (rTupP K) := cb_one fun L G H d v W σ Q hr rd q => by
  unfold dTupP at q
  cases e : lstOf G d with
  | none => rw [e] at q; exact q.elim
  | some xs =>
    rw [e] at q
    obtain ⟨p, vs, rfl, s, t⟩ := lst_rep hr rd e
    exact ⟨p, vs, rfl, s, fun l o hl ho => let ⟨a, b, c⟩ := put_pt t hr hl ho; q _ _ _ b a c⟩
theorem xe_tupleP (hm : X.mg "tuple" = none) (ha : xA X W [e] g) (hg : Gl X "tuple" := by rfl) (he : starEach [e] X.env = (false, eval e X.env) :: starEach [] X.env := by rfl) : xE X W (.Call (.Name "tuple" p) [e] [] pos) (eCB (one dTupP) g) :=
  xe_cty call_tupP cb_tupP hm (by decide +kernel) ha hg (by decide) (by decide) he rfl
/-- max of two ints -/
def dMax2 : List D → GH → R D := fun ds G => match ds with
  | [.int i, .int j] => .ok (.int (if j > i then j else i)) G
  | _ => .no
theorem cb_two {K : PySem.W.Frag} {f : List D → GH → R D} {r : List V → Hp → VK → Prop} (h1 : ∀ ds G, (∀ a b, ds ≠ [a, b]) → f ds G = .no) (h : ∀ (L : Lk) (G : GH) (H : Hp) (a b : D) (v u : V) (W : WX) (σ : St) (Q : VK), HR K L G H → Rep K L.Z L.r a v → Rep K L.Z L.r b u → Sat K W L σ (repD K) (f [a, b] G) Q → r [v, u] H Q) : CbD K f r := fun L G H ds vs W σ Q hr rd q => by
  by_cases hd : ∃ a b, ds = [a, b]
  · obtain ⟨a, b, rfl⟩ := hd
    cases rd with
    | cons r1 t =>
      cases t with
      | cons r2 t =>
        cases t
        exact h L G H a b _ _ W σ Q hr r1 r2 q
  · rw [h1 ds G fun a b e => hd ⟨a, b, e⟩] at q
    exact q.elim
theorem cb_max2 {K : PySem.W.Frag} : CbD K dMax2 (fun xs H Q => ∃ i j, xs = [.int i, .int j] ∧ Q (.int (if j > i then j else i)) H) := cb_two (fun ds G h => by
    unfold dMax2
    split
    · exact absurd rfl (h _ _)
    · rfl) fun L G H a b v u W σ Q hr ra rb q => by
  cases ra with
  | int i =>
    cases rb with
    | int j => exact ⟨i, j, rfl, q L H _ (.refl L) hr (.int _)⟩
    | _ => exact q.elim
  | _ => cases rb <;> exact q.elim
theorem xe_max2 {e2 : Expr} (hc : X.calm = true) (hm : X.mg "max" = none) (ha : xA X W [e, e2] g) (hg : Gl X "max" := by rfl) (he : starEach [e, e2] X.env = (false, eval e X.env) :: starEach [e2] X.env := by rfl) (hpl : (backTo pos (starEach [e2] X.env)).any (·.1) = false := by rfl) : xE X W (.Call (.Name "max" p) [e, e2] [] pos) (eCB dMax2 g) :=
  xe_cb (call_max2 hc) cb_max2 hm (by decide +kernel) ha hg (by decide) (by decide) he hpl
end
end CF
end
section
set_option maxRecDepth 100000
set_option maxHeartbeats 1000000
/-! isinstance, lists that change. -/
namespace CF
open PySem PySem.Spec PyProof.Rows L2

/-- a value's built-in class -/
def tyN (G : GH) : D → Option String
  | .non => some "NoneType"
  | .bl _ => some "bool"
  | .int _ => some "int"
  | .str _ => some "str"
  | .tup _ => some "tuple"
  | .pt _ => some "tuple"
  | .lst _ => some "list"
  | .scr _ => some "list"
  | .dK _ => some "dict"
  | .ref n => match G[n]? with
    | some (.lst _) => some "list"
    | some (.dK _) => some "dict"
    | some (.dT _) => some "dict"
    | _ => none
  | _ => none
@[simp] theorem tyN_non (G : GH) : tyN G .non = some "NoneType" := rfl
@[simp] theorem tyN_bl (G : GH) (x) : tyN G (.bl x) = some "bool" := rfl
@[simp] theorem tyN_int (G : GH) (x) : tyN G (.int x) = some "int" := rfl
@[simp] theorem tyN_str (G : GH) (x) : tyN G (.str x) = some "str" := rfl
@[simp] theorem tyN_tup (G : GH) (x) : tyN G (.tup x) = some "tuple" := rfl
@[simp] theorem tyN_pt (G : GH) (x) : tyN G (.pt x) = some "tuple" := rfl
@[simp] theorem tyN_lst (G : GH) (x) : tyN G (.lst x) = some "list" := rfl
@[simp] theorem tyN_scr (G : GH) (x) : tyN G (.scr x) = some "list" := rfl
@[simp] theorem tyN_dK (G : GH) (x) : tyN G (.dK x) = some "dict" := rfl
theorem tyN_rep {K : PySem.W.Frag} {L : Lk} {G : GH} {H : Hp} {d : D} {v : V} {t : String} (hr : HR K L G H) (h : Rep K L.Z L.r d v) (e : tyN G d = some t) : TyX K H v (.type t) := by
  cases h with
  | non => cases e; exact .base .non
  | bl b => cases e; exact .base (.bl b)
  | int b => cases e; exact .base (.int b)
  | str b => cases e; exact .base (.str b)
  | tup z t =>
    cases e
    rcases z with z | ⟨o, its, n, e1, e2, _⟩
    · exact .base (.tup (hr.z _ _ z).tup)
    · exact .kTuple e1 e2
  | @pt _ o _ _ z k t => cases e; exact .fTuple (hr.z _ _ z).frz
  | lst z t => cases e; exact .base (.lst (hr.z _ _ z).lst)
  | scr z t =>
    cases e
    rcases z with ⟨o, z⟩ | ⟨o, _, _, e1, e2, _⟩
    · exact .base (.frz (hr.z _ _ z).frz)
    · exact .kList e1 e2
  | dK z k t =>
    cases e
    rcases hr.z _ _ z with z | ⟨_, ob, z⟩
    · exact .base (.dK z)
    · exact .fDict z
  | @ref n a q =>
    have hn : n < G.length := by rw [← hr.len]; exact (List.getElem?_eq_some_iff.mp q).1
    have c := hr.cell n a G[n] q (by simp [hn])
    have e' : (match G[n]? with | some (.lst _) => some "list" | some (.dK _) => some "dict" | some (.dT _) => some "dict" | _ => none) = some t := e
    rw [List.getElem?_eq_getElem hn] at e'
    cases k : G[n] with
    | lst xs =>
      rw [k] at e' c; cases e'
      cases c with
      | lst h t => exact .base (.lst h)
    | dK xs =>
      rw [k] at e' c; cases e'
      cases c with
      | dK h k t => exact .base (.dK h)
    | dT xs =>
      rw [k] at e' c; cases e'
      cases c with
      | dT h k t => exact .base (.dT h)
    | _ => rw [k] at e'; cases e'
  | _ => cases e
/-- isinstance(x, T) -/
def isiB (t T : String) : Option Bool := if t = "NoneType" then (if T = "NoneType" then some true else some false) else
  if t = T then some true else some (t == "bool" && T == "int")
def tyOk : List String := ["int", "str", "bool", "tuple", "list", "dict"]
theorem isi_kit : ∀ t ∈ ["NoneType", "bool", "int", "str", "tuple", "list", "dict"], ∀ T ∈ tyOk, kitB t T = isiB t T := by decide +kernel
def dIsi (T : String) : D → GH → R D := fun d G => match tyN G d with
  | some t => (match isiB t T with
    | some b => .ok (.bl b) G
    | none => .no)
  | none => .no
theorem tyN_mem {G : GH} {d : D} {t : String} (e : tyN G d = some t) : t ∈ ["NoneType", "bool", "int", "str", "tuple", "list", "dict"] := by
  unfold tyN at e
  split at e <;> first
    | (cases e; simp; done)
    | (cases e; done)
    | (split at e <;> first
      | (cases e; simp)
      | cases e)
section
variable {X : Cx} {W : WX} {pos p p2 : Pos} {e : Expr} {f : FE} {T : String} {x : Str}
def eOne (f : FE) (k : D → GH → R D) : FE := fun δ G => (f δ G).bind k
theorem xe_isi (hT : T ∈ tyOk) (hv : bootBuiltins x = some (.type T)) (hm : X.mg "isinstance" = none) (hmx : X.mg x = none) (hx : x ≠ "__name__") (hdx : (x == ("__debug__" : Str)) = false) (ha : xE X W e f) (hg : Gl X "isinstance" := by rfl) (hgx : Gl X x := by rfl)
    (he : starEach [e, .Name x p2] X.env = (false, eval e X.env) :: starEach [.Name x p2] X.env := by rfl) (he2 : starEach [.Name x p2] X.env = (false, eval (.Name x p2) X.env) :: starEach [] X.env := by rfl) (hpl : (backTo pos (starEach [.Name x p2] X.env)).any (·.1) = false := by rfl) :
    xE X W (.Call (.Name "isinstance" p) [e, .Name x p2] [] pos) (eOne f (dIsi T)) :=
  PEimp (pe_callB call_isi hg hm (by decide +kernel) (pa_cons ha (pa_cons (pe_bltn hgx hmx hv (v := .ty T) rfl hx hdx) pa_nil he2) he) (by decide) (by decide) he hpl) fun σ H Q ⟨L, δ, G, hr, er, q⟩ =>
    Sat.bind (rep' := repD X.K) hr er q fun L1 G1 H1 d v le hr1 er1 rd q1 => by
      unfold dIsi at q1
      cases e1 : tyN G1 d with
      | none => rw [e1] at q1; exact q1.elim
      | some t =>
        rw [e1] at q1
        dsimp only at q1
        cases e2 : isiB t T with
        | none => rw [e2] at q1; exact q1.elim
        | some b =>
          rw [e2] at q1
          exact ⟨v, .ty T, .type t, .type T, b, rfl, .ty T, tyN_rep hr1 rd e1, kit_ty ((isi_kit t (tyN_mem e1) T hT).trans e2), q1 L1 H1 _ (.refl _) hr1 (.bl b)⟩
end

/-! ### methods of lists -/
/-- what a method tells, by values; x: the object -/
abbrev FM := D → List D → GH → R D
def MtD (K : PySem.W.Frag) (f : FM) (r : V → List V → Hp → VK → Prop) : Prop := ∀ (L : Lk) (G : GH) (H : Hp) (d : D) (v : V) (ds : List D) (vs : List V) (W : WX) (σ : St) (Q : VK), HR K L G H → Rep K L.Z L.r d v → Reps K L.Z L.r ds vs → Sat K W L σ (repD K) (f d ds G) Q → r v vs H Q
def tyM (T : String) (G : GH) (d : D) : Bool := match d with
  | .str _ => T == "str"
  | .int _ => T == "int"
  | d => match lstOf G d with
    | some _ => T == "list"
    | none => match d with
      | .ref n => match G[n]? with
        | some (.dK _) => T == "dict"
        | some (.dT _) => T == "dict"
        | _ => false
      | _ => false
theorem tyM_rep {K : PySem.W.Frag} {L : Lk} {G : GH} {H : Hp} {d : D} {v : V} {T : String} (hr : HR K L G H) (h : Rep K L.Z L.r d v) (e : tyM T G d = true) : tyV K T v H := by
  have gen : ∀ xs, lstOf G d = some xs → (T == "list") = true → tyV K T v H := fun xs e1 e2 => by
    obtain ⟨p, vs, rfl, s, t⟩ := lst_rep hr h e1
    exact .inl ⟨eq_of_beq e2, vs, s⟩
  cases h with
  | str x => exact eq_of_beq e
  | int x => exact eq_of_beq e
  | lst z t => exact gen _ rfl e
  | scr z t => exact gen _ rfl e
  | @ref n a q =>
    have hn : n < G.length := by rw [← hr.len]; exact (List.getElem?_eq_some_iff.mp q).1
    have c := hr.cell n a G[n] q (by simp [hn])
    unfold tyM at e
    dsimp only at e
    cases e1 : lstOf G (.ref n) with
    | some xs => rw [e1] at e; exact gen xs e1 e
    | none =>
      rw [e1] at e
      dsimp only at e
      rw [List.getElem?_eq_getElem hn] at e
      cases k : G[n] with
      | dK xs =>
        rw [k] at e c
        cases c with
        | dK h k t => exact .inr (.inr (.inl ⟨eq_of_beq e, .inl ⟨_, h⟩⟩))
      | dT xs =>
        rw [k] at e c
        cases c with
        | dT h k t => exact .inr (.inr (.inl ⟨eq_of_beq e, .inr ⟨_, h⟩⟩))
      | _ => rw [k] at e; cases e
  | _ => cases e
def eMt (T : String) (f : FM) (o : FE) (g : FA) : FE := fun δ G => (o δ G).bind fun d G1 => if tyM T G1 d then (g δ G1).bind fun ds G2 => f d ds G2 else .no
def eMt0 (T : String) (f : FM) (o : FE) : FE := fun δ G => (o δ G).bind fun d G1 => if tyM T G1 d then f d [] G1 else .no
section
variable {X : Cx} {W : WX} {pos apos cpos : Pos} {o e : Expr} {es : List Expr} {fo : FE} {g : FA} {f : FM} {T id : String} {name : Str} {r : V → List V → Hp → VK → Prop}
theorem xe_mt (pa : PlainAttrs T) (slot : Slot T name id) (hty : typeOf (.builtin id) = pure (.type "method_descriptor")) (hm : MtR X id r) (hd : MtD X.K f r) (ho : xE X W o fo) (ha : xA X W (e :: es) g)
    (hbase : attributeBase o name X.env (eval o X.env) = eval o X.env := by rfl)
    (hfew : ((backTo cpos (starEach (e :: es) X.env)).all (fun x => !x.1) && (backToKw cpos (keywordEach [] X.env)).all (fun x => x.1.isSome)
      && decide ((e :: es).length + ([] : List Keyword).length + (if ([] : List Keyword).isEmpty then 0 else 1) < 30)) = true := by rfl)
    (hline : (apos.endLine == cpos.line) = true := by rfl) (hs : starEach (e :: es) X.env = (false, eval e X.env) :: starEach es X.env := by rfl) (hplain : (backTo cpos (starEach es X.env)).any (·.1) = false := by rfl) :
    xE X W (.Call (.Attribute o name apos) (e :: es) [] cpos) (eMt T f fo g) :=
  PEimp (pe_bm pa slot hty hm ho ha hbase hfew hline hs hplain) fun σ H Q ⟨L, δ, G, hr, er, q⟩ => Sat.bind (rep' := repD X.K) hr er q fun L1 G1 H1 d v le hr1 er1 rd q1 => by
    by_cases ht : tyM T G1 d = true
    · rw [if_pos ht] at q1
      exact ⟨tyM_rep hr1 rd ht, Sat.bind (rep' := repD X.K) hr1 er1 q1 fun L2 G2 H2 ds vs le2 hr2 er2 rds q2 => hd L2 G2 H2 d v ds vs W σ Q hr2 (rd.mono le2) rds q2⟩
    · rw [if_neg ht] at q1; exact q1.elim
theorem xe_mt0 (pa : PlainAttrs T) (slot : Slot T name id) (hty : typeOf (.builtin id) = pure (.type "method_descriptor")) (hm : MtR X id r) (hd : MtD X.K f r) (ho : xE X W o fo)
    (hbase : attributeBase o name X.env (eval o X.env) = eval o X.env := by rfl) (hline : (apos.endLine == cpos.line) = true := by rfl) : xE X W (.Call (.Attribute o name apos) [] [] cpos) (eMt0 T f fo) :=
  PEimp (pe_bm0 pa slot hty hm ho hbase hline) fun σ H Q ⟨L, δ, G, hr, er, q⟩ => Sat.bind (rep' := repD X.K) hr er q fun L1 G1 H1 d v le hr1 er1 rd q1 => by
    by_cases ht : tyM T G1 d = true
    · rw [if_pos ht] at q1
      exact ⟨tyM_rep hr1 rd ht, hd L1 G1 H1 d v [] [] W σ Q hr1 rd .nil q1⟩
    · rw [if_neg ht] at q1; exact q1.elim
end
section
variable {K : PySem.W.Frag} {L : Lk} {G : GH} {H : Hp} {v : V}
/-- a list that changes -/
def celL (G : GH) : D → Option (Nat × List D)
  | .ref n => match G[n]? with
    | some (.lst xs) => some (n, xs)
    | _ => none
  | _ => none
@[simp] theorem celL_ref (G : GH) (n : Nat) : celL G (.ref n) = match G[n]? with | some (.lst xs) => some (n, xs) | _ => none := rfl
theorem celL_rep (hr : HR K L G H) {d : D} (h : Rep K L.Z L.r d v) {n : Nat} {xs : List D} (e : celL G d = some (n, xs)) : ∃ a vs, v = .ref a ∧ L.r[n]? = some a ∧ H a = some (.lst vs) ∧ Reps K L.Z L.r xs vs := by
  cases h with
  | @ref m a q =>
    have e' : (match G[m]? with | some (.lst xs) => some (m, xs) | _ => none) = some (n, xs) := e
    cases k : G[m]? with
    | none => rw [k] at e'; cases e'
    | some c =>
      rw [k] at e'
      cases c with
      | lst ys =>
        cases e'
        have c := hr.cell _ a _ q k
        cases c with
        | lst h t => exact ⟨a, _, rfl, q, h, t⟩
      | _ => cases e'
  | _ => cases e
theorem HR.setL (hr : HR K L G H) {n : Nat} {a : Addr} {ys : List D} {us : List V} (q : L.r[n]? = some a) (t : Reps K L.Z L.r ys us) : HR K L (G.set n (.lst ys)) (upd H a (.lst us)) := hr.set q (.lst upd_same t)
def mAppend : FM := fun d ds G => match celL G d, ds with
  | some (n, xs), [y] => if xs.length < sizeLine then .ok .non (G.set n (.lst (xs ++ [y]))) else .no
  | _, _ => .no
theorem md_append : MtD K mAppend rAppend := fun L G H d v ds vs W σ Q hr rd rds q => by
  unfold mAppend at q
  cases e : celL G d with
  | none => rw [e] at q; exact q.elim
  | some nx =>
    obtain ⟨n, xs⟩ := nx
    rw [e] at q
    cases rds with
    | nil => exact q.elim
    | cons ry t =>
      cases t with
      | cons _ _ => exact q.elim
      | nil =>
        dsimp only at q
        obtain ⟨a, us, rfl, q1, q2, q3⟩ := celL_rep hr rd e
        by_cases hl : xs.length < sizeLine
        · rw [if_pos hl] at q
          exact ⟨a, us, _, rfl, rfl, q2, by rw [← q3.length]; exact hl, q L _ _ (.refl _) (hr.setL q1 (q3.append (.cons ry .nil))) .non⟩
        · rw [if_neg hl] at q; exact q.elim
def mExtend : FM := fun d ds G => match celL G d, ds with
  | some (n, xs), [y] => (match lstX G y with
    | some zs => if xs.length + zs.length ≤ sizeLine then .ok .non (G.set n (.lst (xs ++ zs))) else .no
    | none => .no)
  | _, _ => .no
theorem md_extend : MtD K mExtend rExtend := fun L G H d v ds vs W σ Q hr rd rds q => by
  unfold mExtend at q
  cases e : celL G d with
  | none => rw [e] at q; exact q.elim
  | some nx =>
    obtain ⟨n, xs⟩ := nx
    rw [e] at q
    cases rds with
    | nil => exact q.elim
    | @cons y u _ _ ry t =>
      cases t with
      | cons _ _ => exact q.elim
      | nil =>
        dsimp only at q
        cases e2 : lstX G y with
        | none => rw [e2] at q; exact q.elim
        | some zs =>
          rw [e2] at q
          obtain ⟨a, us, rfl, q1, q2, q3⟩ := celL_rep hr rd e
          obtain ⟨b, ws, rfl, q4, q5⟩ := lstX_rep hr ry e2
          dsimp only at q
          by_cases hl : xs.length + zs.length ≤ sizeLine
          · rw [if_pos hl] at q
            exact ⟨a, b, us, ws, rfl, rfl, q2, q4, by rw [← q3.length, ← q5.length]; exact hl, q L _ _ (.refl _) (hr.setL q1 (q3.append q5)) .non⟩
          · rw [if_neg hl] at q; exact q.elim
theorem Reps.dropLast {Z : Hp} {r : List Addr} {ds : List D} {vs : List V} (h : Reps K Z r ds vs) : Reps K Z r ds.dropLast vs.dropLast := by
  rw [List.dropLast_eq_take, List.dropLast_eq_take, h.length]; exact h.take _
def mPop : FM := fun d ds G => match celL G d, ds with
  | some (n, xs), [] => (match xs[xs.length - 1]? with
    | some y => .ok y (G.set n (.lst xs.dropLast))
    | none => .no)
  | _, _ => .no
theorem md_pop : MtD K mPop rPop := fun L G H d v ds vs W σ Q hr rd rds q => by
  unfold mPop at q
  cases e : celL G d with
  | none => rw [e] at q; exact q.elim
  | some nx =>
    obtain ⟨n, xs⟩ := nx
    rw [e] at q
    cases rds with
    | cons _ _ => exact q.elim
    | nil =>
      dsimp only at q
      obtain ⟨a, us, rfl, q1, q2, q3⟩ := celL_rep hr rd e
      cases e2 : xs[xs.length - 1]? with
      | none => rw [e2] at q; exact q.elim
      | some y =>
        rw [e2] at q
        obtain ⟨u, e3, ru⟩ := q3.get e2
        exact ⟨a, us, u, rfl, rfl, q2, by rw [← q3.length]; exact e3, q L _ _ (.refl _) (hr.setL q1 q3.dropLast) ru⟩
def mPopAt : FM := fun d ds G => match celL G d, ds with
  | some (n, xs), [.int i] => (match ixN xs.length i with
    | some k => (match xs[k]? with
      | some y => if xs.length < 2 ^ 62 then .ok y (G.set n (.lst (xs.eraseIdx k))) else .no
      | none => .no)
    | none => .no)
  | _, _ => .no
theorem md_popAt : MtD K mPopAt rPopAt := fun L G H d v ds vs W σ Q hr rd rds q => by
  unfold mPopAt at q
  cases e : celL G d with
  | none => rw [e] at q; exact q.elim
  | some nx =>
    obtain ⟨n, xs⟩ := nx
    rw [e] at q
    cases rds with
    | nil => exact q.elim
    | @cons y u _ _ ry t =>
      cases ry with
      | int i =>
        cases t with
        | cons _ _ => exact q.elim
        | nil =>
          dsimp only at q
          obtain ⟨a, us, rfl, q1, q2, q3⟩ := celL_rep hr rd e
          cases e1 : ixN xs.length i with
          | none => rw [e1] at q; exact q.elim
          | some k =>
            rw [e1] at q
            dsimp only at q
            cases e2 : xs[k]? with
            | none => rw [e2] at q; exact q.elim
            | some y =>
              rw [e2] at q
              dsimp only at q
              by_cases hl : xs.length < 2 ^ 62
              · rw [if_pos hl] at q
                obtain ⟨u, e3, ru⟩ := q3.get e2
                obtain ⟨h1, h2, h3, h4⟩ := ixN_seq e1
                exact ⟨a, us, i, k, u, rfl, rfl, q2, by omega, by omega, by rw [← q3.length]; exact h1, e3, q L _ _ (.refl _) (hr.setL q1 (q3.eraseIdx k)) ru⟩
              · rw [if_neg hl] at q; exact q.elim
      | _ => cases t <;> exact q.elim
def mReverse : FM := fun d ds G => match celL G d, ds with
  | some (n, xs), [] => .ok .non (G.set n (.lst xs.reverse))
  | _, _ => .no
theorem md_reverse : MtD K mReverse rReverse := fun L G H d v ds vs W σ Q hr rd rds q => by
  unfold mReverse at q
  cases e : celL G d with
  | none => rw [e] at q; exact q.elim
  | some nx =>
    obtain ⟨n, xs⟩ := nx
    rw [e] at q
    cases rds with
    | cons _ _ => exact q.elim
    | nil =>
      dsimp only at q
      obtain ⟨a, us, rfl, q1, q2, q3⟩ := celL_rep hr rd e
      exact ⟨a, us, rfl, rfl, q2, q L _ _ (.refl _) (hr.setL q1 q3.reverse) .non⟩
end
theorem MtM.r {X : Cx} {id : String} {r : V → List V → Hp → VK → Prop} (h : MtM X id r) : MtR X id r := h
section
variable {X : Cx} {W : WX} {pos apos cpos : Pos} {o e : Expr} {fo : FE} {g : FA}
theorem xe_append (ho : xE X W o fo) (ha : xA X W [e] g) (hbase : attributeBase o "append" X.env (eval o X.env) = eval o X.env := by rfl)
    (hfew : ((backTo cpos (starEach [e] X.env)).all (fun x => !x.1) && (backToKw cpos (keywordEach [] X.env)).all (fun x => x.1.isSome) && decide ([e].length + ([] : List Keyword).length + (if ([] : List Keyword).isEmpty then 0 else 1) < 30)) = true := by rfl)
    (hline : (apos.endLine == cpos.line) = true := by rfl) (hs : starEach [e] X.env = (false, eval e X.env) :: starEach [] X.env := by rfl) : xE X W (.Call (.Attribute o "append" apos) [e] [] cpos) (eMt "list" mAppend fo g) :=
  xe_mt PySem.F.plainAttrs_list PySem.F.slot_list_append PySem.F.type_list_append (MtM.r mt_append) md_append ho ha hbase hfew hline hs rfl
theorem xe_extend (ho : xE X W o fo) (ha : xA X W [e] g) (hbase : attributeBase o "extend" X.env (eval o X.env) = eval o X.env := by rfl)
    (hfew : ((backTo cpos (starEach [e] X.env)).all (fun x => !x.1) && (backToKw cpos (keywordEach [] X.env)).all (fun x => x.1.isSome) && decide ([e].length + ([] : List Keyword).length + (if ([] : List Keyword).isEmpty then 0 else 1) < 30)) = true := by rfl)
    (hline : (apos.endLine == cpos.line) = true := by rfl) (hs : starEach [e] X.env = (false, eval e X.env) :: starEach [] X.env := by rfl) : xE X W (.Call (.Attribute o "extend" apos) [e] [] cpos) (eMt "list" mExtend fo g) :=
  xe_mt PySem.F.plainAttrs_list PySem.F.slot_list_extend PySem.F.type_list_extend (MtM.r mt_extend) md_extend ho ha hbase hfew hline hs rfl
theorem xe_popAt (ho : xE X W o fo) (ha : xA X W [e] g) (hbase : attributeBase o "pop" X.env (eval o X.env) = eval o X.env := by rfl)
    (hfew : ((backTo cpos (starEach [e] X.env)).all (fun x => !x.1) && (backToKw cpos (keywordEach [] X.env)).all (fun x => x.1.isSome) && decide ([e].length + ([] : List Keyword).length + (if ([] : List Keyword).isEmpty then 0 else 1) < 30)) = true := by rfl)
    (hline : (apos.endLine == cpos.line) = true := by rfl) (hs : starEach [e] X.env = (false, eval e X.env) :: starEach [] X.env := by rfl) : xE X W (.Call (.Attribute o "pop" apos) [e] [] cpos) (eMt "list" mPopAt fo g) :=
  xe_mt PySem.F.plainAttrs_list PySem.F.slot_list_pop PySem.F.type_list_pop (MtM.r mt_popAt) md_popAt ho ha hbase hfew hline hs rfl
theorem xe_pop (ho : xE X W o fo) (hbase : attributeBase o "pop" X.env (eval o X.env) = eval o X.env := by rfl) (hline : (apos.endLine == cpos.line) = true := by rfl) : xE X W (.Call (.Attribute o "pop" apos) [] [] cpos) (eMt0 "list" mPop fo) :=
  xe_mt0 PySem.F.plainAttrs_list PySem.F.slot_list_pop PySem.F.type_list_pop (MtM.r mt_pop) md_pop ho hbase hline
theorem xe_reverse (ho : xE X W o fo) (hbase : attributeBase o "reverse" X.env (eval o X.env) = eval o X.env := by rfl) (hline : (apos.endLine == cpos.line) = true := by rfl) : xE X W (.Call (.Attribute o "reverse" apos) [] [] cpos) (eMt0 "list" mReverse fo) :=
  xe_mt0 PySem.F.plainAttrs_list PySem.F.slot_list_reverse PySem.F.type_list_reverse (MtM.r mt_reverse) md_reverse ho hbase hline

/-! ### xs[i] = e -/
def sSetI (fo fi f : FE) : FS := fun δ G => (f δ G).thn δ fun d G1 => (fo δ G1).thn δ fun o G2 => (fi δ G2).thn δ fun i G3 => match celL G3 o, i with
  | some (n, xs), .int z => (match ixN xs.length z with
    | some j => .nx δ (G3.set n (.lst (xs.set j d)))
    | none => .no)
  | _, _ => .no
theorem xs_setI {i : Expr} {fi f : FE} (he : xE X W e f) (ho : xE X W o fo) (hi : xE X W i fi) (ha : ∀ v, assign (.Subscript o i apos) X.env v = (do
      let ov ← holding [v] (eval o X.env)
      let iv ← holding [v, ov] (eval i X.env)
      standAt apos
      holding [v, ov, iv] (setItem ov iv v)
      release [v, ov, iv] []) := by intro _; rfl) (hs : swapsWithSole [.Subscript o i apos] e pos.line X.env = pure false := by rfl) (hw : swappedStores [.Subscript o i apos] e X.env = pure none := by rfl)
    (h1 : (assignEach [.Subscript o i apos] X.env).map (·.2) = [assign (.Subscript o i apos) X.env] := by rfl) : xS X W (.Assign [.Subscript o i apos] e pos) (sSetI fo fi f) :=
  PSimp (ps_asg he (pg_sub ho hi set_list ha) hs hw h1) fun E σ H ⟨L, δ, G, hr, er, q⟩ => Sat.thn hr er q fun L1 G1 H1 d v le hr1 er1 rd q1 =>
    Sat.thn hr1 er1 q1 fun L2 G2 H2 od ov le2 hr2 er2 ro q2 => Sat.thn hr2 er2 q2 fun L3 G3 H3 id iv le3 hr3 er3 ri q3 => by
      cases e1 : celL G3 od with
      | none => rw [e1] at q3; exact q3.elim
      | some nx =>
        obtain ⟨n, xs⟩ := nx
        rw [e1] at q3
        have ri' : Rep X.K L3.Z L3.r id iv := ri
        cases ri' with
        | int z =>
          dsimp only at q3
          cases e2 : ixN xs.length z with
          | none => rw [e2] at q3; exact q3.elim
          | some j =>
            rw [e2] at q3
            obtain ⟨a, us, rfl, r1, r2, r3⟩ := celL_rep hr3 (Rep.mono le3 ro) e1
            exact ⟨a, us, z, j, rfl, rfl, r2, by rw [← r3.length]; exact e2, q3 L3 σ _ (.refl _) (hr3.setL r1 (r3.set (Rep.mono le3 (Rep.mono le2 rd)) j)) er3⟩
        | _ => exact q3.elim

/-! ### xs += ys -/
def sAugE (i : Nat) (f : FE) : FS := fun δ G => match δ[i]? with
  | some (some x) => (f δ G).thn δ fun y G1 => (match celL G1 x, lstX G1 y with
    | some (n, xs), some ys => if xs.length + ys.length ≤ sizeLine then .nx (δ.set i (some x)) (G1.set n (.lst (xs ++ ys))) else .no
    | _, _ => .no)
  | _ => .no
theorem xs_augE {i : Nat} {x : Str} {f : FE} {pos' : Pos} (hN : X.N.Nodup) (hi : X.N[i]? = some x) (hx : Loc X.env.scope x) (he : xE X W e f) (hf : X.fn x = true ∨ X.env.scope.names.lookup x = some .local := by first | exact .inl rfl | exact .inr rfl | assumption) :
    xS X W (.AugAssign (.Name x pos') .Add e pos) (sAugE i f) :=
  PSimp (ps_aug hN hi hx he (ti := rExt2) iop_ext hf) fun E σ H ⟨L, δ, G, hr, er, q⟩ => by
    unfold sAugE at q
    split at q
    · rename_i x e0
      obtain ⟨v, e1, rv⟩ := er.2 i x e0
      refine ⟨v, e1, Sat.thn hr er q fun L1 G1 H1 d u le hr1 er1 rd q1 => ?_⟩
      cases e2 : celL G1 x with
      | none => rw [e2] at q1; exact q1.elim
      | some nx =>
        obtain ⟨n, xs⟩ := nx
        cases e3 : lstX G1 d with
        | none => rw [e2, e3] at q1; exact q1.elim
        | some ys =>
          rw [e2, e3] at q1
          dsimp only at q1
          obtain ⟨a, us, rfl, r1, r2, r3⟩ := celL_rep hr1 (Rep.mono le rv) e2
          obtain ⟨b, ws, rfl, r4, r5⟩ := lstX_rep hr1 rd e3
          by_cases hl : xs.length + ys.length ≤ sizeLine
          · rw [if_pos hl] at q1
            exact ⟨a, b, us, ws, rfl, rfl, r2, r4, by rw [← r3.length, ← r5.length]; exact hl, q1 L1 _ _ (.refl _) (hr1.setL r1 (r3.append r5)) (er1.set i (Rep.mono le rv))⟩
          · rw [if_neg hl] at q1; exact q1.elim
    · exact q.elim
end
end CF
end
section
set_option maxRecDepth 100000
set_option maxHeartbeats 1000000
/-! sorted. -/
namespace CF
open PySem PySem.Spec PySem.SeqAt PySem.W PyProof.Rows L2 SeqAt

/-- all tuples, an empty one first -/
def RootFirst (ds : List PyData) : Prop := (∃ r, ds = .tuple [] :: r) ∧ ∀ d ∈ ds, ∃ xs, d = .tuple xs
def SortOk (ds : List PyData) : Prop := PySem.W.AllAlike ds ∧ (PySem.W.Sortable ds ∨ RootFirst ds) ∧ ∀ d ∈ ds, d.depth ≤ 60

section
variable {prog : Program} {w : World} {A : Around} {E : Value → Shared → Prop} {s : Shared}
theorem call_tuple_lt {Q : Value → Shared → Prop} {l b : Addr} {items items2 : Array Value} {e r : Nat → Bool} (hl : s.heap.IsTuple l items) (hb : s.heap.IsTuple b items2)
    (he : ∀ j (h1 : j < items.size) (h2 : j < items2.size), EqAt A.in1 s items[j] items2[j] (e j)) (hr : ∀ j (h1 : j < items.size) (h2 : j < items2.size), e j = false → RcLt A.in1 s items[j] items2[j] (r j))
    (h : Q (.bool (firstLt e r (decide (items.size < items2.size)) (List.range (min items.size items2.size)))) s) : wpAny (model prog w) A (call (.builtin "tuple.__lt__") [.ref l, .ref b]) Q E s := by
  obtain ⟨⟨cls, dd, data, sl⟩, ho, hc, n, hd⟩ := id hl
  obtain ⟨⟨cls2, dd2, data2, sl2⟩, ho2, hc2, n2, hd2⟩ := id hb
  simp only at hc hd hc2 hd2
  subst hc hd hc2 hd2
  exact call_meets F.slot_tuple_lt ⟨_, ho, rfl⟩ F.entry_tuple_lt (F.args_tuple_lt_2 _ _) (tuple_ltAt l b items items2 n n2 dd dd2 sl sl2 e r) ⟨ho, ho2, he, hr, h⟩
theorem oneLt_tup {xs ys : List PyData} {a b : Value} {as bs : List Addr} {Q : Bool → Shared → Prop} (ra : Reads s.heap a (.tuple xs) as) (rb : Reads s.heap b (.tuple ys) bs) (hal : PySem.W.alikeAll xs ys = true)
    (hu : A.units + min (PyData.tuple xs).depth (PyData.tuple ys).depth < cLine) (hq : Q (PySem.W.dataLt (.tuple xs) (.tuple ys)) s) : wpAny (model prog w) A (oneLt' true a b) Q E s := by
  cases ra with
  | @tuple l o vs n _ as₁ h1 h2 h3 h4 =>
    cases rb with
    | @tuple l' o' vs' n' _ bs₁ k1 k2 k3 k4 =>
      have n1 : vs.size = xs.length := by simpa using ReadsAll.length _ _ _ h4
      have n2 : vs'.size = ys.length := by simpa using ReadsAll.length _ _ _ k4
      rw [PySem.W.dataLt_tuple, ← PySem.W.firstLt_toks xs ys hal, ← n1, ← n2] at hq
      rw [oneLt'_eq]
      simp only [if_true]
      refine wpAny_bind (wpAny_cRoomFor (room_here hu) ?_)
      refine wpAny_bind (wpAny_callSpecialIfBound?_slot (T := "tuple") ⟨_, h1, h2⟩ F.slot_tuple_lt (call_tuple_lt (e := pairEq xs ys) (r := fun j => PySem.W.dataLt (xs.getD j .none) (ys.getD j .none)) ⟨_, h1, h2, _, h3⟩ ⟨_, k1, k2, _, k3⟩ (fun j j1 j2 => ?_) (fun j j1 j2 hj => ?_) ?_))
      · have := PySem.W.eqAt_alikeAll xs ys A.in1 s vs.toList vs'.toList _ _ h4 k4 hal (room_in hu) j (by simpa using j1) (by simpa using j2)
        simpa using this
      · have := PySem.W.rcLt_alikeAll xs ys A.in1 s vs.toList vs'.toList _ _ h4 k4 hal (room_in hu) j (by simpa using j1) (by simpa using j2) hj
        simpa using this
      · exact wpAny_truthy_bool hq
theorem mapM_some {M : Model} {α β : Type} {f : α → Sem β} (P : α → β → Prop) : ∀ (l : List α) {Q : List β → Shared → Prop}, (∀ v ∈ l, ∃ r, P v r ∧ ∀ (Q' : β → Shared → Prop), Q' r s → wpAny M A (f v) Q' E s) →
    (∀ rs : List β, PySem.W.EachIs P l rs → Q rs s) → wpAny M A (l.mapM f) Q E s
  | [], _, _, h => by rw [List.mapM_nil]; exact wpAny_pure (h [] .nil)
  | x :: l, Q, hf, h => by
    rw [List.mapM_cons]
    obtain ⟨r, p, k⟩ := hf x (.head _)
    exact wpAny_bind (k _ (wpAny_bind (mapM_some P l (Q := fun bs s' => wpAny M A (pure (r :: bs)) Q E s') (fun v hv => hf v (.tail _ hv)) fun rs e => wpAny_pure (h _ (.cons p e)))))
end
section
variable {prog : Program} {w : World} {A : Around} {E : Value → Shared → Prop} {s : Shared}
theorem root_kind {vs : List Value} {ds : List PyData} (e : PySem.W.EachIs (fun v d => ∃ as, Reads s.heap v d as) vs ds) (h0 : RootFirst ds) (h2 : 2 ≤ vs.length) {Q : SortKind → Shared → Prop} (hq : Q oneType' s) : wpAny (model prog w) A (keyKind' vs.toArray) Q E s := by
  obtain ⟨⟨r, rfl⟩, ht⟩ := h0
  cases e with
  | @cons v _ vs _ h1 t =>
    have hall : ∀ u ∈ v :: vs, ∃ xs as, Reads s.heap u (.tuple xs) as := fun u hu => by
      obtain ⟨d, hd, as, q⟩ := (PySem.W.EachIs.cons h1 t).left u hu
      obtain ⟨xs, rfl⟩ := ht d hd
      exact ⟨xs, as, q⟩
    rw [kat_kind_eq, List.mapM_toArray, map_eq_pure_bind]
    refine wpAny_bind (wpAny_bind (mapM_some (fun u r => u = v → r = none) (v :: vs) (fun u hu => ?_) fun rs q => wpAny_pure ?_))
    · obtain ⟨xs, as, q⟩ := hall u hu
      cases q with
      | @tuple l o its n _ _ a1 a2 a3 a4 =>
        refine ⟨its[0]?, fun e => ?_, fun Q' hq' => ?_⟩
        · subst e
          obtain ⟨as0, q0⟩ := h1
          cases q0 with
          | tuple b1 b2 b3 b4 =>
            rw [a1] at b1; cases b1
            rw [a3] at b3; cases b3
            have := ReadsAll.length _ _ _ b4
            have hz : its.size = 0 := by simpa using this
            simp [hz]
        · rw [kas_first_eq]
          refine wpAny_bind (Looks.here (show Looks (model prog w) s.heap (typeOf (.ref l)) o.cls from (Looks.ld a1).andThen .now) ?_)
          rw [a2, if_neg (by first | decide | simp)]
          exact wpAny_bind (listItems_at a1 a3 (wpAny_pure hq'))
    · cases q with
      | @cons _ r0 _ rs h3 t3 =>
        have e0 := h3 rfl
        subst e0
        rw [if_neg (by simp), if_neg (by simp)]
        rw [oneTypeOnly'_eq, List.mapM_toArray, map_eq_pure_bind]
        refine wpAny_bind (wpAny_bind (wpAny_bind (kas_mapM (r := Value.type "tuple") _ (fun u hu Q' hq' => ?_) (wpAny_pure ?_))))
        · obtain ⟨xs, as, q⟩ := hall u hu
          exact (PySem.W.looks_reads q).here hq'
        · have hall2 : ((List.map (fun _ => Value.type "tuple") (v :: vs)).toArray.all fun x => x == Value.type "tuple") = true := by
            simp only [List.all_toArray, List.all_map, List.all_eq_true]
            intro _ _
            rfl
          have h00 : (List.map (fun _ => Value.type "tuple") (v :: vs)).toArray[0]? = some (Value.type "tuple") := by simp
          rw [h00]
          simp only [hall2, if_true]
          exact wpAny_pure (wpAny_pure hq)
theorem sortsAt {vs : List Value} {ds : List PyData} (e : PySem.W.EachIs (fun v d => ∃ as, Reads s.heap v d as) vs ds) (hal : PySem.W.AllAlike ds) (hk : PySem.W.Sortable ds ∨ RootFirst ds) (hu : ∀ d, d ∈ ds → A.units + d.depth < cLine) :
    PySem.W.SortsAt prog w A s (PySem.W.dataKind s.heap ds) vs := by
  rcases hk with hk | hk
  · exact PySem.W.SortsAt.data e hal hk hu
  · refine ⟨fun v hv => ?_, oneType', ?_, fun h2 E Q hq => root_kind e hk h2 hq⟩
    · obtain ⟨d, hd, as, r⟩ := e.left v hv
      exact ⟨_, PySem.W.dataKind_some hal hd r⟩
    · intro E x y a b Q ha hb hq
      obtain ⟨d, as, hd, ra, rfl⟩ := PySem.W.dataKind_inv ha
      obtain ⟨d', as', hd', rb, rfl⟩ := PySem.W.dataKind_inv hb
      rw [keyLt'_oneType]
      obtain ⟨xs, rfl⟩ := hk.2 d hd
      obtain ⟨ys, rfl⟩ := hk.2 d' hd'
      have h3 := hal _ hd _ hd'
      exact oneLt_tup ra rb (by simpa [PySem.W.alike] using h3) (Nat.lt_of_le_of_lt (Nat.add_le_add_left (Nat.min_le_left _ _) _) (hu _ hd)) hq
/-- sorted(xs) -/
theorem sorted_dat {β : Type} {vs : List Value} {bs : List β} {enc : β → PyData} {R : Value → β → Prop} {l : Addr} {Q : Value → Shared → Prop} (hl : s.heap.IsList l vs.toArray) (e : PySem.W.EachIs R vs bs) (er : PySem.W.EachIs (fun v b => ∃ as, Reads s.heap v (enc b) as) vs bs)
    (hal : PySem.W.AllAlike (bs.map enc)) (hk : PySem.W.Sortable (bs.map enc) ∨ RootFirst (bs.map enc)) (hL : bs.length ≤ sizeLine) (hu : ∀ b, b ∈ bs → A.units + 2 + (enc b).depth < cLine)
    (h : ∀ out, out.length = bs.length → PySem.W.EachIs R out (bs.mergeSort (PySem.W.dataLe false enc)) → Q (.ref (s.heap.objs.size + 1)) { s with heap := sortedAll s.heap vs (List.toArray out) }) :
    wpAny (model prog w) A (call (.builtin "sorted") [.ref l]) Q E s := by
  have er' : PySem.W.EachIs (fun v b => ∃ as, Reads (PySem.W.sortingHeap (PySem.W.copyHeap s.heap vs) (s.heap.objs.size + 1) vs) v (enc b) as) vs bs := er.mono fun _ _ ⟨as, r⟩ => ⟨as, PyProof.Rows.Reads.keeps (fun _ _ => PySem.W.sorting_copy_old) r⟩
  exact PySem.W.sorted_vals hl (sortsAt (s := { s with heap := PySem.W.sortingHeap (PySem.W.copyHeap s.heap vs) (s.heap.objs.size + 1) vs }) (PySem.W.each_map (R := fun v d => ∃ as, Reads (PySem.W.sortingHeap (PySem.W.copyHeap s.heap vs) (s.heap.objs.size + 1) vs) v d as) enc er') hal hk (PySem.W.bound_map hu)) (by rw [e.length]; exact hL)
    (h _ (by rw [PySem.W.sortVals_length false rfl]; exact e.length) (PySem.W.sortVals_data false e er' hal))
end

/-! ### by values -/
section
theorem dpAll_each {X : Cx} {pins : List (Addr × Obj)} {σ : St} {H : Hp} {s : Shared} (I : Inv X pins σ H s) : ∀ {bs : List (V × PyData)} {us : List Value}, Vals (bs.map (·.1)) us → (∀ b ∈ bs, Dp X.K H b.1 b.2) →
    PySem.W.EachIs (fun u b => RelV b.1 u) us bs ∧ PySem.W.EachIs (fun u b => ∃ as, Reads s.heap u b.2 as) us bs
  | [], _, r, _ => by
    rw [List.map_nil] at r
    cases r
    exact ⟨.nil, .nil⟩
  | b :: bs, _, r, h => by
    rw [List.map_cons] at r
    cases r with
    | cons r1 r2 =>
      obtain ⟨i1, i2⟩ := dpAll_each I r2 fun b hb => h b (.tail _ hb)
      exact ⟨.cons r1 i1, .cons (Dp.reads I _ _ _ (h b (.head _)) r1) i2⟩
theorem each_vals {R : Value → V × PyData → Prop} (hR : ∀ u b, R u b → RelV b.1 u) : ∀ {us : List Value} {bs : List (V × PyData)}, PySem.W.EachIs R us bs → Vals (bs.map (·.1)) us
  | _, _, .nil => .nil
  | _, _, .cons h t => .cons (hR _ _ h) (each_vals hR t)
def rSortedDat (K : PySem.W.Frag) : List V → Hp → VK → Prop := fun xs H Q => ∃ (a : Addr) (bs : List (V × PyData)), xs = [.ref a] ∧ SqL K H a (bs.map (·.1)) ∧ (∀ b ∈ bs, Dp K H b.1 b.2) ∧ SortOk (bs.map (·.2)) ∧
  ∀ p, H p = none → Q (.ref p) (upd H p (.lst ((bs.mergeSort (PySem.W.dataLe false (·.2))).map (·.1))))
theorem cr_sortedDat {X : Cx} (hu : X.A.units + 64 < cLine) : CallR X (.builtin "sorted") (rSortedDat X.K) := by
  intro pins s σ H vs us Q I r h
  obtain ⟨a, bs, rfl, hs, hd, ⟨h1, h2, h3⟩, q⟩ := h
  obtain ⟨its, rv, hl, hz⟩ := I.list hs
  rw [Vals.ref1 r]
  obtain ⟨e1, e2⟩ := dpAll_each I rv hd
  rw [List.length_map] at hz
  refine sorted_dat (enc := (·.2)) hl.isList e1 e2 h1 h2 hz (fun b hb => ?_) fun out h4 h5 => ?_
  · have := h3 b.2 (List.mem_map.mpr ⟨b, hb, rfl⟩)
    omega
  · obtain ⟨ep, he'⟩ := PyProof.Rows.sortedAll_at s.heap its out.toArray
    have hlen : ((bs.mergeSort (PySem.W.dataLe false (·.2))).map (·.1)).length ≤ sizeLine := by rw [List.length_map, List.length_mergeSort]; exact hz
    exact ⟨.ref _, upd H (s.heap.objs.size + 1) (.lst ((bs.mergeSort (PySem.W.dataLe false (·.2))).map (·.1))), I.laid (t' := s.toks) (fun _ _ => PyProof.Rows.sortedAll_old) (Nat.le_succ _)
      ⟨hlen, out, ep, each_vals (fun _ _ h => h) h5, by simpa using he'⟩, rfl, q _ (I.hok.fresh (Nat.le_succ _))⟩
end
/-- what is compared -/
def pyd (d : D) : PyData := d.py.getD .none
def sortD (ds : List D) : List D := ds.mergeSort (PySem.W.dataLe false pyd)
open Classical in
noncomputable def dSorted (mk : List D → GH → R D) : D → GH → R D := fun d G => match lstOf G d with
  | some xs => (match D.pyAll xs with
    | some ps => if SortOk ps then mk (sortD xs) G else .no
    | none => .no)
  | none => .no
theorem pyAll_map : ∀ {xs : List D} {ps : List PyData}, D.pyAll xs = some ps → ps = xs.map pyd ∧ ∀ d ∈ xs, d.py = some (pyd d)
  | [], ps, e => by
    rw [D.pyAll] at e; cases e
    exact ⟨rfl, fun d h => by cases h⟩
  | x :: xs, ps, e => by
    rw [D.pyAll] at e
    cases e1 : x.py with
    | none => rw [e1] at e; simp at e
    | some p =>
      cases e2 : D.pyAll xs with
      | none => rw [e1, e2] at e; simp at e
      | some qs =>
        rw [e1, e2] at e
        simp at e
        subst e
        obtain ⟨i1, i2⟩ := pyAll_map e2
        refine ⟨by rw [List.map_cons, ← i1]; simp [pyd, e1], fun d h => ?_⟩
        rcases List.mem_cons.mp h with rfl | h
        · simp [pyd, e1]
        · exact i2 d h
theorem reps_pairs {K : PySem.W.Frag} {Z : Hp} {r : List Addr} : ∀ {cs : List (D × V)}, (∀ c ∈ cs, Rep K Z r c.1 c.2) → Reps K Z r (cs.map (·.1)) (cs.map (·.2))
  | [], _ => .nil
  | c :: cs, h => .cons (h c (.head _)) (reps_pairs fun c hc => h c (.tail _ hc))
theorem pairs_reps {K : PySem.W.Frag} {Z : Hp} {r : List Addr} : ∀ {ds : List D} {vs : List V}, Reps K Z r ds vs → ∃ cs : List (D × V), ds = cs.map (·.1) ∧ vs = cs.map (·.2) ∧ ∀ c ∈ cs, Rep K Z r c.1 c.2
  | _, _, .nil => ⟨[], rfl, rfl, fun c h => by cases h⟩
  | _, _, .cons (d := d) (v := v) h t => by
    obtain ⟨cs, e1, e2, h3⟩ := pairs_reps t
    refine ⟨(d, v) :: cs, by rw [List.map_cons, e1], by rw [List.map_cons, e2], fun c hc => ?_⟩
    rcases List.mem_cons.mp hc with rfl | hc
    · exact h
    · exact h3 c hc
theorem sort_fst {β γ : Type} (f : β → γ) (k : γ → PyData) (l : List β) : (l.map f).mergeSort (PySem.W.dataLe false k) = (l.mergeSort (PySem.W.dataLe false fun b => k (f b))).map f :=
  (PySem.W.sort_maps f (r := PySem.W.dataLe false fun b => k (f b)) (s := PySem.W.dataLe false k) fun _ _ _ _ => rfl).symm
theorem cb_sorted {K : PySem.W.Frag} {mk : List D → GH → R D} (m : Mk mk) : CbD K (one (dSorted mk)) (rSortedDat K) := cb_one fun L G H d v W σ Q hr rd q => by
  unfold dSorted at q
  cases e : lstOf G d with
  | none => rw [e] at q; exact q.elim
  | some xs =>
    rw [e] at q
    dsimp only at q
    cases e2 : D.pyAll xs with
    | none => rw [e2] at q; exact q.elim
    | some ps =>
      rw [e2] at q
      dsimp only at q
      by_cases hs : SortOk ps
      · rw [if_pos hs] at q
        obtain ⟨p, vs, rfl, s, t⟩ := lst_rep hr rd e
        obtain ⟨cs, rfl, rfl, hc⟩ := pairs_reps t
        obtain ⟨e3, e4⟩ := pyAll_map e2
        refine ⟨p, cs.map fun c => (c.2, pyd c.1), rfl, by simpa [List.map_map, Function.comp_def] using s, fun b hb => ?_, ?_, fun l hl => ?_⟩
        · obtain ⟨c, hc1, rfl⟩ := List.mem_map.mp hb
          exact (py_rep hr _ _ _ (hc c hc1) (e4 _ (List.mem_map.mpr ⟨c, hc1, rfl⟩))).1
        · rw [e3] at hs
          simpa [List.map_map, Function.comp_def] using hs
        · have s1 : sortD (cs.map (·.1)) = (cs.mergeSort (PySem.W.dataLe false fun c => pyd c.1)).map (·.1) := sort_fst (fun c : D × V => c.1) pyd cs
          have s2 : ((cs.map fun c => (c.2, pyd c.1)).mergeSort (PySem.W.dataLe false (·.2))).map (·.1) = (cs.mergeSort (PySem.W.dataLe false fun c => pyd c.1)).map (·.2) := by
            rw [sort_fst (fun c : D × V => (c.2, pyd c.1)) (·.2) cs, List.map_map]; rfl
          rw [s2]
          rw [s1] at q
          exact m K L G H _ _ l W σ Q hr (reps_pairs fun c hc' => hc c (List.mem_mergeSort.mp hc')) hl q
      · rw [if_neg hs] at q; exact q.elim
section
variable {X : Cx} {W : WX} {pos p : Pos} {e : Expr} {g : FA}
theorem xe_sorted {mk : List D → GH → R D} (m : Mk mk) (hu : X.A.units + 64 < cLine) (hm : X.mg "sorted" = none) (ha : xA X W [e] g) (hg : Gl X "sorted" := by rfl) (he : starEach [e] X.env = (false, eval e X.env) :: starEach [] X.env := by rfl) : xE X W (.Call (.Name "sorted" p) [e] [] pos) (eCB (one (dSorted mk)) g) :=
  xe_cb (cr_sortedDat hu) (cb_sorted m) hm (by decide +kernel) ha hg (by decide) (by decide) he rfl
end
end CF
end
section
set_option maxRecDepth 100000
set_option maxHeartbeats 1000000
/-! The end of a law; repr, str. -/
namespace CF
open PySem PySem.Spec PyProof.Rows L2

/-! ### the law's own call -/
section
variable {P : Program} {w : World} {K : PySem.W.Frag} {mg mb : Str → Option Value} {k : Nat} {fa a : Addr} {fd : FuncData} {x : Str} {s₁ : Shared} {vs : List Value} {ns : List Int} {F : List D → GH → R D}
/-- nothing is there but the script -/
theorem hr_only {H : Hp} {us : List V} (h : H a = none ∨ ∃ o, H a = some (.frz o (.lst us))) (rest : ∀ b, b ≠ a → H b = none) : HR K ⟨H, [], fun _ => none⟩ [] H where
  z := fun p o e => .inl e
  len := rfl
  cell := fun n a c e => by simp at e
  inj := fun n m a e => by simp at e
  dis := fun n a e => by simp at e
  fr := fun p o e => by cases e
  fd := fun n a e => by simp at e
  fz := fun p o e => by cases e
theorem reps_ints {Z : Hp} {r : List Addr} : ∀ ns : List Int, Reps K Z r (ns.map D.int) (ns.map V.int)
  | [] => .nil
  | n :: ns => .cons (.int n) (reps_ints ns)
/-- the promise of the law's def at the script, from the heap H in which only the script is told -/
theorem law_at {H : Hp} (KI : K.In s₁.heap) (nsM : s₁.heap.Ns mainGlobals mg) (nsB : s₁.heap.Ns builtinsNs mb) (mbB : ∀ y : Str, y ≠ "__name__" → mb y = bootBuiltins y) (NL : s₁.heap.NoLimit) (gn : s₁.gens = #[])
    (ha : s₁.heap.get? a = some { cls := .type "list", data := .seq vs.toArray }) (rv : Vals (ns.map V.int) vs) (room : Room k callerA)
    (Fn : ∀ base : Heap, K.In base → base.Ns mainGlobals mg → FnD P w K mg base k fa fd [x] F) (bnd : ∀ (s : Shared) (u : Value), BindsTo s fd ⟨[u], []⟩ [(x, u)])
    (hF : ∃ G', F [.scr (ns.map D.int)] [] = .ok (.bl true) G')
    (only : ∀ b, b ≠ a → H b = none) (atA : (H a = none ∧ ScrAt K H a (ns.map V.int)) ∨ ((∃ o, H a = some (.frz o (.lst (ns.map V.int)))) ∧ K.lookup a = none)) (ok : HOk P w H s₁.heap)
    (same : ∀ (H' : Hp) (h' : Heap), HOk P w H' h' → (∀ b o u, H b = some (.frz o u) → H' b = some (.frz o u)) → ∀ b o, H b ≠ none → s₁.heap.get? b = some o → h'.get? b = some o) :
    codeAny (model P w) callerA (.call (.ref fa) ⟨[.ref a], []⟩) (fun r s' => r = .ok (.ret (.bool true)) ∧ OldK s₁.heap s'.heap ∧ s'.os = s₁.os ∧ AllBare s'.gens) s₁ := by
  have hs : ScrAt K H a (ns.map V.int) := atA.elim (·.2) fun ⟨⟨o, e⟩, _⟩ => .inl ⟨o, e⟩
  have keepB : ∀ {b : Addr} {o : Obj}, s₁.heap.get? b = some o → H b = none → (hidT s₁.heap H).get? b = some o := fun e n => hidT_get e n
  have notA : ∀ {b : Addr} {o : Obj} {es : Array DictEntry} {ep : Nat}, s₁.heap.get? b = some o → o.data = .dict es ep → H b = none := fun {b o es ep} e d => by
    by_cases hb : b = a
    · subst hb
      rw [ha] at e
      cases e
      exact absurd (show Data.seq vs.toArray _ = Data.dict es ep from d) (by simp)
    · exact only b hb
  have nsH : ∀ {b : Addr} {m : Str → Option Value}, s₁.heap.Ns b m → (hidT s₁.heap H).Ns b m := fun ⟨o, es, ep, e, d, r⟩ => ⟨o, es, ep, keepB e (notA e d), d, r⟩
  have KB : K.In (hidT s₁.heap H) := fun b o e => keepB (KI b o e) (by
    by_cases hb : b = a
    · subst hb
      rcases atA with z | ⟨_, z⟩
      · exact z.1
      · rw [z] at e; cases e
    · exact only b hb)
  have M : Mod K mg (hidT s₁.heap H) := ⟨KB, nsH nsM, ⟨mb, nsH nsB, mbB⟩, let ⟨mc, z1, z2⟩ := NL; ⟨mc, nsH z1, z2⟩⟩
  have e0 : Env0 P w K mg (hidT s₁.heap H) callerA [] s₁ H := ⟨rfl, M, fun b o e => of_hidT e, Nat.le_of_eq (hidT_size _ _), trivial, (fun b z => by cases z), ok, .of_eq gn⟩
  obtain ⟨G', eF⟩ := hF
  refine codeAny_mono ((Fn _ KB (nsH nsM)).go callerA [] s₁ H ⟨[.ref a], []⟩ [.ref a] [.ref a] (fun v _ => v = .bl true) (fun _ _ _ => False) room rfl e0 (bnd s₁ (.ref a)) (.cons rfl .nil)
    ⟨rfl, ⟨H, [], fun _ => none⟩, [.scr (ns.map D.int)], [], hr_only (us := ns.map V.int) (atA.imp (·.1) (·.1)) only, .cons (.scr hs (reps_ints ns)) .nil, by
      rw [eF]
      intro L' H' v le hr rv
      have rv' : Rep K L'.Z L'.r (.bl true) v := rv
      cases rv'
      rfl⟩) fun r s' z => ?_
  match r, z with
  | .error e, z =>
    obtain ⟨_, _, _, _, _, _, _, _, _, _, _, _, z⟩ := z
    exact z.elim
  | .ok .next, z => exact False.elim z
  | .ok .brk, z => exact False.elim z
  | .ok .cont, z => exact False.elim z
  | .ok (.ret u), z =>
    obtain ⟨v, H', os, bare, un, ok', rl, q⟩ := z
    have q' : v = .bl true := q
    subst q'
    cases (show u = Value.bool true from rl)
    refine ⟨rfl, OldK.of_keep fun b o e => ?_, os, bare⟩
    by_cases n : H b = none
    · exact un.keep b o e n (by intro z; cases z) (by simp)
    · exact same H' s'.heap ok' (fun b o u z => un.frzs b o u z) b o n e
theorem law_runs (KI : K.In s₁.heap) (nsM : s₁.heap.Ns mainGlobals mg) (nsB : s₁.heap.Ns builtinsNs mb) (mbB : ∀ y : Str, y ≠ "__name__" → mb y = bootBuiltins y) (NL : s₁.heap.NoLimit) (gn : s₁.gens = #[])
    (ha : s₁.heap.get? a = some { cls := .type "list", data := .seq vs.toArray }) (hi : IntsAre vs ns) (hl : ns.length ≤ sizeLine) (room : Room k callerA)
    (Fn : ∀ base : Heap, K.In base → base.Ns mainGlobals mg → FnD P w K mg base k fa fd [x] F) (bnd : ∀ (s : Shared) (u : Value), BindsTo s fd ⟨[u], []⟩ [(x, u)])
    (hF : ∃ G', F [.scr (ns.map D.int)] [] = .ok (.bl true) G') :
    codeAny (model P w) callerA (.call (.ref fa) ⟨[.ref a], []⟩) (fun r s' => r = .ok (.ret (.bool true)) ∧ OldK s₁.heap s'.heap ∧ s'.os = s₁.os ∧ AllBare s'.gens) s₁ := by
  have rv := L2.vals_ints hi
  have ln := hi.length
  cases hk : K.lookup a with
  | some o =>
    have e := KI a o hk
    rw [ha] at e
    cases e
    exact law_at (H := fun _ => none) KI nsM nsB mbB NL gn ha rv room Fn bnd hF (fun _ _ => rfl) (.inl ⟨rfl, .inr ⟨_, vs.toArray, _, hk, rfl, rfl, rfl, by rw [List.size_toArray, ln]; exact hl, by simpa using rv⟩⟩)
      (fun b u z => by cases z) fun _ _ _ _ b o n => absurd rfl n
  | none =>
    have hA : ∀ {b : Addr} {u : HO}, (if b = a then some (HO.frz { cls := .type "list", data := .seq vs.toArray } (.lst (ns.map V.int))) else none) = some u → b = a ∧ u = HO.frz { cls := .type "list", data := .seq vs.toArray } (.lst (ns.map V.int)) := fun {b u} z => by
      by_cases hb : b = a
      · rw [if_pos hb] at z; cases z; exact ⟨hb, rfl⟩
      · rw [if_neg hb] at z; cases z
    refine law_at (H := fun b => if b = a then some (.frz { cls := .type "list", data := .seq vs.toArray } (.lst (ns.map V.int))) else none) KI nsM nsB mbB NL gn ha rv room Fn bnd hF (fun b hb => if_neg hb) (.inr ⟨⟨_, if_pos rfl⟩, hk⟩) (fun b u z => ?_) fun H' h' ok' kp b o n e => ?_
    · obtain ⟨rfl, rfl⟩ := hA z
      exact ⟨ha, by rw [List.length_map]; exact hl, vs, _, rv, ha⟩
    · by_cases hb : b = a
      · subst hb
        have z := kp b _ _ (if_pos rfl)
        obtain ⟨z1, _⟩ := ok' b _ z
        rw [ha] at e; cases e
        exact z1
      · exact absurd (if_neg hb) n
end
/-- THE END of a law: F gives the law's def's promise; hF: what it computes is True at every script -/
theorem law_end {l : PySem.W.OpenLaw} {n k : Nat} {q : Program} {loose : List Str} {XP : (Str → Option Value) → Heap → Prop} {YP : World → Heap → Prop} {d : DefRec} {K : Params → PySem.W.Frag} {F : World → List D → GH → R D} {x : Str}
    (hn : l.most = some n) (hn2 : n ≤ sizeLine) (hdf : d.params.defaults = []) (room : Room k callerA) (hY : ∀ (w : World) (h : Heap), YP w h → (K w.params).In h)
    (Fn : ∀ (w : World) (mg : Str → Option Value) (fa : Addr) (h : Heap), (K w.params).In h → h.Ns mainGlobals mg → mg d.name = some (.ref fa) →
      ∃ fd : FuncData, (∀ (s : Shared) (u : Value), BindsTo s fd ⟨[u], []⟩ [(x, u)]) ∧ ∀ base : Heap, (K w.params).In base → base.Ns mainGlobals mg → FnD l.prog w (K w.params) mg base k fa fd [x] (F w))
    (hF : ∀ (w : World) (ns : List Int), ns.length ≤ n → (∀ i ∈ ns, Builtin.Int.intBits i ≤ 1048576) → ∃ G', F w [.scr (ns.map D.int)] [] = .ok (.bl true) G') :
    PySem.W.WalkO q loose XP YP l.row.toRowW d [] (fun f vs => PySem.call f vs) := by
  refine Att.attach_callB hn hdf fun w s₀ s₁ mg mb fa o pm cd doc a vs ns G Y ho hd hcd hmg hobj hints hlen hbits hg => ?_
  obtain ⟨fd, b, f⟩ := Fn w mg fa _ (hY w _ Y) G.T.g hmg
  exact law_runs (hY w _ Y) G.T.g G.T.b G.T.builtins G.T.nolimit hg hobj hints (Nat.le_trans hlen hn2) room f b (hF w ns hlen hbits)
end CF
end
section
set_option maxRecDepth 100000
set_option maxHeartbeats 1000000
/-! repr, str. -/
namespace CF
open PySem PySem.Spec PyProof.Rows L2
def rRepr (K : PySem.W.Frag) : List V → Hp → VK → Prop := fun xs H Q => ∃ x d, xs = [x] ∧ Dp K H x d ∧ d.showable = true ∧ d.hasDict = false ∧ d.depth ≤ 60 ∧ d.shown.length ≤ sizeLine ∧ Q (.str d.shown) H
section
variable {X : Cx} {W : WX} {pos p : Pos} {e : Expr} {g : FA}
theorem cr_repr (hg : X.A.guards = some []) (hu : X.A.units + 64 < cLine) : CallR X (.builtin "repr") (rRepr X.K) := by
  intro pins s σ H xs us Q I r ⟨x, d, ex, hd, h1, h2, h3, h4, q⟩
  subst ex
  obtain ⟨u, eu, rx⟩ := vals1 r
  subst eu
  obtain ⟨as, rd⟩ := Dp.reads I d x u hd rx
  have fin : ∀ (z : Str) (k : Nat), z = d.shown → EP X pins σ Q (.str z s.toks) { s with toks := k } := fun z k e => ⟨.str z, H, I.tok _, ⟨_, rfl⟩, by rw [e]; exact q⟩
  have cont : ∀ a, u = .ref a → wpAny (model X.prog X.w) X.A (call (.builtin "repr") [u]) (EP X pins σ Q) X.xe s := fun a ea => by
    subst ea
    exact repr_of_reads' rd h1 (PyData.noDict_hsm h2) hg (by omega) (fun _ _ e => e) (fun h' u' tk hk => ⟨.str d.shown, H, I.kept hk, ⟨_, rfl⟩, q⟩) h4
  cases rd with
  | none => exact PySem.P.repr_of_none (fin _ _ (by rw [PyData.shown]))
  | bool b => exact PySem.P.repr_of_bool (fin _ _ (by rw [PyData.shown]))
  | int i t => exact PySem.P.repr_of_int (by simpa [PyData.showable] using h1) (fin _ _ (by rw [PyData.shown]))
  | str z t => exact PySem.P.repr_of_str (fin _ _ (by rw [PyData.shown])) (by rw [PyData.shown] at h4; exact h4)
  | list _ _ _ _ => exact cont _ rfl
  | tuple _ _ _ _ => exact cont _ rfl
  | dict _ _ _ _ _ => exact cont _ rfl
def dRepr : D → GH → R D := fun d G => match (res G d).py with
  | some q => if q.showable = true ∧ q.depth ≤ 60 ∧ q.shown.length ≤ sizeLine then .ok (.str q.shown) G else .no
  | none => .no
theorem cb_repr {K : PySem.W.Frag} : CbD K (one dRepr) (rRepr K) := cb_one fun L G H d v W σ Q hr rd q => by
  unfold dRepr at q
  cases e : (res G d).py with
  | none => rw [e] at q; exact q.elim
  | some x =>
    rw [e] at q
    dsimp only at q
    by_cases c : x.showable = true ∧ x.depth ≤ 60 ∧ x.shown.length ≤ sizeLine
    · rw [if_pos c] at q
      obtain ⟨a, b⟩ := res_rep hr rd e
      exact ⟨v, x, rfl, a, c.1, PyData.hasDict_of_canLay _ b, c.2.1, c.2.2, q L H _ (.refl L) hr (.str _)⟩
    · rw [if_neg c] at q; exact q.elim
theorem xe_repr (hgd : X.A.guards = some []) (hu : X.A.units + 64 < cLine) (hm : X.mg "repr" = none) (ha : xA X W [e] g) (hg : Gl X "repr" := by rfl) (he : starEach [e] X.env = (false, eval e X.env) :: starEach [] X.env := by rfl) : xE X W (.Call (.Name "repr" p) [e] [] pos) (eCB (one dRepr) g) :=
  xe_cb (cr_repr hgd hu) cb_repr hm PyProof.Rows.boot_repr ha hg (by decide) (by decide) he rfl
/-! str -/
def dStr : D → GH → R D := fun d G => match d with
  | .int i => if i.natAbs.log2 < 1920 then .ok (.str (toString i)) G else .no
  | .str x => .ok (.str x) G
  | _ => .no
theorem cb_str {K : PySem.W.Frag} : CbD K (one dStr) (fun xs H Q => (∃ i, xs = [.int i] ∧ i.natAbs.log2 < 1920 ∧ Q (.str (toString i)) H) ∨ ∃ a, xs = [.str a] ∧ Q (.str a) H) := cb_one fun L G H d v W σ Q hr rd q => by
  cases rd with
  | int i =>
    have q' : Sat K W L σ (repD K) (if i.natAbs.log2 < 1920 then .ok (.str (toString i)) G else .no) Q := q
    by_cases c : i.natAbs.log2 < 1920
    · rw [if_pos c] at q'
      exact .inl ⟨i, rfl, c, q' L H _ (.refl L) hr (.str _)⟩
    · rw [if_neg c] at q'; exact q'.elim
  | str x => exact .inr ⟨x, rfl, q L H _ (.refl L) hr (.str _)⟩
  | _ => exact q.elim
theorem xe_str1 (hm : X.mg "str" = none) (ha : xA X W [e] g) (hg : Gl X "str" := by rfl) (he : starEach [e] X.env = (false, eval e X.env) :: starEach [] X.env := by rfl) : xE X W (.Call (.Name "str" p) [e] [] pos) (eCB (one dStr) g) :=
  xe_cty (call_str_int.or SkE.call_str_str) cb_str hm (by decide +kernel) ha hg (by decide) (by decide) he rfl
/-! list -/
def dList (mk : List D → GH → R D) : D → GH → R D := fun d G => match d with
  | .tup xs => mk xs G
  | .pt xs => mk xs G
  | d => match lstOf G d with
    | some xs => mk xs G
    | none => .no
theorem cb_list {K : PySem.W.Frag} {mk : List D → GH → R D} (m : Mk mk) : CbD K (one (dList mk)) (fun xs H Q => ∃ p ys, xs = [.ref p] ∧ (SqL K H p ys ∨ SqT K H p ys) ∧ ∀ l, H l = none → Q (.ref l) (upd H l (.lst ys))) := cb_one fun L G H d v W σ Q hr rd q => by
  have gen : Sat K W L σ (repD K) (match lstOf G d with | some xs => mk xs G | none => .no) Q → ∃ p ys, [v] = [.ref p] ∧ (SqL K H p ys ∨ SqT K H p ys) ∧ ∀ l, H l = none → Q (.ref l) (upd H l (.lst ys)) := fun q => by
    cases e : lstOf G d with
    | none => rw [e] at q; exact q.elim
    | some xs =>
      rw [e] at q
      obtain ⟨p, vs, rfl, s, t⟩ := lst_rep hr rd e
      exact ⟨p, vs, rfl, .inl s, fun l hl => m K L G H _ _ l W σ Q hr t hl q⟩
  cases d with
  | tup xs =>
    obtain ⟨p, vs, rfl, s, t⟩ := tup_rep hr rd
    exact ⟨p, vs, rfl, .inr s, fun l hl => m K L G H _ _ l W σ Q hr t hl q⟩
  | pt xs =>
    obtain ⟨p, vs, rfl, s, t⟩ := tupOf_rep (ds := xs) hr rd rfl
    exact ⟨p, vs, rfl, .inr s, fun l hl => m K L G H _ _ l W σ Q hr t hl q⟩
  | _ => exact gen q
theorem xe_list1 {mk : List D → GH → R D} (m : Mk mk) (hm : X.mg "list" = none) (ha : xA X W [e] g) (hg : Gl X "list" := by rfl) (he : starEach [e] X.env = (false, eval e X.env) :: starEach [] X.env := by rfl) : xE X W (.Call (.Name "list" p) [e] [] pos) (eCB (one (dList mk)) g) :=
  xe_cty call_list_of (cb_list m) hm (by decide +kernel) ha hg (by decide) (by decide) he rfl
end

/-! sorted(d): the keys of a dict, texts -/
theorem each_strs : ∀ {us : List Value} {ks : List Str}, PyProof.Rows.StrsAre us ks → PySem.W.EachIs (fun u (k : Str) => ∃ t, u = .str k t) us ks
  | _, _, .nil => .nil
  | _, _, .cons x t h => .cons ⟨t, rfl⟩ (each_strs h)
theorem vals_eachS : ∀ {us : List Value} {ks : List Str}, PySem.W.EachIs (fun u (k : Str) => ∃ t, u = .str k t) us ks → Vals (ks.map V.str) us
  | _, _, .nil => .nil
  | _, _, .cons ⟨t, e⟩ h => by subst e; exact .cons ⟨t, rfl⟩ (vals_eachS h)
theorem strs_alike (ks : List Str) : PySem.W.AllAlike (ks.map PyData.str) := fun d h d' h' => by
  obtain ⟨k, _, rfl⟩ := List.mem_map.mp h
  obtain ⟨k', _, rfl⟩ := List.mem_map.mp h'
  simp [PySem.W.alike]
def rSortedKeys : List V → Hp → VK → Prop := fun xs H Q => ∃ (a : Addr) (kvs : List (Key × V)) (ks : List Str), xs = [.ref a] ∧ Rd H a (.dK kvs) ∧ kvs.map (·.1) = ks.map Sum.inr ∧
    ∀ p, H p = none → Q (.ref p) (upd H p (.lst ((ks.mergeSort (PySem.W.dataLe false PyData.str)).map V.str)))
theorem cr_sortedKeys {X : Cx} (hcalm : X.calm = true) (hu : X.A.units + 64 < cLine) : CallR X (.builtin "sorted") rSortedKeys := by
  intro pins s σ H xs us Q I r ⟨a, kvs, ks, ex, hd, hks, q⟩
  subst ex
  obtain ⟨u, eu, rx⟩ := vals1 r
  subst eu
  cases rx
  obtain ⟨z, lo, vs, rel, dd⟩ := dk_rd I.hok hd
  obtain ⟨ep, hat⟩ := dd.dictAt
  have hkeys : vs.map (·.1) = ks.map Sum.inr := rel.keys.symm.trans hks
  have hl : vs.length = ks.length := by simpa using congrArg List.length hkeys
  have hz : vs.length ≤ sizeLine := by rw [← rel.length]; exact z
  refine Calls.call_function_entry PyProof.Rows.kind_sorted PyProof.Rows.plain_sorted PyProof.Rows.entry_sorted (PyProof.Rows.args_sorted1 _) ?_
  unfold Builtin.«sorted»
  refine wpAny_bind (m := checkCount "sorted" 1 1 _) (wpAny_pure ?_)
  refine wpAny_bind (PySem.W.kdu_collect (A := X.A.in1) (PySem.W.kdl_dict (knd := mixKind X.prog X.w) (kvs := vs) (ep := ep) lo) (I.ok.hd hcalm) hat hz fun h' tk acc hk hacc => ?_)
  have al : acc.toList.length = ks.length := by rw [Array.length_toList, hacc.1, hl]
  have S := each_strs (strs_at al fun j v e => by
    obtain ⟨k, x, e1, e2⟩ := hacc.2 j v (by rw [← Array.getElem?_toList]; exact e)
    have e3 : (vs.map (·.1))[j]? = some k := by rw [List.getElem?_map, e1]; rfl
    rw [hkeys, List.getElem?_map] at e3
    cases e4 : ks[j]? with
    | none => rw [e4] at e3; cases e3
    | some y =>
      rw [e4] at e3
      cases e3
      obtain ⟨t, ev⟩ := Value.isStrOf_shape (x := y) (v := v) e2
      exact ⟨y, t, rfl, ev⟩)
  have I1 : Inv X pins σ H { s with heap := h', toks := tk } := I.kept hk
  refine wpAny_bind (wpAny_newList ?_ (by rw [al, ← hl]; exact hz))
  have hoL : (h'.push (seqObj "list" acc.toList.toArray 0)).get? h'.objs.size = some (seqObj "list" acc.toList.toArray 0) := Heap.get?_push_size _ rfl
  show wpAny _ _ _ _ _ { s with heap := h'.push (seqObj "list" acc.toList.toArray 0), toks := tk }
  have er : ∀ h : Heap, PySem.W.EachIs (fun v d => ∃ as, Reads h v d as) acc.toList (ks.map PyData.str) := fun h => PySem.W.each_map PyData.str (S.mono fun v k ⟨t, e⟩ => ⟨[], by rw [e]; exact Reads.str k t⟩)
  refine wpAny_bind (wpAny_holding (wpAny_call_entry PyProof.Rows.slot_list_sort ⟨_, hoL, rfl⟩ PyProof.Rows.entry_list_sort
    (PySem.W.list_sort_vals (s := { s with heap := h'.push (seqObj "list" acc.toList.toArray 0), toks := tk }) (κ := PySem.W.dataKind (PySem.W.sortingHeap (h'.push (seqObj "list" acc.toList.toArray 0)) h'.objs.size acc.toList) (ks.map PyData.str)) hoL
      (PySem.W.SortsAt.data (er _) (strs_alike ks) (.others fun k => ⟨by simp, by simp⟩) fun d hd => by
        obtain ⟨k, _, rfl⟩ := List.mem_map.mp hd
        simp only [PyData.depth]
        show X.A.units + 1 + 1 + 0 < cLine
        omega) (by rw [al, ← hl]; exact hz) ⟨_, rfl, ?_⟩)
    (PyProof.Rows.args_list_sort _)))
  have V2 : Vals ((ks.mergeSort (PySem.W.dataLe false PyData.str)).map V.str) (PySem.W.sortVals (PySem.W.dataKind (PySem.W.sortingHeap (h'.push (seqObj "list" acc.toList.toArray 0)) h'.objs.size acc.toList) (ks.map PyData.str)) false acc.toList acc.toList) :=
    vals_eachS (PySem.W.sortVals_data (enc := PyData.str) false S (S.mono fun v k ⟨t, e⟩ => ⟨[], by rw [e]; exact Reads.str k t⟩) (strs_alike ks))
  obtain ⟨e', he'⟩ := PyProof.Rows.sortedHeap_at (vs := acc.toList) (out := (PySem.W.sortVals (PySem.W.dataKind (PySem.W.sortingHeap (h'.push (seqObj "list" acc.toList.toArray 0)) h'.objs.size acc.toList) (ks.map PyData.str)) false acc.toList acc.toList).toArray) hoL
  have hlen : ((ks.mergeSort (PySem.W.dataLe false PyData.str)).map V.str).length ≤ sizeLine := by
    rw [List.length_map, List.length_mergeSort, ← hl]; exact hz
  refine wpAny_pure ⟨_, rfl, .ref h'.objs.size, upd H h'.objs.size (.lst ((ks.mergeSort (PySem.W.dataLe false PyData.str)).map V.str)), I1.laid (t' := tk) (fun b u e => ?_) (Nat.le_refl _)
    (show ObjOk X.prog X.w _ _ _ (.lst _) from ⟨hlen, _, e', V2, he'⟩), rfl, q _ (I1.hok.fresh (Nat.le_refl _))⟩
  have hb : b < h'.objs.size := Heap.lt_size e
  rw [PyProof.Rows.sortedHeap_old (Nat.ne_of_lt hb) (by rw [size_push']; exact Nat.lt_succ_of_lt hb)]
  exact Heap.get?_push_of_some _ e
open Classical in
/-- sorted(x) of a list or a dict of texts -/
noncomputable def dSorted2 (mk : List D → GH → R D) : D → GH → R D := fun d G => match dKOf G d with
  | some kds => (match (kds.mapM fun kd => match kd.1 with | .inr k => some k | .inl _ => none) with
    | some ks => mk ((ks.mergeSort (PySem.W.dataLe false PyData.str)).map D.str) G
    | none => .no)
  | none => dSorted mk d G
theorem inr_keys {α : Type} : ∀ {kds : List (Key × α)} {ks : List Str}, (kds.mapM fun kd => match kd.1 with | .inr k => some k | .inl _ => none) = some ks → kds.map (·.1) = ks.map Sum.inr
  | [], ks, e => by simp at e; subst e; rfl
  | (k, x) :: r, ks, e => by
    rw [List.mapM_cons] at e
    cases k with
    | inl i => simp at e
    | inr k =>
      cases e2 : (r.mapM fun kd => match kd.1 with | .inr k => some k | .inl _ => none) with
      | none => rw [e2] at e; simp at e
      | some ks2 =>
        rw [e2] at e
        simp at e
        subst e
        rw [List.map_cons, List.map_cons, inr_keys e2]
theorem reps_strs {K : PySem.W.Frag} {Z : Hp} {r : List Addr} : ∀ ks : List Str, Reps K Z r (ks.map D.str) (ks.map V.str)
  | [] => .nil
  | k :: ks => .cons (.str k) (reps_strs ks)
theorem cb_sorted2 {K : PySem.W.Frag} {mk : List D → GH → R D} (m : Mk mk) : CbD K (one (dSorted2 mk)) (fun xs H Q => rSortedDat K xs H Q ∨ rSortedKeys xs H Q) := cb_one fun L G H d v W σ Q hr rd q => by
  unfold dSorted2 at q
  cases e : dKOf G d with
  | none => rw [e] at q; exact .inl (cb_sorted m L G H [d] [v] W σ Q hr (.cons rd .nil) q)
  | some kds =>
    rw [e] at q
    dsimp only at q
    cases e2 : (kds.mapM fun kd => match kd.1 with | .inr k => some k | .inl _ => none) with
    | none => rw [e2] at q; exact q.elim
    | some ks =>
      rw [e2] at q
      obtain ⟨p, kvs, rfl, h, hk, t⟩ := dK_rep hr rd e
      exact .inr ⟨p, kvs, ks, rfl, h, hk.symm.trans (inr_keys e2), fun l hl => m K L G H _ _ l W σ Q hr (reps_strs _) hl q⟩
section
variable {X : Cx} {W : WX} {pos p : Pos} {e : Expr} {g : FA}
theorem xe_sorted2 {mk : List D → GH → R D} (m : Mk mk) (hc : X.calm = true) (hu : X.A.units + 64 < cLine) (hm : X.mg "sorted" = none) (ha : xA X W [e] g) (hg : Gl X "sorted" := by rfl) (he : starEach [e] X.env = (false, eval e X.env) :: starEach [] X.env := by rfl) : xE X W (.Call (.Name "sorted" p) [e] [] pos) (eCB (one (dSorted2 mk)) g) :=
  xe_cb ((cr_sortedDat hu).or (cr_sortedKeys hc hu)) (cb_sorted2 m) hm (by decide +kernel) ha hg (by decide) (by decide) he rfl
end
end CF
end
section
set_option maxRecDepth 100000
set_option maxHeartbeats 1000000
/-! dict(..) of a tuple of pairs. -/
namespace CF
open PySem PySem.Spec PyProof.Rows L2

def rDictP (K : PySem.W.Frag) : List V → Hp → VK → Prop := fun xs H Q => ∃ (a : Addr) (o : Obj) (ps : List Addr) (kvs : List (Key × V)), xs = [.ref a] ∧ H a = some (.frz o (.tup (ps.map V.ref))) ∧ o.dict = none ∧ Paired (fun p kv => SqT K H p [kV kv.1, kv.2]) ps kvs ∧
    ∀ p, H p = none → Q (.ref p) (upd H p (.dK (mergeK [] kvs)))
section
variable {X : Cx} {W : WX} {pos p : Pos} {e : Expr} {g : FA}
theorem call_dictT (hcalm : X.calm = true) : CallR X (.type "dict") (rDictP X.K) := by
  intro pins s σ H xs us Q I r ⟨a, o, ps, kvs, ex, hq, od, hp, q⟩
  subst ex
  obtain ⟨u, eu, rx⟩ := vals1 r
  subst eu
  cases rx
  obtain ⟨its, rv, tu, hz⟩ := I.tuple (xs := ps.map V.ref) (.inl (.inr ⟨o, hq⟩))
  have ei := refs_at rv
  subst ei
  rw [List.length_map] at hz
  obtain ⟨prs, rel, hl, hpr⟩ := pairs_of I hp
  have g := (I.hok a _ hq).1
  obtain ⟨o', ho', hc, n, hdat⟩ := tu
  rw [g] at ho'; cases ho'
  refine dict_of_tup (prs := prs) (I.ok.hd hcalm) g hc od hdat (by simp [hl]) (by rw [hl]; exact hz) (fun j q' e => ?_) fun h' tk hd' k => ?_
  · obtain ⟨b, u, e1, e2, e3⟩ := hpr j q' e
    exact ⟨b, u, by simp [e1], e2, e3⟩
  · have hm : (s.heap.objs.size == sysModules) = false := beq_eq_false_iff_ne.mpr (Nat.ne_of_gt I.big)
    have hlen : (mergeK [] kvs).length ≤ sizeLine := by
      refine Nat.le_trans (length_mergeK kvs []) ?_
      rw [List.length_nil, Nat.zero_add, rel.length, hl]
      exact hz
    exact ⟨.ref s.heap.objs.size, upd H s.heap.objs.size (.dK (mergeK [] kvs)), I.laid (t' := tk) k (Nat.le_refl _) (show ObjOk X.prog X.w _ _ _ (.dK (mergeK [] kvs)) from ⟨hlen, hm, merged [] prs, KV.merge rel .nil, hd'⟩), rfl, q _ (I.hok.fresh (Nat.le_refl _))⟩
end
end CF
end
section
set_option maxRecDepth 100000
set_option maxHeartbeats 1000000
/-! dicts by data; what is never run. -/
namespace CF
open PySem PySem.Spec PyProof.Rows L2
def putD {κ : Type} [DecidableEq κ] (kds : List (κ × D)) (k : κ) (d : D) : List (κ × D) := if (kds.any fun p => decide (p.1 = k)) = true then kds.map (fun p => if p.1 = k then (p.1, d) else p) else kds ++ [(k, d)]
def mergeD {κ : Type} [DecidableEq κ] (kds more : List (κ × D)) : List (κ × D) := more.foldl (fun acc p => putD acc p.1 p.2) kds
/-- a table of data stands for a table of values -/
inductive KR {κ : Type} (K : PySem.W.Frag) (Z : Hp) (r : List Addr) : List (κ × D) → List (κ × V) → Prop where
  | nil : KR K Z r [] []
  | cons {k d v ds vs} : Rep K Z r d v → KR K Z r ds vs → KR K Z r ((k, d) :: ds) ((k, v) :: vs)
section
variable {κ : Type} [DecidableEq κ] {K : PySem.W.Frag} {Z : Hp} {r : List Addr}
theorem KR.to {kds : List (κ × D)} {kvs : List (κ × V)} (h : KR K Z r kds kvs) : kds.map (·.1) = kvs.map (·.1) ∧ Reps K Z r (kds.map (·.2)) (kvs.map (·.2)) := by
  induction h with
  | nil => exact ⟨rfl, .nil⟩
  | cons x t ih => exact ⟨by simp [ih.1], .cons x ih.2⟩
theorem KR.of : ∀ {kds : List (κ × D)} {kvs : List (κ × V)}, kds.map (·.1) = kvs.map (·.1) → Reps K Z r (kds.map (·.2)) (kvs.map (·.2)) → KR K Z r kds kvs
  | [], [], _, _ => .nil
  | [], _ :: _, e, _ => by simp at e
  | _ :: _, [], e, _ => by simp at e
  | (k1, d1) :: r1, (k2, v2) :: r2, e, t => by
    simp only [List.map_cons, List.cons.injEq] at e
    obtain ⟨e1, e2⟩ := e
    subst e1
    cases t with
    | cons h t => exact .cons h (KR.of e2 t)
theorem KR.append {a b : List (κ × D)} {c d : List (κ × V)} (h : KR K Z r a c) (k : KR K Z r b d) : KR K Z r (a ++ b) (c ++ d) := by
  induction h with
  | nil => exact k
  | cons x t ih => exact .cons x ih
theorem KR.any {kds : List (κ × D)} {kvs : List (κ × V)} (h : KR K Z r kds kvs) (k : κ) : (kds.any fun p => decide (p.1 = k)) = kvs.any fun p => decide (p.1 = k) := by
  induction h with
  | nil => rfl
  | cons x t ih => rw [List.any_cons, List.any_cons, ih]
theorem KR.put {kds : List (κ × D)} {kvs : List (κ × V)} (h : KR K Z r kds kvs) (k : κ) {d : D} {v : V} (x : Rep K Z r d v) : KR K Z r (putD kds k d) (putK kvs k v) := by
  unfold putD putK
  rw [h.any k]
  by_cases c : (kvs.any fun p => decide (p.1 = k)) = true
  · rw [if_pos c, if_pos c]
    clear c
    induction h with
    | nil => exact .nil
    | @cons k1 d1 v1 ds vs y t ih =>
      rw [List.map_cons, List.map_cons]
      by_cases e : k1 = k
      · rw [if_pos e, if_pos e]; exact .cons x ih
      · rw [if_neg e, if_neg e]; exact .cons y ih
  · rw [if_neg c, if_neg c]
    exact h.append (.cons x .nil)
end
theorem KR.merge {K : PySem.W.Frag} {Z : Hp} {r : List Addr} {more : List (Key × D)} {mv : List (Key × V)} (m : KR K Z r more mv) : ∀ {kds : List (Key × D)} {kvs : List (Key × V)}, KR K Z r kds kvs → KR K Z r (mergeD kds more) (mergeK kvs mv) := by
  induction m with
  | nil => intro kds kvs h; exact h
  | cons x t ih => intro kds kvs h; exact ih (h.put _ x)
/-- the pairs (key, value) of a tuple -/
def pairD : D → Option (Key × D)
  | .tup [k, d] => (keyD k).map fun k => (k, d)
  | .pt [k, d] => (keyD k).map fun k => (k, d)
  | _ => none
def pairsD : List D → Option (List (Key × D))
  | [] => some []
  | x :: r => match pairD x, pairsD r with
    | some p, some ps => some (p :: ps)
    | _, _ => none
section
variable {K : PySem.W.Frag} {L : Lk} {G : GH} {H : Hp}
theorem pairD_rep (hr : HR K L G H) {x : D} {v : V} {k : Key} {d : D} (rx : Rep K L.Z L.r x v) (e : pairD x = some (k, d)) : ∃ p u, v = .ref p ∧ SqT K H p [kV k, u] ∧ Rep K L.Z L.r d u := by
  have go : ∀ ds, tupOf x = some ds → (∃ a, ds = [a, d] ∧ keyD a = some k) → ∃ p u, v = .ref p ∧ SqT K H p [kV k, u] ∧ Rep K L.Z L.r d u := fun ds e1 ⟨a, e2, e3⟩ => by
    subst e2
    obtain ⟨p, vs, rfl, s, t⟩ := tupOf_rep hr rx e1
    cases t with
    | cons ra t =>
      cases t with
      | cons rd t =>
        cases t
        rw [keyD_rep ra e3] at s
        exact ⟨p, _, rfl, s, rd⟩
  unfold pairD at e
  split at e
  · rename_i k0 d0
    cases q : keyD k0 with
    | none => rw [q] at e; cases e
    | some k' =>
      rw [q] at e
      cases e
      exact go _ rfl ⟨k0, rfl, q⟩
  · rename_i k0 d0
    cases q : keyD k0 with
    | none => rw [q] at e; cases e
    | some k' =>
      rw [q] at e
      cases e
      exact go _ rfl ⟨k0, rfl, q⟩
  · cases e
theorem pairsD_rep (hr : HR K L G H) : ∀ {xs : List D} {vs : List V} {kds : List (Key × D)}, Reps K L.Z L.r xs vs → pairsD xs = some kds → ∃ ps kvs, vs = ps.map V.ref ∧ Paired (fun p (kv : Key × V) => SqT K H p [kV kv.1, kv.2]) ps kvs ∧ KR K L.Z L.r kds kvs
  | [], _, kds, .nil, e => by
    cases e
    exact ⟨[], [], rfl, .nil, .nil⟩
  | x :: xs, _, kds, .cons rx t, e => by
    rw [pairsD] at e
    cases e1 : pairD x with
    | none => rw [e1] at e; cases e
    | some kd =>
      cases e2 : pairsD xs with
      | none => rw [e1, e2] at e; cases e
      | some rest =>
        rw [e1, e2] at e
        cases e
        obtain ⟨p, u, rfl, s, rd⟩ := pairD_rep hr rx e1
        obtain ⟨ps, kvs, rfl, pp, kk⟩ := pairsD_rep hr t e2
        exact ⟨p :: ps, (kd.1, u) :: kvs, rfl, .cons s pp, .cons rd kk⟩
/-- how a new dict is told -/
def MkK (mk : List (Key × D) → GH → R D) : Prop := ∀ (K : PySem.W.Frag) (L : Lk) (G : GH) (H : Hp) (ds : List (Key × D)) (vs : List (Key × V)) (p : Addr) (W : WX) (σ : St) (Q : VK), HR K L G H → KR K L.Z L.r ds vs → H p = none → Sat K W L σ (repD K) (mk ds G) Q → Q (.ref p) (upd H p (.dK vs))
def mkKF : List (Key × D) → GH → R D := fun ds G => .ok (.dK ds) G
def mkKM : List (Key × D) → GH → R D := fun ds G => .ok (.ref G.length) (G ++ [.dK ds])
theorem mkKF_ok : MkK mkKF := fun K L G H ds vs p W σ Q hr r hp q => by
  have le := Lk.le_put (o := HO.dK vs) (hr.zfree hp)
  exact q _ _ _ le (hr.put hp) (.dK (by show upd L.Z p _ p = _; exact upd_same) r.to.1 (r.to.2.mono le))
theorem mkKM_ok : MkK mkKM := fun K L G H ds vs p W σ Q hr r hp q => by
  have le : L.le (L.add p) := Lk.le_add
  exact q _ _ _ le (hr.add hp (.dK upd_same r.to.1 (r.to.2.mono le))) (.ref (by
    show (L.r ++ [p])[G.length]? = some p
    rw [← hr.len, List.getElem?_append_right (Nat.le_refl _), Nat.sub_self]; rfl))
/-- dict(x): of a dict, of a list or a tuple of pairs -/
def dDict (mk : List (Key × D) → GH → R D) : D → GH → R D := fun x G => match x with
  | .pt xs => (match pairsD xs with
    | some kds => mk (mergeD [] kds) G
    | none => .no)
  | x => match dKOf G x with
    | some kds => mk kds G
    | none => match (lstOf G x).bind pairsD with
      | some kds => mk (mergeD [] kds) G
      | none => .no
def rDictC (K : PySem.W.Frag) : List V → Hp → VK → Prop := fun xs H Q => (rDictP K xs H Q ∨ (∃ (a : Addr) (kvs : List (Key × V)), xs = [.ref a] ∧ Rd H a (.dK kvs) ∧ ∀ p, H p = none → Q (.ref p) (upd H p (.dK kvs)))) ∨
  ∃ (a : Addr) (ps : List Addr) (kvs : List (Key × V)), xs = [.ref a] ∧ SqL K H a (ps.map V.ref) ∧ Paired (fun p kv => SqT K H p [kV kv.1, kv.2]) ps kvs ∧ ∀ p, H p = none → Q (.ref p) (upd H p (.dK (mergeK [] kvs)))
theorem cb_dict {mk : List (Key × D) → GH → R D} (m : MkK mk) : CbD K (one (dDict mk)) (rDictC K) := cb_one fun L G H d v W σ Q hr rd q => by
  have gen : Sat K W L σ (repD K) (match dKOf G d with | some kds => mk kds G | none => match (lstOf G d).bind pairsD with | some kds => mk (mergeD [] kds) G | none => .no) Q → rDictC K [v] H Q := fun q => by
    cases e : dKOf G d with
    | some kds =>
      rw [e] at q
      obtain ⟨p, kvs, rfl, h, hk, t⟩ := dK_rep hr rd e
      exact .inl (.inr ⟨p, kvs, rfl, h, fun l hl => m K L G H _ _ l W σ Q hr (.of hk t) hl q⟩)
    | none =>
      rw [e] at q
      dsimp only at q
      cases e1 : lstOf G d with
      | none => rw [e1] at q; exact q.elim
      | some xs =>
        rw [e1, Option.bind_some] at q
        cases e2 : pairsD xs with
        | none => rw [e2] at q; exact q.elim
        | some kds =>
          rw [e2] at q
          obtain ⟨p, vs, rfl, s, t⟩ := lst_rep hr rd e1
          obtain ⟨ps, kvs, rfl, pp, kk⟩ := pairsD_rep hr t e2
          exact .inr ⟨p, ps, kvs, rfl, s, pp, fun l hl => m K L G H _ _ l W σ Q hr (kk.merge .nil) hl q⟩
  cases d with
  | pt xs =>
    have q' : Sat K W L σ (repD K) (match pairsD xs with | some kds => mk (mergeD [] kds) G | none => .no) Q := q
    cases e2 : pairsD xs with
    | none => rw [e2] at q'; exact q'.elim
    | some kds =>
      rw [e2] at q'
      have rd' : Rep K L.Z L.r (.pt xs) v := rd
      cases rd' with
      | @pt p o vs _ z k t =>
        obtain ⟨ps, kvs, rfl, pp, kk⟩ := pairsD_rep hr t e2
        exact .inl (.inl ⟨p, o, ps, kvs, rfl, (hr.z _ _ z).frz, k, pp, fun l hl => m K L G H _ _ l W σ Q hr (kk.merge .nil) hl q'⟩)
  | _ => exact gen q
end
section
variable {X : Cx} {W : WX} {pos p p2 q : Pos} {e : Expr} {g : FA} {f : FE}
theorem xe_dict1 {mk : List (Key × D) → GH → R D} (m : MkK mk) (hc : X.calm = true) (hm : X.mg "dict" = none) (ha : xA X W [e] g) (hg : Gl X "dict" := by rfl) (he : starEach [e] X.env = (false, eval e X.env) :: starEach [] X.env := by rfl) : xE X W (.Call (.Name "dict" p) [e] [] pos) (eCB (one (dDict mk)) g) :=
  xe_cty (((call_dictT hc).or call_dictD).or (call_dictP hc)) (cb_dict m) hm (by decide +kernel) ha hg (by decide) (by decide) he rfl
/-- what is never run -/
def sDead : FS := fun _ _ => .no
theorem xs_dead {st : Stmt} : xS X W st sDead := ⟨fun pins s σ H D I ⟨L, δ, G, hr, er, q⟩ => q.elim⟩
theorem xss_dead {st : List Stmt} : xSs X W st sDead := ⟨fun pins s σ H D I ⟨L, δ, G, hr, er, q⟩ => q.elim⟩
def eDead : FE := fun _ _ => .no
theorem xe_dead {e : Expr} : xE X W e eDead := ⟨fun pins s σ H D I ⟨L, δ, G, hr, er, q⟩ => q.elim⟩
end
end CF
end
section
set_option maxRecDepth 100000
set_option maxHeartbeats 1000000
/-! len(set(xs)) by data. -/
namespace CF
open PySem PySem.Spec PyProof.Rows L2
def strsOf : List D → Option (List Str)
  | [] => some []
  | .str x :: r => (strsOf r).map (x :: ·)
  | _ => none
@[simp] theorem strsOf_map (xs : List Str) : strsOf (xs.map D.str) = some xs := by induction xs with | nil => rfl | cons x r ih => simp [strsOf, ih]
theorem strs_rep {K : PySem.W.Frag} {Z : Hp} {r : List Addr} : ∀ {ds : List D} {vs : List V} {xs : List Str}, Reps K Z r ds vs → strsOf ds = some xs → vs = xs.map V.str
  | _, _, _, .nil, e => by cases e; rfl
  | d :: ds, _, xs, .cons h t, e => by
    cases h with
    | str x =>
      rw [strsOf] at e
      cases q : strsOf ds with
      | none => rw [q] at e; cases e
      | some ys => rw [q] at e; cases e; rw [strs_rep t q]; rfl
    | _ => simp [strsOf] at e
def eLenSet (f : FE) : FE := fun δ G => (f δ G).bind fun d G1 => match (lstOf G1 d).bind strsOf with
  | some xs => if xs.length < 4000 then .ok (.int (met xs).length) G1 else .no
  | none => .no
section
variable {X : Cx} {W : WX} {pos p p2 q : Pos} {a : Expr} {f : FE}
theorem xe_lenSet (hc : X.calm = true) (hm : X.mg "len" = none) (hm2 : X.mg "set" = none) (ha : xE X W a f) (hg : Gl X "len" := by rfl) (hg2 : Gl X "set" := by rfl) (na : starEach [a] X.env = (false, eval a X.env) :: starEach [] X.env := by rfl) :
    xE X W (.Call (.Name "len" p) [.Call (.Name "set" p2) [a] [] q] [] pos) (eLenSet f) := by
  refine ⟨fun pins s σ H Q I ⟨L, δ, G, hr, er, h⟩ => Call_ (ld_blt I hg hm boot_len (PyProof.Rows.callWith_builtin1 (PyProof.Rows.args_cons (Call_ (ld_blt I hg2 hm2 boot_set
    (PyProof.Rows.callWith_type1 (PyProof.Rows.args_cons (thn (ha.run pins s σ H (fun v H1 => ∃ (l : Addr) (xs : List Str), v = .ref l ∧ SqL X.K H1 l (xs.map V.str) ∧ xs.length < 4000 ∧ Q (.int (met xs).length) H1) I ?_)
      fun v s1 ⟨x, H1, I1, r1, q1⟩ => PyProof.Rows.args_nil ?_) na) na rfl))) rfl) rfl rfl))⟩
  · exact Sat.bind (rep' := repD X.K) hr er h fun L1 G1 H1 d v le hr1 er1 rd q1 => by
      cases e : lstOf G1 d with
      | none => rw [e] at q1; exact q1.elim
      | some ds =>
        rw [e, Option.bind_some] at q1
        cases e2 : strsOf ds with
        | none => rw [e2] at q1; exact q1.elim
        | some xs =>
          rw [e2] at q1
          dsimp only at q1
          by_cases hl : xs.length < 4000
          · rw [if_pos hl] at q1
            obtain ⟨p, vs, rfl, s, t⟩ := lst_rep hr1 rd e
            exact ⟨p, xs, rfl, by rw [← strs_rep t e2]; exact s, hl, q1 L1 H1 _ (.refl _) hr1 (.int _)⟩
          · rw [if_neg hl] at q1; exact q1.elim
  · obtain ⟨l, xs, rfl, hq, hl, q1⟩ := q1
    cases r1
    obtain ⟨its, r, pl, hz⟩ := I1.list hq
    have hlen : its.toArray.size = xs.length := by rw [List.size_toArray, ← r.length, List.length_map]
    refine set_of_strs (I1.ok.hd hc) pl.isList (by simpa using L2.strsAre_of r) (by rw [hlen]; unfold scanBound; omega) fun h' tk hS hk => PyProof.Rows.args_nil ?_
    obtain ⟨o, es, ep, t, ho, hex, hd, _, _, _, hf, hn⟩ := hS
    have I2 : Inv X pins σ H1 { s1 with heap := h', toks := tk } := I1.kept fun b o e => hk b o (Heap.lt_size e) e
    have hm : (met xs).length ≤ xs.length := by have := met_le xs xs.length; rwa [List.take_length] at this
    exact call_len_set ho hex hd hf (by rw [hn] <;> omega) ⟨.int (met xs).length, H1, I2.tok _, ⟨_, by rw [hn]⟩, q1⟩
end
end CF
end
section
set_option maxRecDepth 100000
set_option maxHeartbeats 1000000
/-! Calls of the text's own defs, in short. -/
namespace CF
open PySem PySem.Spec PyProof.Rows L2
/-- a def as its callers see it: dvs, the values of the parameters that they leave out -/
structure Tx (K : PySem.W.Frag) (mg : Str → Option Value) (x : Str) (ps : List Str) (dvs : List V) (f : Addr) (fd : FuncData) : Prop where
  g : mg x = some (.ref f)
  k : PySem.W.keepIn K (.ref f) = true
  b : ∃ ds, Vals dvs ds ∧ Binds K fd ps ds
theorem Tx.all {K : PySem.W.Frag} {mg : Str → Option Value} {x qual : Str} {st : Stmt} {ps : List Str} {f : Addr} {fd : FuncData} (F : Fun K x qual st f fd) (g : mg x = some (.ref f)) (b : Binds K fd ps []) : Tx K mg x ps [] f fd := ⟨g, F.kp, [], .nil, b⟩
theorem FnD.mono {P : Program} {w : World} {K : PySem.W.Frag} {mg : Str → Option Value} {base : Heap} {j k : Nat} {f : Addr} {fd : FuncData} {ps : List Str} {F : List D → GH → R D} (h : FnD P w K mg base j f fd ps F) (i : j ≤ k) : FnD P w K mg base k f fd ps F :=
  ⟨fun B up s H ar us vs Q E room gd e0 bnd rel pr => h.go B up s H ar us vs Q E (room.mono i) gd e0 bnd rel pr⟩
/-- no promise -/
def fNo : List D → GH → R D := fun _ _ => .no
theorem FnD.no {P : Program} {w : World} {K : PySem.W.Frag} {mg : Str → Option Value} {base : Heap} {k : Nat} {f : Addr} {fd : FuncData} {ps : List Str} : FnD P w K mg base k f fd ps fNo :=
  ⟨fun _ _ _ _ _ _ _ _ _ _ _ _ _ _ ⟨_, _, _, _, _, _, q⟩ => q.elim⟩
section
variable {P : Program} {w : World} {K : PySem.W.Frag} {mg : Str → Option Value} {base : Heap} {N : List Str} {qual : Str} {sc : Scope} {f : Addr} {cd : Value} {A : Around} {outer : List Env} {s : Shared} {H : Hp} {E : XK}
theorem tkB : Takes (cxOf (L2.CX P w) P w K mg base N qual sc f cd A outer s H E) (wE E) := takes_of rfl rfl rfl rfl
theorem psB : PassesOwn (model P w) (cxOf (L2.CX P w) P w K mg base N qual sc f cd A outer s H E).A (cxOf (L2.CX P w) P w K mg base N qual sc f cd A outer s H E).env (cxOf (L2.CX P w) P w K mg base N qual sc f cd A outer s H E).xe := passes_of rfl
end
section
variable {X : Cx} {W : WX} {pos p : Pos}
theorem xe_call {k : Nat} {f : Addr} {fd : FuncData} {ps : List Str} {F : List D → GH → R D} {dvs : List V} {dds : List D} {x : Str} {e : Expr} {es : List Expr} {g : FA} (tk : Takes X W) (hr : Room k X.A) (hgd : X.A.guards = some [])
    {n : Nat} (t : Tx X.K X.mg x ps dvs f fd) (Fn : FnD X.prog X.w X.K X.mg X.base k f fd ps F) (rd : ∀ L : Lk, Reps X.K L.Z L.r dds dvs) (hn : ps.length = n)
    (ha : xA X W (e :: es) g) (hg : Gl X x := by rfl) (hdb : (x == ("__debug__" : Str)) = false := by decide) (he : starEach (e :: es) X.env = (false, eval e X.env) :: starEach es X.env := by rfl) (hpl : (backTo pos (starEach es X.env)).any (·.1) = false := by rfl) :
    xE X W (.Call (.Name x p) (e :: es) [] pos) (eCall n F dds g) :=
  hn ▸ let ⟨ds, hd, hb⟩ := t.b
  xe_callD tk Fn hr hgd t.g t.k hb hd rd ha hg hdb he hpl
end
end CF
end
section
set_option maxRecDepth 100000
set_option maxHeartbeats 1000000
/-! Running the functions: rules for simp. -/
namespace CF
open PySem PySem.Spec PyProof.Rows L2
theorem R.bind_cg {α β : Type} {r r' : R α} {k : α → GH → R β} (h : r = r') : r.bind k = r'.bind k := by rw [h]
theorem R.thn_cg {α : Type} {r r' : R α} {δ : DEnv} {k : α → GH → RS} (h : r = r') : r.thn δ k = r'.thn δ k := by rw [h]
theorem RS.seq_cg {r r' : RS} {k : DEnv → GH → RS} (h : r = r') : r.seq k = r'.seq k := by rw [h]
section
variable (δ : DEnv) (G : GH)
@[simp] theorem ap_eC (d : D) : eC d δ G = .ok d G := rfl
@[simp] theorem ap_eVar (i : Nat) : eVar i δ G = match δ[i]? with | some (some d) => .ok d G | _ => .no := rfl
@[simp] theorem ap_aNil : aNil δ G = .ok [] G := rfl
@[simp] theorem ap_aCons (f : FE) (g : FA) : aCons f g δ G = (f δ G).bind fun d G1 => (g δ G1).bind fun ds G2 => .ok (d :: ds) G2 := rfl
@[simp] theorem ap_eTup (g : FA) : eTup g δ G = (g δ G).bind fun ds G1 => if ds.length ≤ sizeLine then .ok (.tup ds) G1 else .no := rfl
@[simp] theorem ap_eTupP (g : FA) : eTupP g δ G = (g δ G).bind fun ds G1 => if ds.length ≤ sizeLine then .ok (.pt ds) G1 else .no := rfl
@[simp] theorem ap_eLst (g : FA) : eLst g δ G = (g δ G).bind fun ds G1 => if ds.length ≤ sizeLine then .ok (.lst ds) G1 else .no := rfl
@[simp] theorem ap_eLstM (g : FA) : eLstM g δ G = (g δ G).bind fun ds G1 => if ds.length ≤ sizeLine then .ok (.ref G1.length) (G1 ++ [.lst ds]) else .no := rfl
@[simp] theorem ap_eOp (f : F2) (a b : FE) : eOp f a b δ G = (a δ G).bind fun x G1 => (b δ G1).bind fun y G2 => f x y G2 := rfl
@[simp] theorem ap_eChain (f f' : F2) (a b c : FE) : eChain f f' a b c δ G = (a δ G).bind fun x G1 => (b δ G1).bind fun y G2 => (f x y G2).bind fun k G3 => match k with
  | .bl true => (c δ G3).bind fun z G4 => f' y z G4
  | .bl false => .ok (.bl false) G3
  | _ => .no := rfl
@[simp] theorem ap_asB (f : FE) : asB f δ G = (f δ G).bind fun d G1 => match d with | .bl b => .ok b G1 | _ => .no := rfl
@[simp] theorem ap_tAnd (f g : FT) : tAndD f g δ G = (f δ G).bind fun k G1 => if k then g δ G1 else .ok false G1 := rfl
@[simp] theorem ap_tOr (f g : FT) : tOrD f g δ G = (f δ G).bind fun k G1 => if k then .ok true G1 else g δ G1 := rfl
@[simp] theorem ap_tNot (f : FT) : tNotD f δ G = (f δ G).bind fun k G1 => .ok (!k) G1 := rfl
@[simp] theorem ap_eTru (f : FE) : eTru f δ G = (f δ G).bind fun d G1 => match truD G1 d with | some b => .ok b G1 | none => .no := rfl
@[simp] theorem ap_eIf (t : FT) (f g : FE) : eIf t f g δ G = (t δ G).bind fun k G1 => if k then f δ G1 else g δ G1 := rfl
@[simp] theorem ap_sNext : sNext δ G = .nx δ G := rfl
@[simp] theorem ap_sSeq (f g : FS) : sSeq f g δ G = (f δ G).seq g := rfl
@[simp] theorem ap_sRet (f : FE) : sRet f δ G = (f δ G).thn δ fun d G1 => .rt d G1 := rfl
@[simp] theorem ap_sRetN : sRetN δ G = .rt .non G := rfl
@[simp] theorem ap_sIf (t : FT) (f g : FS) : sIf t f g δ G = (t δ G).thn δ fun k G1 => if k then f δ G1 else g δ G1 := rfl
@[simp] theorem ap_sSet (i : Nat) (f : FE) : sSet i f δ G = (f δ G).thn δ fun d G1 => .nx (δ.set i (some d)) G1 := rfl
@[simp] theorem ap_sDrop (f : FE) : sDrop f δ G = (f δ G).thn δ fun _ G1 => .nx δ G1 := rfl
@[simp] theorem ap_sBreak : sBreak δ G = .bk δ G := rfl
@[simp] theorem ap_sCont : sCont δ G = .ct δ G := rfl
@[simp] theorem ap_gNm (i : Nat) (d : D) : gNm i d δ G = .nx (δ.set i (some d)) G := rfl
@[simp] theorem ap_gsNil : gsNil [] δ G = .nx δ G := rfl
@[simp] theorem ap_gsCons (g : FG) (k : FGs) (d : D) (r : List D) : gsCons g k (d :: r) δ G = (g d δ G).seq (k r) := rfl
@[simp] theorem ap_gTp (n : Nat) (k : FGs) (ds : List D) : gTp n k (.tup ds) δ G = if ds.length = n then k ds δ G else .no := rfl
@[simp] theorem ap_sAsg (f : FE) (g : FG) : sAsg f g δ G = (f δ G).thn δ fun d G1 => match g d δ G1 with | .nx δ' G' => .nx δ' G' | _ => .no := rfl
@[simp] theorem ap_eOne (f : FE) (k : D → GH → R D) : eOne f k δ G = (f δ G).bind k := rfl
@[simp] theorem ap_eUn (f : D → GH → R D) (a : FE) : eUn f a δ G = (a δ G).bind f := rfl
@[simp] theorem ap_eCB (f : List D → GH → R D) (g : FA) : eCB f g δ G = (g δ G).bind f := rfl
@[simp] theorem ap_one (f : D → GH → R D) (d : D) : one f [d] G = f d G := rfl
@[simp] theorem ap_eCall (n : Nat) (F : List D → GH → R D) (dds : List D) (g : FA) : eCall n F dds g δ G = (g δ G).bind fun ds G1 => if (ds ++ dds).length = n then F (ds ++ dds) G1 else .no := rfl
@[simp] theorem ap_eAnd (f g : FE) : eAnd f g δ G = (f δ G).bind fun d G1 => match truD G1 d with | some true => g δ G1 | some false => .ok d G1 | none => .no := by
  unfold eAnd
  congr 1
@[simp] theorem ap_eOr (f g : FE) : eOr f g δ G = (f δ G).bind fun d G1 => match truD G1 d with | some true => .ok d G1 | some false => g δ G1 | none => .no := by
  unfold eOr
  congr 1
@[simp] theorem ap_eNot (t : FT) : eNot t δ G = (t δ G).bind fun k G1 => .ok (.bl (!k)) G1 := rfl
@[simp] theorem ap_iSeq (f : FE) : iSeq f δ G = (f δ G).bind fun x G1 => match itsD G1 x with | some it => .ok it G1 | none => .no := rfl
@[simp] theorem ap_eLc (mk : List D → GH → R D) (fi : FI) (g : FG) (t : FT) (f : FE) (vs : List Nat) : eLc mk fi g t f vs δ G = (fi δ G).bind fun it G1 => if it.chk G1 then (lcL it.chk g t f (wipeD δ vs) it.items [] G1).bind mk else .no := rfl
@[simp] theorem ap_sFor (fi : FI) (g : FG) (body : FS) : sFor fi g body δ G = (fi δ G).thn δ fun it G1 => if it.chk G1 then sForL it.chk g body it.items δ G1 else .no := rfl
@[simp] theorem ap_mkF (ds : List D) : mkF ds G = .ok (.lst ds) G := rfl
@[simp] theorem ap_mkM (ds : List D) : mkM ds G = .ok (.ref G.length) (G ++ [.lst ds]) := rfl
@[simp] theorem ap_tYes : tYesD δ G = .ok true G := rfl
@[simp] theorem wipeD_nil : wipeD δ [] = δ := rfl
@[simp] theorem wipeD_cons (v : Nat) (vs : List Nat) : wipeD δ (v :: vs) = (wipeD δ vs).set v none := rfl
@[simp] theorem truD_bl (b : Bool) : truD G (.bl b) = some b := rfl
@[simp] theorem truD_non : truD G .non = some false := rfl
@[simp] theorem truD_int (i : Int) : truD G (.int i) = some (i != 0) := rfl
@[simp] theorem dIB_ap (f : Int → Int → Bool) (i j : Int) : dIB f (.int i) (.int j) G = .ok (.bl (f i j)) G := rfl
@[simp] theorem dI_ap (c : Int → Int → Bool) (f : Int → Int → Int) (i j : Int) : dI c f (.int i) (.int j) G = if c i j then .ok (.int (f i j)) G else .no := rfl
@[simp] theorem dNeg_ap (i : Int) : dNeg (.int i) G = .ok (.int (-i)) G := rfl
@[simp] theorem dIsi_ap (T : String) (d : D) : dIsi T d G = match tyN G d with | some t => (match isiB t T with | some b => .ok (.bl b) G | none => .no) | none => .no := rfl
end
/-- a def's function at its arguments -/
theorem defF_ap (N : List Str) (fb : FS) (ds : List D) (G : GH) : defF N fb ds G = match fb (startD N ds) G with
  | .nx _ G' => .ok .non G'
  | .rt d G' => .ok d G'
  | .ex x _ G' => .ex x G'
  | _ => .no := rfl
section
variable (δ : DEnv) (G : GH)
theorem dIx_ref (n : Nat) (i : Int) {xs : List D} (h : G[n]? = some (.lst xs)) : dIx (.ref n) (.int i) G = match atI xs i with | some d => .ok d G | none => .no := by
  show (match lstOf G (.ref n) with | some xs => _ | none => _) = _
  rw [lstOf_ref, h] <;> rfl
@[simp] theorem dIx_tup (xs : List D) (i : Int) : dIx (.tup xs) (.int i) G = match atI xs i with | some d => .ok d G | none => .no := rfl
@[simp] theorem dIx_pt (xs : List D) (i : Int) : dIx (.pt xs) (.int i) G = match atI xs i with | some d => .ok d G | none => .no := rfl
@[simp] theorem dIx_lst (xs : List D) (i : Int) : dIx (.lst xs) (.int i) G = match atI xs i with | some d => .ok d G | none => .no := rfl
@[simp] theorem dIx_scr (xs : List D) (i : Int) : dIx (.scr xs) (.int i) G = match atI xs i with | some d => .ok d G | none => .no := rfl
@[simp] theorem atI_0 {α : Type} (x : α) (r : List α) : atI (x :: r) 0 = some x := by simp [atI, ixN]
@[simp] theorem atI_1 {α : Type} (x y : α) (r : List α) : atI (x :: y :: r) 1 = some y := by
  have h : (1 : Int) < ((x :: y :: r).length : Int) := by simp only [List.length_cons]; omega
  unfold atI ixN
  rw [if_pos (by decide), if_pos h]
  rfl
@[simp] theorem atI_2 {α : Type} (x y z : α) (r : List α) : atI (x :: y :: z :: r) 2 = some z := by
  have h : (2 : Int) < ((x :: y :: z :: r).length : Int) := by simp only [List.length_cons]; omega
  unfold atI ixN
  rw [if_pos (by decide), if_pos h]
  rfl
theorem atI_nat2 {α : Type} (xs : List α) (j : Nat) : atI xs (j : Int) = xs[j]? := by
  unfold atI ixN
  by_cases h : j < xs.length
  · have h2 : (j : Int) < (xs.length : Int) := by omega
    simp [h2]
  · have h2 : ¬ (j : Int) < (xs.length : Int) := by omega
    simp [h2, List.getElem?_eq_none (by omega : xs.length ≤ j)]
@[simp] theorem dAdd_int (mk : List D → GH → R D) (i j : Int) : dAdd mk (.int i) (.int j) G = .ok (.int (i + j)) G := rfl
@[simp] theorem dAdd_tup (mk : List D → GH → R D) (a b : List D) : dAdd mk (.tup a) (.tup b) G = if a.length + b.length ≤ sizeLine then .ok (.tup (a ++ b)) G else .no := rfl
@[simp] theorem dAdd_pt (mk : List D → GH → R D) (a b : List D) : dAdd mk (.pt a) (.pt b) G = if a.length + b.length ≤ sizeLine then .ok (.pt (a ++ b)) G else .no := rfl
@[simp] theorem dAdd_lst (mk : List D → GH → R D) (a b : List D) : dAdd mk (.lst a) (.lst b) G = if a.length + b.length ≤ sizeLine then mk (a ++ b) G else .no := rfl
@[simp] theorem dAdd_str (mk : List D → GH → R D) (a b : Str) : dAdd mk (.str a) (.str b) G = if a.length + b.length ≤ sizeLine then .ok (.str (a ++ b)) G else .no := rfl
@[simp] theorem dInt_int (i : Int) : dInt (.int i) G = .ok (.int i) G := rfl
@[simp] theorem dInt_bl (b : Bool) : dInt (.bl b) G = .ok (.int (if b then 1 else 0)) G := rfl
@[simp] theorem dStr_int (i : Int) : dStr (.int i) G = if i.natAbs.log2 < 1920 then .ok (.str (toString i)) G else .no := rfl
@[simp] theorem dStr_str (x : Str) : dStr (.str x) G = .ok (.str x) G := rfl
theorem ap_setI (fo fi f : FE) : sSetI fo fi f δ G = (f δ G).thn δ fun d G1 => (fo δ G1).thn δ fun o G2 => (fi δ G2).thn δ fun i G3 => match celL G3 o, i with
  | some (n, xs), .int z => (match ixN xs.length z with
    | some j => .nx δ (G3.set n (.lst (xs.set j d)))
    | none => .no)
  | _, _ => .no := rfl
theorem pyEq_int (i j : Int) : pyEq G (.int i) (.int j) = some (i == j) := by simp [pyEq, res, D.py, PyData.depth, PyData.eqv]
@[simp] theorem dEq_int (i j : Int) : dEq (.int i) (.int j) G = .ok (.bl (i == j)) G := by simp [dEq, pyEq_int]
@[simp] theorem dNe_int (i j : Int) : dNe (.int i) (.int j) G = .ok (.bl (!(i == j))) G := by simp [dNe, pyEq_int]
theorem pyEq_str {x y : Str} (hx : PyData.strOk x = true) (hy : PyData.strOk y = true) : pyEq G (.str x) (.str y) = some (x == y) := by simp [pyEq, res, D.py, hx, hy, PyData.depth, PyData.eqv]
theorem dEq_str {x y : Str} (hx : PyData.strOk x = true) (hy : PyData.strOk y = true) : dEq (.str x) (.str y) G = .ok (.bl (x == y)) G := by simp [dEq, pyEq_str G hx hy]
theorem dNe_str {x y : Str} (hx : PyData.strOk x = true) (hy : PyData.strOk y = true) : dNe (.str x) (.str y) G = .ok (.bl (!(x == y))) G := by simp [dNe, pyEq_str G hx hy]
@[simp] theorem dLen_lst (xs : List D) : dLen (.lst xs) G = .ok (.int xs.length) G := rfl
@[simp] theorem dLen_tup (xs : List D) : dLen (.tup xs) G = .ok (.int xs.length) G := rfl
@[simp] theorem dLen_pt (xs : List D) : dLen (.pt xs) G = .ok (.int xs.length) G := rfl
@[simp] theorem dLen_scr (xs : List D) : dLen (.scr xs) G = .ok (.int xs.length) G := rfl
theorem dLen_ref (n : Nat) {xs : List D} (h : G[n]? = some (.lst xs)) : dLen (.ref n) G = .ok (.int xs.length) G := by
  simp [dLen, lenO, h]
@[simp] theorem dIsN_non (x : D) : dIsN x .non G = .ok (.bl (isN x)) G := rfl
@[simp] theorem dNotN_non (x : D) : dNotN x .non G = .ok (.bl (!isN x)) G := rfl
end
@[simp] theorem ap_eMt (T : String) (f : FM) (o : FE) (g : FA) (δ : DEnv) (G : GH) : eMt T f o g δ G = (o δ G).bind fun d G1 => if tyM T G1 d then (g δ G1).bind fun ds G2 => f d ds G2 else .no := rfl
@[simp] theorem ap_eMt0 (T : String) (f : FM) (o : FE) (δ : DEnv) (G : GH) : eMt0 T f o δ G = (o δ G).bind fun d G1 => if tyM T G1 d then f d [] G1 else .no := rfl
theorem tyM_list {G : GH} {n : Nat} {xs : List D} (h : G[n]? = some (.lst xs)) : tyM "list" G (.ref n) = true := by simp [tyM, h]
theorem mPopAt_ap {G : GH} {n j : Nat} {xs : List D} {r : Int} (h : G[n]? = some (.lst xs)) (hr : r = (j : Int)) (hj : j < xs.length) (hl : xs.length < 1000000) : mPopAt (.ref n) [.int r] G = .ok xs[j] (G.set n (.lst (xs.eraseIdx j))) := by
  have e1 : ixN xs.length (j : Int) = some j := by
    unfold ixN
    rw [if_pos (by omega), if_pos (by omega)]
    simp
  have e2 : xs.length < 4611686018427387904 := by omega
  subst hr
  simp [mPopAt, h, e1, hj, e2]
theorem mAppend_ap {G : GH} {n : Nat} {xs : List D} {y : D} (h : G[n]? = some (.lst xs)) (hl : xs.length < sizeLine) : mAppend (.ref n) [y] G = .ok .non (G.set n (.lst (xs ++ [y]))) := by simp [mAppend, h, hl]
def rng1K : List D → GH → R Its := fun ds G1 => match ds with
  | [.int j] => if rngC j then .ok (rngIts 0 j.toNat) G1 else .no
  | _ => .no
@[simp] theorem ap_iRg1 (g : FA) (δ : DEnv) (G : GH) : iRg1 g δ G = (g δ G).bind rng1K := rfl
theorem rng1K_nat {n : Nat} {G : GH} (h : n < 1000000) : rng1K [.int n] G = .ok (rngIts 0 n) G := by
  have c := rngC_nat h
  simp [rng1K, c]
@[simp] theorem rngIts_items (lo : Int) (n : Nat) : (rngIts lo n).items = (List.range n).map fun i => .int (lo + (i : Nat)) := rfl
@[simp] theorem rngIts_chk (lo : Int) (n : Nat) : (rngIts lo n).chk = fun _ => true := rfl
/-- one more cell behind -/
theorem snoc_set {G : GH} {n : Nat} (h : n < G.length) (x c : Cell) : (G ++ [x]).set n c = G.set n c ++ [x] := by rw [List.set_append_left _ _ h]
theorem snoc_get {G : GH} {n : Nat} (h : n < G.length) (x : Cell) : (G ++ [x])[n]? = G[n]? := by rw [List.getElem?_append_left h]
theorem snoc_last (G : GH) (x : Cell) : (G ++ [x])[G.length]? = some x := by simp
theorem snoc_setl (G : GH) (x y : Cell) : (G ++ [x]).set G.length y = G ++ [y] := by rw [List.set_append_right _ _ (Nat.le_refl _)]; simp
theorem erase_map {α β : Type} (f : α → β) : ∀ (l : List α) (i : Nat), (l.map f).eraseIdx i = (l.eraseIdx i).map f
  | [], _ => rfl
  | _ :: _, 0 => rfl
  | x :: l, i + 1 => by
    rw [List.map_cons, List.eraseIdx_cons_succ, List.eraseIdx_cons_succ, List.map_cons, erase_map f l i]
theorem erase_perm {α : Type} : ∀ (l : List α) (i : Nat) (h : i < l.length), (l[i] :: l.eraseIdx i).Perm l
  | [], _, h => absurd h (Nat.not_lt_zero _)
  | x :: l, 0, _ => .refl _
  | x :: l, i + 1, h => by
    have h' : i < l.length := by simpa using h
    show (l[i] :: x :: l.eraseIdx i).Perm (x :: l)
    exact (List.Perm.swap _ _ _).trans ((erase_perm l i h').cons x)
/-- a comprehension whose turns change no cell -/
theorem lcL_map {g : FG} {f : FE} {δ : DEnv} {G : GH} (h : D → D) (δ' : D → DEnv) : ∀ {items acc : List D}, (∀ d ∈ items, g d δ G = .nx (δ' d) G) → (∀ d ∈ items, f (δ' d) G = .ok (h d) G) → acc.length + items.length ≤ sizeLine →
    lcL (fun _ => true) g tYesD f δ items acc G = .ok (acc ++ items.map h) G
  | [], acc, _, _, _ => by simp [lcL]
  | d :: items, acc, hg, hf, hl => by
    have l1 : acc.length < sizeLine := by rw [List.length_cons] at hl; omega
    have ih := lcL_map h δ' (items := items) (acc := acc ++ [h d]) (fun d hd => hg d (.tail _ hd)) (fun d hd => hf d (.tail _ hd)) (by rw [List.length_append, List.length_singleton]; rw [List.length_cons] at hl; omega)
    unfold lcL
    simp [hg d (.head _), hf d (.head _), l1, ih]
/-- .. with a test -/
theorem lcL_filt {g : FG} {t : FT} {f : FE} {δ : DEnv} {G : GH} (q : D → Bool) (h : D → D) (δ' : D → DEnv) : ∀ {items acc : List D}, (∀ d ∈ items, g d δ G = .nx (δ' d) G) → (∀ d ∈ items, t (δ' d) G = .ok (q d) G) → (∀ d ∈ items, q d = true → f (δ' d) G = .ok (h d) G) → acc.length + items.length ≤ sizeLine →
    lcL (fun _ => true) g t f δ items acc G = .ok (acc ++ (items.filter q).map h) G
  | [], acc, _, _, _, _ => by simp [lcL]
  | d :: items, acc, hg, ht, hf, hl => by
    rw [List.length_cons] at hl
    have l1 : acc.length < sizeLine := by omega
    unfold lcL
    cases e : q d with
    | true =>
      have ih := lcL_filt q h δ' (items := items) (acc := acc ++ [h d]) (fun d hd => hg d (.tail _ hd)) (fun d hd => ht d (.tail _ hd)) (fun d hd => hf d (.tail _ hd)) (by rw [List.length_append, List.length_singleton]; omega)
      simp [hg d (.head _), ht d (.head _), e, hf d (.head _) e, l1, ih]
    | false =>
      have ih := lcL_filt q h δ' (items := items) (acc := acc) (fun d hd => hg d (.tail _ hd)) (fun d hd => ht d (.tail _ hd)) (fun d hd => hf d (.tail _ hd)) (by omega)
      simp [hg d (.head _), ht d (.head _), e, ih]
@[simp] theorem itsD_chk_tup (G : GH) (xs : List D) : itsD G (.tup xs) = some ⟨xs, fun _ => true⟩ := rfl
@[simp] theorem lenO_str' (G : GH) (x : Str) : dLen (.str x) G = if x.length ≤ sizeLine then .ok (.int x.length) G else .no := by
  show (match (if x.length ≤ sizeLine then some x.length else none) with | some n => R.ok (D.int (n : Nat)) G | none => R.no) = _
  by_cases h : x.length ≤ sizeLine <;> simp [h]
@[simp] theorem dAll_lst (G : GH) (bs : List Bool) : dAll (.lst (bs.map D.bl)) G = .ok (.bl (bs.all id)) G := by simp [dAll]
theorem dAll_map {α : Type} (G : GH) (xs : List α) (f : α → Bool) : dAll (.lst (xs.map fun x => D.bl (f x))) G = .ok (.bl (xs.all f)) G := by
  have := dAll_lst G (xs.map f)
  rw [List.map_map] at this
  simpa [List.all_map, Function.comp_def] using this
@[simp] theorem dSum_ints (G : GH) (bs : List Int) : dSum (.lst (bs.map D.int)) G = .ok (.int bs.sum) G := by simp [dSum]
/-- local cells are frozen and dropped -/
theorem fzR_ok2 {G G' J : GH} {d d' : D} (hl : G'.length = G.length) (hk : ∀ (k : Nat) (c : Cell), k < G.length → G'[k]? = some c → G[k]? = some c ∨ closedC G.length c) (e : fzD (G' ++ J) G.length d = some d') : fzR G (.ok d (G' ++ J)) = .ok d' G' := by
  have kp : kept G (G' ++ J) := ⟨by simp [hl], fun k c h e1 => by
    rw [List.getElem?_append_left (by omega)] at e1
    exact hk k c h e1⟩
  unfold fzR
  dsimp only
  rw [if_pos kp, e]
  simp [← hl]
end CF
end
section
set_option maxRecDepth 100000
set_option maxHeartbeats 1000000
/-! What is wished of a result, step by step: `and_intros` runs the functions as far as it can (a word of our own for simp). -/
namespace CF
open PySem PySem.Spec PyProof.Rows L2
abbrev XP := Ex → GH → Prop
/-- the result is a value with Q, or an exception with E -/
structure Tag {α : Type} (Q : α → GH → Prop) (E : XP) : Type where
  mk ::
/-- (the tag keeps simp out of what follows) -/
def R.wp {α : Type} (r : R α) (Q : α → GH → Prop) (E : XP) (_t : Tag Q E := ⟨⟩) : Prop := match r with
  | .ok a G => Q a G
  | .ex x G => E x G
  | .no => False
abbrev noX : XP := fun _ _ => False
abbrev SP := DEnv → GH → Prop
structure TagS (nx : SP) (rt : D → GH → Prop) (bk ct : SP) (ex : Ex → DEnv → GH → Prop) : Type where
  mk ::
def RS.wp (r : RS) (nx : SP) (rt : D → GH → Prop) (bk ct : SP) (ex : Ex → DEnv → GH → Prop) (_t : TagS nx rt bk ct ex := ⟨⟩) : Prop := match r with
  | .nx δ G => nx δ G
  | .rt d G => rt d G
  | .bk δ G => bk δ G
  | .ct δ G => ct δ G
  | .ex x δ G => ex x δ G
  | .no => False
theorem R.wp_mono {α : Type} {r : R α} {Q Q' : α → GH → Prop} {E E' : XP} (h : r.wp Q E) (i : ∀ a G, Q a G → Q' a G) (j : ∀ x G, E x G → E' x G) : r.wp Q' E' := by
  cases r with
  | ok a G => exact i a G h
  | ex x G => exact j x G h
  | no => exact h
theorem RS.wp_mono {r : RS} {nx nx' : SP} {rt rt' : D → GH → Prop} {bk ct bk' ct' : SP} {ex ex' : Ex → DEnv → GH → Prop} (h : r.wp nx rt bk ct ex) (i1 : ∀ δ G, nx δ G → nx' δ G) (i2 : ∀ d G, rt d G → rt' d G) (i3 : ∀ δ G, bk δ G → bk' δ G) (i4 : ∀ δ G, ct δ G → ct' δ G) (i5 : ∀ x δ G, ex x δ G → ex' x δ G) : r.wp nx' rt' bk' ct' ex' := by
  cases r with
  | nx δ G => exact i1 δ G h
  | rt d G => exact i2 d G h
  | bk δ G => exact i3 δ G h
  | ct δ G => exact i4 δ G h
  | ex x δ G => exact i5 x δ G h
  | no => exact h
/-- a callee's promise is used -/
theorem R.use {α : Type} {r : R α} {Q Q' : α → GH → Prop} {E : XP} (h : r.wp Q noX) (i : ∀ a G, Q a G → Q' a G) : r.wp Q' E := R.wp_mono h i fun _ _ h => h.elim
theorem R.wp_ex_iff {α : Type} {r : R α} {Q : α → GH → Prop} : r.wp Q noX ↔ ∃ a G, r = .ok a G ∧ Q a G := by
  cases r with
  | ok a G => exact ⟨fun h => ⟨a, G, rfl, h⟩, fun ⟨_, _, e, h⟩ => by cases e; exact h⟩
  | ex x G => exact ⟨fun h => h.elim, fun ⟨_, _, e, _⟩ => by cases e⟩
  | no => exact ⟨fun h => h.elim, fun ⟨_, _, e, _⟩ => by cases e⟩
theorem R.wp_of {α : Type} {r : R α} {Q : α → GH → Prop} {E : XP} {a : α} {G : GH} (e : r = .ok a G) (h : Q a G) : r.wp Q E := by rw [e]; exact h
section
variable {α β : Type} {Q : β → GH → Prop} {E : XP} {nx : SP} {rt : D → GH → Prop} {bk ct : SP} {ex : Ex → DEnv → GH → Prop} (δ : DEnv) (G : GH)
theorem wp_ok (a : α) (Q : α → GH → Prop) : (R.ok a G).wp Q E = Q a G := rfl
theorem wp_ex (x : Ex) (Q : α → GH → Prop) : (R.ex x G : R α).wp Q E = E x G := rfl
theorem wp_no (Q : α → GH → Prop) : (R.no : R α).wp Q E = False := rfl
theorem wp_bind (r : R α) (k : α → GH → R β) : (r.bind k).wp Q E = r.wp (fun a G1 => (k a G1).wp Q E) E := by cases r <;> rfl
theorem wp_guard {c : Prop} [Decidable c] (r : R α) (Q : α → GH → Prop) : (if c then r else .no).wp Q E = (c ∧ r.wp Q E) := by
  by_cases h : c <;> simp [h, R.wp]
theorem wp_ite {c : Prop} [Decidable c] (r r' : R α) (Q : α → GH → Prop) : (if c then r else r').wp Q E = if c then r.wp Q E else r'.wp Q E := by
  by_cases h : c <;> simp [h]
theorem wp_nox (r : R α) (Q : α → GH → Prop) : r.nox.wp Q E = r.wp Q noX := by cases r <;> rfl
theorem sp_nx : (RS.nx δ G).wp nx rt bk ct ex = nx δ G := rfl
theorem sp_rt (d : D) : (RS.rt d G).wp nx rt bk ct ex = rt d G := rfl
theorem sp_bk : (RS.bk δ G).wp nx rt bk ct ex = bk δ G := rfl
theorem sp_ct : (RS.ct δ G).wp nx rt bk ct ex = ct δ G := rfl
theorem sp_ex (x : Ex) : (RS.ex x δ G).wp nx rt bk ct ex = ex x δ G := rfl
theorem sp_seq (r : RS) (k : DEnv → GH → RS) : (r.seq k).wp nx rt bk ct ex = r.wp (fun δ1 G1 => (k δ1 G1).wp nx rt bk ct ex) rt bk ct ex := by cases r <;> rfl
theorem sp_thn (r : R α) (k : α → GH → RS) : (r.thn δ k).wp nx rt bk ct ex = r.wp (fun a G1 => (k a G1).wp nx rt bk ct ex) (fun x G1 => ex x δ G1) := by cases r <;> rfl
theorem sp_guard {c : Prop} [Decidable c] (r : RS) : (if c then r else .no).wp nx rt bk ct ex = (c ∧ r.wp nx rt bk ct ex) := by
  by_cases h : c <;> simp [h, RS.wp]
theorem sp_ite {c : Prop} [Decidable c] (r r' : RS) : (if c then r else r').wp nx rt bk ct ex = if c then r.wp nx rt bk ct ex else r'.wp nx rt bk ct ex := by
  by_cases h : c <;> simp [h]
theorem wp_def (N : List Str) (fb : FS) (ds : List D) (Q : D → GH → Prop) : (defF N fb ds G).wp Q E = (fb (startD N ds) G).wp (fun _ G1 => Q .non G1) Q (fun _ _ => False) (fun _ _ => False) (fun x _ G1 => E x G1) := by
  rw [defF_ap]
  cases fb (startD N ds) G <;> rfl
end
section
variable {nx : SP} {rt : D → GH → Prop} {bk ct : SP} {ex : Ex → DEnv → GH → Prop} (δ : DEnv) (G : GH)
theorem w_sNext  : (sNext δ G).wp nx rt bk ct ex = (RS.nx δ G).wp nx rt bk ct ex := by rw [ap_sNext] <;> rfl
theorem w_sSeq (f g : FS) : (sSeq f g δ G).wp nx rt bk ct ex = ((f δ G).seq g).wp nx rt bk ct ex := by rw [ap_sSeq] <;> rfl
theorem w_sRet (f : FE) : (sRet f δ G).wp nx rt bk ct ex = ((f δ G).thn δ fun d G1 => .rt d G1).wp nx rt bk ct ex := by rw [ap_sRet] <;> rfl
theorem w_sRetN  : (sRetN δ G).wp nx rt bk ct ex = (RS.rt .non G).wp nx rt bk ct ex := by rw [ap_sRetN] <;> rfl
theorem w_sIf (t : FT) (f g : FS) : (sIf t f g δ G).wp nx rt bk ct ex = ((t δ G).thn δ fun k G1 => if k then f δ G1 else g δ G1).wp nx rt bk ct ex := by rw [ap_sIf] <;> rfl
theorem w_sSet (i : Nat) (f : FE) : (sSet i f δ G).wp nx rt bk ct ex = ((f δ G).thn δ fun d G1 => .nx (δ.set i (some d)) G1).wp nx rt bk ct ex := by rw [ap_sSet] <;> rfl
theorem w_sDrop (f : FE) : (sDrop f δ G).wp nx rt bk ct ex = ((f δ G).thn δ fun _ G1 => .nx δ G1).wp nx rt bk ct ex := by rw [ap_sDrop] <;> rfl
theorem w_sBreak  : (sBreak δ G).wp nx rt bk ct ex = (RS.bk δ G).wp nx rt bk ct ex := by rw [ap_sBreak] <;> rfl
theorem w_sCont  : (sCont δ G).wp nx rt bk ct ex = (RS.ct δ G).wp nx rt bk ct ex := by rw [ap_sCont] <;> rfl
theorem w_gNm (i : Nat) (d : D) : (gNm i d δ G).wp nx rt bk ct ex = (RS.nx (δ.set i (some d)) G).wp nx rt bk ct ex := by rw [ap_gNm] <;> rfl
theorem w_gsNil  : (gsNil [] δ G).wp nx rt bk ct ex = (RS.nx δ G).wp nx rt bk ct ex := by rw [ap_gsNil] <;> rfl
theorem w_gsCons (g : FG) (k : FGs) (d : D) (r : List D) : (gsCons g k (d :: r) δ G).wp nx rt bk ct ex = ((g d δ G).seq (k r)).wp nx rt bk ct ex := by rw [ap_gsCons] <;> rfl
theorem w_gTp (n : Nat) (k : FGs) (ds : List D) : (gTp n k (.tup ds) δ G).wp nx rt bk ct ex = (if ds.length = n then k ds δ G else RS.no).wp nx rt bk ct ex := by rw [ap_gTp] <;> rfl
theorem w_sAsg (f : FE) (g : FG) : (sAsg f g δ G).wp nx rt bk ct ex = (f δ G).wp (fun d G1 => (g d δ G1).wp nx (fun _ _ => False) (fun _ _ => False) (fun _ _ => False) (fun _ _ _ => False)) (fun x G1 => ex x δ G1) := by
  rw [ap_sAsg]
  cases f δ G with
  | ok d G1 => rw [R.thn_ok]; show _ = (g d δ G1).wp nx _ _ _ _; cases g d δ G1 <;> rfl
  | ex x G1 => rfl
  | no => rfl
theorem w_sFor (fi : FI) (g : FG) (body : FS) : (sFor fi g body δ G).wp nx rt bk ct ex = ((fi δ G).thn δ fun it G1 => if it.chk G1 then sForL it.chk g body it.items δ G1 else RS.no).wp nx rt bk ct ex := by rw [ap_sFor] <;> rfl
end
section
variable {E : XP} (δ : DEnv) (G : GH)
section
variable {Q : D → GH → Prop}
theorem w_eC (d : D) : (eC d δ G).wp Q E = (R.ok d G).wp Q E := by rw [ap_eC] <;> rfl
theorem w_eVar (i : Nat) : (eVar i δ G).wp Q E = (match δ[i]? with | some (some d) => R.ok d G | _ => R.no).wp Q E := by rw [ap_eVar] <;> rfl
theorem w_eTup (g : FA) : (eTup g δ G).wp Q E = ((g δ G).bind fun ds G1 => if ds.length ≤ sizeLine then .ok (.tup ds) G1 else .no).wp Q E := by rw [ap_eTup] <;> rfl
theorem w_eTupP (g : FA) : (eTupP g δ G).wp Q E = ((g δ G).bind fun ds G1 => if ds.length ≤ sizeLine then .ok (.pt ds) G1 else .no).wp Q E := by rw [ap_eTupP] <;> rfl
theorem w_eLst (g : FA) : (eLst g δ G).wp Q E = ((g δ G).bind fun ds G1 => if ds.length ≤ sizeLine then .ok (.lst ds) G1 else .no).wp Q E := by rw [ap_eLst] <;> rfl
theorem w_eLstM (g : FA) : (eLstM g δ G).wp Q E = ((g δ G).bind fun ds G1 => if ds.length ≤ sizeLine then .ok (.ref G1.length) (G1 ++ [.lst ds]) else .no).wp Q E := by rw [ap_eLstM] <;> rfl
theorem w_eOp (f : F2) (a b : FE) : (eOp f a b δ G).wp Q E = ((a δ G).bind fun x G1 => (b δ G1).bind fun y G2 => f x y G2).wp Q E := by rw [ap_eOp] <;> rfl
theorem w_eChain (f f' : F2) (a b c : FE) : (eChain f f' a b c δ G).wp Q E = ((a δ G).bind fun x G1 => (b δ G1).bind fun y G2 => (f x y G2).bind fun k G3 => match k with
  | .bl true => (c δ G3).bind fun z G4 => f' y z G4
  | .bl false => .ok (.bl false) G3
  | _ => .no).wp Q E := by rw [ap_eChain] <;> rfl
theorem w_eIf (t : FT) (f g : FE) : (eIf t f g δ G).wp Q E = ((t δ G).bind fun k G1 => if k then f δ G1 else g δ G1).wp Q E := by rw [ap_eIf] <;> rfl
theorem w_eOne (f : FE) (k : D → GH → R D) : (eOne f k δ G).wp Q E = ((f δ G).bind k).wp Q E := by rw [ap_eOne] <;> rfl
theorem w_eUn (f : D → GH → R D) (a : FE) : (eUn f a δ G).wp Q E = ((a δ G).bind f).wp Q E := by rw [ap_eUn] <;> rfl
theorem w_eCB (f : List D → GH → R D) (g : FA) : (eCB f g δ G).wp Q E = ((g δ G).bind f).wp Q E := by rw [ap_eCB] <;> rfl
theorem w_one (f : D → GH → R D) (d : D) : (one f [d] G).wp Q E = (f d G).wp Q E := by rw [ap_one] <;> rfl
theorem w_eCall (n : Nat) (F : List D → GH → R D) (dds : List D) (g : FA) : (eCall n F dds g δ G).wp Q E = ((g δ G).bind fun ds G1 => if (ds ++ dds).length = n then F (ds ++ dds) G1 else .no).wp Q E := by rw [ap_eCall] <;> rfl
theorem w_eAnd (f g : FE) : (eAnd f g δ G).wp Q E = ((f δ G).bind fun d G1 => match truD G1 d with | some true => g δ G1 | some false => .ok d G1 | none => .no).wp Q E := by rw [ap_eAnd] <;> rfl
theorem w_eOr (f g : FE) : (eOr f g δ G).wp Q E = ((f δ G).bind fun d G1 => match truD G1 d with | some true => .ok d G1 | some false => g δ G1 | none => .no).wp Q E := by rw [ap_eOr] <;> rfl
theorem w_eNot (t : FT) : (eNot t δ G).wp Q E = ((t δ G).bind fun k G1 => .ok (.bl (!k)) G1).wp Q E := by rw [ap_eNot] <;> rfl
theorem w_eLc (mk : List D → GH → R D) (fi : FI) (g : FG) (t : FT) (f : FE) (vs : List Nat) : (eLc mk fi g t f vs δ G).wp Q E = ((fi δ G).bind fun it G1 => if it.chk G1 then (lcL it.chk g t f (wipeD δ vs) it.items [] G1).bind mk else .no).wp Q E := by rw [ap_eLc] <;> rfl
theorem w_mkF (ds : List D) : (mkF ds G).wp Q E = (R.ok (.lst ds) G).wp Q E := by rw [ap_mkF] <;> rfl
theorem w_mkM (ds : List D) : (mkM ds G).wp Q E = (R.ok (.ref G.length) (G ++ [.lst ds])).wp Q E := by rw [ap_mkM] <;> rfl
theorem w_eMt (T : String) (f : FM) (o : FE) (g : FA) : (eMt T f o g δ G).wp Q E = ((o δ G).bind fun d G1 => if tyM T G1 d then (g δ G1).bind fun ds G2 => f d ds G2 else .no).wp Q E := by rw [ap_eMt] <;> rfl
theorem w_eMt0 (T : String) (f : FM) (o : FE) : (eMt0 T f o δ G).wp Q E = ((o δ G).bind fun d G1 => if tyM T G1 d then f d [] G1 else .no).wp Q E := by rw [ap_eMt0] <;> rfl
end
section
variable {Q : Bool → GH → Prop}
theorem w_asB (f : FE) : (asB f δ G).wp Q E = ((f δ G).bind fun d G1 => match d with | .bl b => .ok b G1 | _ => .no).wp Q E := by rw [ap_asB] <;> rfl
theorem w_tAnd (f g : FT) : (tAndD f g δ G).wp Q E = ((f δ G).bind fun k G1 => if k then g δ G1 else .ok false G1).wp Q E := by rw [ap_tAnd] <;> rfl
theorem w_tOr (f g : FT) : (tOrD f g δ G).wp Q E = ((f δ G).bind fun k G1 => if k then .ok true G1 else g δ G1).wp Q E := by rw [ap_tOr] <;> rfl
theorem w_tNot (f : FT) : (tNotD f δ G).wp Q E = ((f δ G).bind fun k G1 => .ok (!k) G1).wp Q E := by rw [ap_tNot] <;> rfl
theorem w_eTru (f : FE) : (eTru f δ G).wp Q E = ((f δ G).bind fun d G1 => match truD G1 d with | some b => .ok b G1 | none => .no).wp Q E := by rw [ap_eTru] <;> rfl
theorem w_tYes  : (tYesD δ G).wp Q E = (R.ok true G).wp Q E := by rw [ap_tYes] <;> rfl
end
section
variable {Q : List D → GH → Prop}
theorem w_aNil  : (aNil δ G).wp Q E = (R.ok ([] : List D) G).wp Q E := by rw [ap_aNil] <;> rfl
theorem w_aCons (f : FE) (g : FA) : (aCons f g δ G).wp Q E = ((f δ G).bind fun d G1 => (g δ G1).bind fun ds G2 => .ok (d :: ds) G2).wp Q E := by rw [ap_aCons] <;> rfl
end
section
variable {Q : Its → GH → Prop}
theorem w_iSeq (f : FE) : (iSeq f δ G).wp Q E = ((f δ G).bind fun x G1 => match itsD G1 x with | some it => .ok it G1 | none => .no).wp Q E := by rw [ap_iSeq] <;> rfl
theorem w_iRg1 (g : FA) : (iRg1 g δ G).wp Q E = ((g δ G).bind rng1K).wp Q E := by rw [ap_iRg1] <;> rfl
end
theorem sz_le {n : Nat} (h : n ≤ 100000) : (n ≤ sizeLine) = True := eq_true (Nat.le_trans h (by decide))
theorem sz_lt {n : Nat} (h : n < 100000) : (n < sizeLine) = True := eq_true (Nat.lt_of_lt_of_le h (by decide))
theorem nilL (P : Prop) : (P ∧ True ∧ True ∧ True) = P := by simp
end
section
variable {E : XP} {nx : SP} {rt : D → GH → Prop} {bk ct : SP} {ex : Ex → DEnv → GH → Prop} {chk : GH → Bool} {g : FG} {t : FT} {f : FE} {body : FS} {δ : DEnv} {G : GH}
abbrev fS : SP := fun _ _ => False
abbrev fX : Ex → DEnv → GH → Prop := fun _ _ _ => False
abbrev fR : D → GH → Prop := fun _ _ => False
/-- a loop by what holds behind the items done -/
theorem for_inv {α : Type} (enc : α → D) (xs : List α) (Inv : List α → DEnv → GH → Prop) (h0 : Inv [] δ G)
    (step : ∀ (pre : List α) (x : α) (post : List α) (δ : DEnv) (G : GH), xs = pre ++ x :: post → Inv pre δ G →
      (g (enc x) δ G).wp (fun δ1 G1 => (body δ1 G1).wp (fun δ2 G2 => chk G2 = true ∧ Inv (pre ++ [x]) δ2 G2) rt nx (fun δ2 G2 => chk G2 = true ∧ Inv (pre ++ [x]) δ2 G2) ex) fR fS fS fX)
    (fin : ∀ δ G, Inv xs δ G → nx δ G) : (sForL chk g body (xs.map enc) δ G).wp nx rt bk ct ex := by
  have key : ∀ (post pre : List α) (δ : DEnv) (G : GH), xs = pre ++ post → Inv pre δ G → (sForL chk g body (post.map enc) δ G).wp nx rt bk ct ex := by
    intro post
    induction post with
    | nil =>
      intro pre δ G e h
      rw [List.append_nil] at e
      subst e
      exact fin δ G h
    | cons x post ih =>
      intro pre δ G e h
      have s := step pre x post δ G e h
      rw [List.map_cons]
      unfold sForL
      cases e1 : g (enc x) δ G with
      | nx δ1 G1 =>
        rw [e1] at s
        have s1 : (body δ1 G1).wp (fun δ2 G2 => chk G2 = true ∧ Inv (pre ++ [x]) δ2 G2) rt nx (fun δ2 G2 => chk G2 = true ∧ Inv (pre ++ [x]) δ2 G2) ex := s
        dsimp only
        cases e2 : body δ1 G1 with
        | nx δ2 G2 => rw [e2] at s1; obtain ⟨c, i⟩ := s1; dsimp only; rw [if_pos c]; exact ih (pre ++ [x]) δ2 G2 (by rw [e]; simp) i
        | ct δ2 G2 => rw [e2] at s1; obtain ⟨c, i⟩ := s1; dsimp only; rw [if_pos c]; exact ih (pre ++ [x]) δ2 G2 (by rw [e]; simp) i
        | bk δ2 G2 => rw [e2] at s1; exact s1
        | rt d G2 => rw [e2] at s1; exact s1
        | ex x δ2 G2 => rw [e2] at s1; exact s1
        | no => rw [e2] at s1; exact s1
      | rt d G => rw [e1] at s; exact s.elim
      | bk δ1 G => rw [e1] at s; exact s.elim
      | ct δ1 G => rw [e1] at s; exact s.elim
      | ex x δ1 G => rw [e1] at s; exact s.elim
      | no => rw [e1] at s; exact s.elim
  exact key xs [] δ G rfl h0
/-- a comprehension by what holds behind the items done -/
theorem lc_inv {α : Type} {Q : List D → GH → Prop} (enc : α → D) (xs : List α) (Inv : List α → List D → GH → Prop) (h0 : Inv [] [] G) (hl : xs.length ≤ sizeLine)
    (step : ∀ (pre : List α) (x : α) (post : List α) (acc : List D) (G : GH), xs = pre ++ x :: post → Inv pre acc G →
      (g (enc x) δ G).wp (fun δ1 G1 => (t δ1 G1).wp (fun b G2 => if b = true then (f δ1 G2).wp (fun y G3 => chk G3 = true ∧ Inv (pre ++ [x]) (acc ++ [y]) G3) noX else chk G2 = true ∧ Inv (pre ++ [x]) acc G2) noX) fR fS fS fX)
    (fin : ∀ acc G, Inv xs acc G → Q acc G) : (lcL chk g t f δ (xs.map enc) [] G).wp Q E := by
  have key : ∀ (post pre : List α) (acc : List D) (G : GH), xs = pre ++ post → acc.length ≤ pre.length → Inv pre acc G → (lcL chk g t f δ (post.map enc) acc G).wp Q E := by
    intro post
    induction post with
    | nil =>
      intro pre acc G e _ h
      rw [List.append_nil] at e
      subst e
      exact fin acc G h
    | cons x post ih =>
      intro pre acc G e ha h
      have s := step pre x post acc G e h
      have lp : pre.length + (post.length + 1) ≤ sizeLine := by rw [e] at hl; simpa using hl
      rw [List.map_cons]
      unfold lcL
      cases e1 : g (enc x) δ G with
      | nx δ1 G1 =>
        rw [e1] at s
        have s1 : (t δ1 G1).wp (fun b G2 => if b = true then (f δ1 G2).wp (fun y G3 => chk G3 = true ∧ Inv (pre ++ [x]) (acc ++ [y]) G3) noX else chk G2 = true ∧ Inv (pre ++ [x]) acc G2) noX := s
        dsimp only
        rw [wp_bind, wp_nox]
        refine R.wp_mono s1 (fun b G2 s2 => ?_) (fun _ _ z => z)
        cases b with
        | true =>
          rw [if_pos rfl] at s2
          rw [if_pos rfl, wp_bind, wp_nox]
          refine R.wp_mono s2 (fun y G3 s3 => ?_) (fun _ _ z => z)
          obtain ⟨c, i⟩ := s3
          have la : acc.length < sizeLine := by omega
          rw [if_pos (by rw [c]; simpa using la)]
          exact ih (pre ++ [x]) (acc ++ [y]) G3 (by rw [e]; simp) (by simp; exact ha) i
        | false =>
          rw [if_neg Bool.false_ne_true] at s2
          obtain ⟨c, i⟩ := s2
          rw [if_neg Bool.false_ne_true, if_pos c]
          exact ih (pre ++ [x]) acc G2 (by rw [e]; simp) (by simp; omega) i
      | rt d G => rw [e1] at s; exact s.elim
      | bk δ1 G => rw [e1] at s; exact s.elim
      | ct δ1 G => rw [e1] at s; exact s.elim
      | ex x δ1 G => rw [e1] at s; exact s.elim
      | no => rw [e1] at s; exact s.elim
  exact key xs [] [] G rfl (Nat.le_refl _) h0
/-- .. that changes no cell: a filter and a map -/
theorem lc_pure {α : Type} {Q : List D → GH → Prop} (enc : α → D) (xs : List α) (q : α → Bool) (h : α → D) (hl : xs.length ≤ sizeLine) (hc : chk G = true)
    (step : ∀ x ∈ xs, (g (enc x) δ G).wp (fun δ1 G1 => (t δ1 G1).wp (fun b G2 => b = q x ∧ G2 = G ∧ (q x = true → (f δ1 G).wp (fun y G3 => y = h x ∧ G3 = G) noX)) noX) fR fS fS fX)
    (fin : Q ((xs.filter q).map h) G) : (lcL chk g t f δ (xs.map enc) [] G).wp Q E := by
  refine lc_inv enc xs (fun pre acc G' => G' = G ∧ acc = (pre.filter q).map h) ⟨rfl, rfl⟩ hl (fun pre x post acc G' e ⟨i1, i2⟩ => ?_) fun acc G' ⟨i1, i2⟩ => by rw [i1, i2]; exact fin
  subst i1 i2
  have s := step x (by rw [e]; simp)
  cases e1 : g (enc x) δ G' with
  | nx δ1 G1 =>
    rw [e1] at s
    have s1 : (t δ1 G1).wp (fun b G2 => b = q x ∧ G2 = G' ∧ (q x = true → (f δ1 G').wp (fun y G3 => y = h x ∧ G3 = G') noX)) noX := s
    refine R.wp_mono s1 (fun b G2 ⟨a1, a2, a3⟩ => ?_) fun _ _ z => z
    subst a1 a2
    cases hq : q x with
    | true =>
      rw [if_pos rfl]
      refine R.wp_mono (a3 hq) (fun y G3 ⟨b1, b2⟩ => ?_) fun _ _ z => z
      subst b1 b2
      exact ⟨hc, rfl, by simp [List.filter_append, hq]⟩
    | false =>
      rw [if_neg Bool.false_ne_true]
      exact ⟨hc, rfl, by simp [List.filter_append, hq]⟩
  | rt d G => rw [e1] at s; exact s.elim
  | bk δ1 G => rw [e1] at s; exact s.elim
  | ct δ1 G => rw [e1] at s; exact s.elim
  | ex x δ1 G => rw [e1] at s; exact s.elim
  | no => rw [e1] at s; exact s.elim
end
theorem isi_NoneType_int : isiB "NoneType" "int" = some false := by decide +kernel
theorem isi_NoneType_str : isiB "NoneType" "str" = some false := by decide +kernel
theorem isi_NoneType_bool : isiB "NoneType" "bool" = some false := by decide +kernel
theorem isi_NoneType_tuple : isiB "NoneType" "tuple" = some false := by decide +kernel
theorem isi_NoneType_list : isiB "NoneType" "list" = some false := by decide +kernel
theorem isi_NoneType_dict : isiB "NoneType" "dict" = some false := by decide +kernel
theorem isi_bool_int : isiB "bool" "int" = some true := by decide +kernel
theorem isi_bool_str : isiB "bool" "str" = some false := by decide +kernel
theorem isi_bool_bool : isiB "bool" "bool" = some true := by decide +kernel
theorem isi_bool_tuple : isiB "bool" "tuple" = some false := by decide +kernel
theorem isi_bool_list : isiB "bool" "list" = some false := by decide +kernel
theorem isi_bool_dict : isiB "bool" "dict" = some false := by decide +kernel
theorem isi_int_int : isiB "int" "int" = some true := by decide +kernel
theorem isi_int_str : isiB "int" "str" = some false := by decide +kernel
theorem isi_int_bool : isiB "int" "bool" = some false := by decide +kernel
theorem isi_int_tuple : isiB "int" "tuple" = some false := by decide +kernel
theorem isi_int_list : isiB "int" "list" = some false := by decide +kernel
theorem isi_int_dict : isiB "int" "dict" = some false := by decide +kernel
theorem isi_str_int : isiB "str" "int" = some false := by decide +kernel
theorem isi_str_str : isiB "str" "str" = some true := by decide +kernel
theorem isi_str_bool : isiB "str" "bool" = some false := by decide +kernel
theorem isi_str_tuple : isiB "str" "tuple" = some false := by decide +kernel
theorem isi_str_list : isiB "str" "list" = some false := by decide +kernel
theorem isi_str_dict : isiB "str" "dict" = some false := by decide +kernel
theorem isi_tuple_int : isiB "tuple" "int" = some false := by decide +kernel
theorem isi_tuple_str : isiB "tuple" "str" = some false := by decide +kernel
theorem isi_tuple_bool : isiB "tuple" "bool" = some false := by decide +kernel
theorem isi_tuple_tuple : isiB "tuple" "tuple" = some true := by decide +kernel
theorem isi_tuple_list : isiB "tuple" "list" = some false := by decide +kernel
theorem isi_tuple_dict : isiB "tuple" "dict" = some false := by decide +kernel
theorem isi_list_int : isiB "list" "int" = some false := by decide +kernel
theorem isi_list_str : isiB "list" "str" = some false := by decide +kernel
theorem isi_list_bool : isiB "list" "bool" = some false := by decide +kernel
theorem isi_list_tuple : isiB "list" "tuple" = some false := by decide +kernel
theorem isi_list_list : isiB "list" "list" = some true := by decide +kernel
theorem isi_list_dict : isiB "list" "dict" = some false := by decide +kernel
theorem isi_dict_int : isiB "dict" "int" = some false := by decide +kernel
theorem isi_dict_str : isiB "dict" "str" = some false := by decide +kernel
theorem isi_dict_bool : isiB "dict" "bool" = some false := by decide +kernel
theorem isi_dict_tuple : isiB "dict" "tuple" = some false := by decide +kernel
theorem isi_dict_list : isiB "dict" "list" = some false := by decide +kernel
theorem isi_dict_dict : isiB "dict" "dict" = some true := by decide +kernel
/-- what a slice asks -/
theorem eSl_ap (mk : List D → GH → R D) (f : FE) (lo hi : Option FE) (δ : DEnv) (G : GH) : eSl mk f lo hi δ G = (f δ G).bind fun x G1 => (eOpt lo δ G1).bind fun l G2 => (eOpt hi δ G2).bind fun h G3 => dSl mk x l h G3 := rfl
theorem eOpt_none (δ : DEnv) (G : GH) : eOpt none δ G = .ok none G := rfl
theorem eOpt_some (f : FE) (δ : DEnv) (G : GH) : eOpt (some f) δ G = (f δ G).bind fun d G1 => match d with | .int i => .ok (some i) G1 | _ => .no := rfl
theorem dSl_tup (mk : List D → GH → R D) (xs : List D) (lo hi : Option Int) (G : GH) : dSl mk (.tup xs) lo hi G = .ok (.tup (cutD xs lo hi)) G := rfl
theorem dSl_pt (mk : List D → GH → R D) (xs : List D) (lo hi : Option Int) (G : GH) : dSl mk (.pt xs) lo hi G = .ok (.pt (cutD xs lo hi)) G := rfl
theorem dSl_lst (mk : List D → GH → R D) (xs : List D) (lo hi : Option Int) (G : GH) : dSl mk (.lst xs) lo hi G = mk (cutD xs lo hi) G := rfl
theorem dSl_scr (mk : List D → GH → R D) (xs : List D) (lo hi : Option Int) (G : GH) : dSl mk (.scr xs) lo hi G = mk (cutD xs lo hi) G := rfl
theorem dTupP_ref (G : GH) (n : Nat) {xs : List D} (h : G[n]? = some (.lst xs)) : dTupP (.ref n) G = .ok (.pt xs) G := by unfold dTupP; rw [lstOf_ref, h]
/-! ### cells -/
theorem tyM_ref (T : String) (G : GH) (n : Nat) : tyM T G (.ref n) = match G[n]? with | some (.lst _) => T == "list" | some (.dK _) => T == "dict" | some (.dT _) => T == "dict" | _ => false := by
  unfold tyM
  simp only [lstOf_ref]
  cases h : G[n]? with
  | none => rfl
  | some c => cases c <;> rfl
theorem mAppend_ref (G : GH) (n : Nat) (y : D) : mAppend (.ref n) [y] G = match G[n]? with | some (.lst xs) => if xs.length < sizeLine then .ok .non (G.set n (.lst (xs ++ [y]))) else .no | _ => .no := by
  unfold mAppend
  rw [celL_ref]
  cases h : G[n]? with
  | none => rfl
  | some c => cases c <;> rfl
theorem mExtend_ref (G : GH) (n : Nat) (y : D) : mExtend (.ref n) [y] G = match G[n]? with | some (.lst xs) => (match lstX G y with | some zs => if xs.length + zs.length ≤ sizeLine then .ok .non (G.set n (.lst (xs ++ zs))) else .no | none => .no) | _ => .no := by
  unfold mExtend
  rw [celL_ref]
  cases h : G[n]? with
  | none => rfl
  | some c => cases c <;> rfl
theorem dLen_refm (G : GH) (n : Nat) : dLen (.ref n) G = match G[n]? with | some (.lst xs) => .ok (.int xs.length) G | some (.dK xs) => dLen (.ref n) G | some (.dT xs) => dLen (.ref n) G | some (.ins _ _) => dLen (.ref n) G | none => dLen (.ref n) G := by
  cases h : G[n]? with
  | none => rfl
  | some c => cases c <;> first | rfl | exact dLen_ref _ _ h
theorem dAdd_refl (mk : List D → GH → R D) (G : GH) {n : Nat} {xs : List D} (ys : List D) (h : G[n]? = some (.lst xs)) : dAdd mk (.ref n) (.lst ys) G = if xs.length + ys.length ≤ sizeLine then mk (xs ++ ys) G else .no := by
  show (match lstX G (.ref n), lstX G (.lst ys) with | some a, some b => if a.length + b.length ≤ sizeLine then mk (a ++ b) G else R.no | _, _ => R.no) = _
  rw [lstX_ref, h, lstX_lst]
theorem dAdd_lref (mk : List D → GH → R D) (G : GH) {n : Nat} {xs : List D} (ys : List D) (h : G[n]? = some (.lst xs)) : dAdd mk (.lst ys) (.ref n) G = if ys.length + xs.length ≤ sizeLine then mk (ys ++ xs) G else .no := by
  show (match lstX G (.lst ys), lstX G (.ref n) with | some a, some b => if a.length + b.length ≤ sizeLine then mk (a ++ b) G else R.no | _, _ => R.no) = _
  rw [lstX_ref, h, lstX_lst]
section
variable (G : GH) (a b c x : Cell)
theorem ge1 : (G ++ [a])[G.length]? = some a := by simp
theorem ge2a : (G ++ [a] ++ [b])[G.length]? = some a := by simp
theorem ge2b : (G ++ [a] ++ [b])[G.length + 1]? = some b := by simp
theorem ge3a : (G ++ [a] ++ [b] ++ [c])[G.length]? = some a := by simp
theorem ge3b : (G ++ [a] ++ [b] ++ [c])[G.length + 1]? = some b := by simp
theorem ge3d : (G ++ [a] ++ [b] ++ [c])[G.length + 2]? = some c := by simp
theorem ge3c : (G ++ [a] ++ [b] ++ [c])[G.length + 1 + 1]? = some c := ge3d G a b c
theorem st1 : (G ++ [a]).set G.length x = G ++ [x] := by simp
theorem st2a : (G ++ [a] ++ [b]).set G.length x = G ++ [x] ++ [b] := by simp
theorem st2b : (G ++ [a] ++ [b]).set (G.length + 1) x = G ++ [a] ++ [x] := by simp
theorem st3a : (G ++ [a] ++ [b] ++ [c]).set G.length x = G ++ [x] ++ [b] ++ [c] := by simp
theorem st3b : (G ++ [a] ++ [b] ++ [c]).set (G.length + 1) x = G ++ [a] ++ [x] ++ [c] := by simp
theorem st3d : (G ++ [a] ++ [b] ++ [c]).set (G.length + 2) x = G ++ [a] ++ [b] ++ [x] := by simp
theorem st3c : (G ++ [a] ++ [b] ++ [c]).set (G.length + 1 + 1) x = G ++ [a] ++ [b] ++ [x] := st3d G a b c x
end
end CF
end
section
set_option maxRecDepth 100000
set_option maxHeartbeats 1000000
/-! The end of a law, its top told by names. -/
namespace CF
open PySem PySem.Spec PyProof.Rows L2
theorem law_endE {l : PySem.W.OpenLaw} {n k : Nat} {q : Program} {loose : List Str} {XP : (Str → Option Value) → Heap → Prop} {YP : World → Heap → Prop} {d : DefRec} {F : List D → GH → R D} {x : Str}
    (hn : l.most = some n) (hn2 : n ≤ sizeLine) (hdf : d.params.defaults = []) (room : Room k callerA)
    (Fn : ∀ (w : World) (mg : Str → Option Value) (fa : Addr) (h : Heap), YP w h → h.Ns mainGlobals mg → mg d.name = some (.ref fa) →
      ∃ (K : PySem.W.Frag) (fd : FuncData), K.In h ∧ (∀ (s : Shared) (u : Value), BindsTo s fd ⟨[u], []⟩ [(x, u)]) ∧ ∀ base : Heap, K.In base → base.Ns mainGlobals mg → FnD l.prog w K mg base k fa fd [x] F)
    (hF : ∀ (ns : List Int), ns.length ≤ n → (∀ i ∈ ns, Builtin.Int.intBits i ≤ 1048576) → ∃ G', F [.scr (ns.map D.int)] [] = .ok (.bl true) G') :
    PySem.W.WalkO q loose XP YP l.row.toRowW d [] (fun f vs => PySem.call f vs) := by
  refine Att.attach_callB hn hdf fun w s₀ s₁ mg mb fa o pm cd doc a vs ns G Y ho hd hcd hmg hobj hints hlen hbits hg => ?_
  obtain ⟨K, fd, KX, b, f⟩ := Fn w mg fa _ Y G.T.g hmg
  exact law_runs KX G.T.g G.T.b G.T.builtins G.T.nolimit hg hobj hints (Nat.le_trans hlen hn2) room f b (hF ns hlen hbits)
section
variable {K : PySem.W.Frag} {x qual : Str} {st : Stmt} {dvs : List V} {f : Addr} {fd : FuncData} {mg : Str → Option Value}
theorem Tx.ofN {ps : List Str} (F : FunD K x qual (defArgs st) (defBody st) (defScope st) [] [] f fd) (g : mg x = some (.ref f))
    (h : ∀ (kV doc pm : Value) (an : Option Addr) (cdv ct : Value) (us : List Value), us.length = ps.length → bindArgs (PySem.W.fnOf x qual (defArgs st) (defBody st) (defScope st) .none kV doc pm an cdv ct) ⟨us, []⟩ = pure (ps.zip us)) : Tx K mg x ps [] f fd :=
  ⟨g, F.kp, [], .nil, FunD.bindsN F h⟩
theorem Tx.ofD {ps : List Str} (n j : Nat) (F : FunD K x qual (defArgs st) (defBody st) (defScope st) dvs [] f fd) (g : mg x = some (.ref f)) (hd : dvs ≠ []) (hn : n + (dvs.length - j) = ps.length)
    (h : ∀ (T : Addr) (kV doc pm : Value) (an : Option Addr) (cdv ct : Value) (us its : List Value), us.length = n → its.length = dvs.length →
      ∃ k, bindArgs (PySem.W.fnOf x qual (defArgs st) (defBody st) (defScope st) (.ref T) kV doc pm an cdv ct) ⟨us, []⟩ = seqItems? (.ref T) >>= k ∧ k (some its.toArray) = pure (ps.zip (us ++ its.drop j))) : Tx K mg x ps (dvs.drop j) f fd :=
  ⟨g, F.kp, FunD.binds1 F n j hd hn h⟩
end
end CF
end
section
set_option maxRecDepth 100000
set_option maxHeartbeats 4000000
/-! Trees of values, maps and lists, in plain Lean. -/
namespace CF
open PySem PySem.Spec PyProof.Rows L2
inductive Tr where
  | val (i : Int) | txt (x : Str) | node (m : Bool) (ps : List (Str × Tr))
/-- map or list -/
def kindS (m : Bool) : Str := if m then "map" else "list"
mutual
def encT : Tr → D
  | .val i => .tup [.str "value", .int i]
  | .txt x => .tup [.str "value", .str x]
  | .node m ps => .tup [.str (kindS m), .pt (encP ps)]
def encP : List (Str × Tr) → List D
  | [] => []
  | (n, t) :: r => .tup [.str n, encT t] :: encP r
end
def encPr (p : Str × Tr) : D := .tup [.str p.1, encT p.2]
theorem encP_map : ∀ ps : List (Str × Tr), encP ps = ps.map encPr
  | [] => by rw [encP]; rfl
  | (n, t) :: r => by rw [encP, encP_map r]; rfl
theorem encT_val (i : Int) : encT (.val i) = .tup [.str "value", .int i] := by rw [encT]
theorem encT_txt (i : Str) : encT (.txt i) = .tup [.str "value", .str i] := by rw [encT]
theorem encT_node (m : Bool) (ps : List (Str × Tr)) : encT (.node m ps) = .tup [.str (kindS m), .pt (ps.map encPr)] := by rw [encT, encP_map]
/-- texts go by their signs -/
def leS (a b : Str) : Bool := PySem.W.dataLe false PyData.str a b
theorem leS_def (a b : Str) : leS a b = decide (a.cps.toList ≤ b.cps.toList) := by
  unfold leS
  have e := PySem.W.dataLe_str (β := Str) id
  exact congrFun (congrFun e a) b
/-- a sign that repr shows as it is -/
def plainC (c : Nat) : Bool := decide (32 ≤ c) && decide (c < 127) && !(c == 39) && !(c == 92)
def okS (x : Str) : Bool := PyData.strOk x && decide (x.length ≤ 1000) && x.cps.toList.all plainC
/-- a tree that is at most r deep, its names out of ns -/
def okT (ns : List Str) : Nat → Tr → Prop
  | 0, _ => False
  | _ + 1, .val i => -(10 ^ 30) < i ∧ i < 10 ^ 30
  | _ + 1, .txt x => okS x = true
  | r + 1, .node m ps => (ps.map (·.1)).Nodup ∧ (∀ n ∈ ps.map (·.1), n ∈ ns) ∧ (m = true → (ps.map (·.1)).Pairwise fun a b => leS a b = true) ∧ ∀ p ∈ ps, okT ns r p.2
theorem okT_up (ns : List Str) : ∀ (r : Nat) (t : Tr), okT ns r t → okT ns (r + 1) t
  | 0, _, h => h.elim
  | _ + 1, .val _, h => h
  | _ + 1, .txt _, h => h
  | r + 1, .node m ps, ⟨h1, h2, h3, h4⟩ => ⟨h1, h2, h3, fun p hp => okT_up ns r p.2 (h4 p hp)⟩
theorem okT_mono (ns : List Str) {r s : Nat} (h : r ≤ s) {t : Tr} (k : okT ns r t) : okT ns s t := by
  induction h with
  | refl => exact k
  | step _ ih => exact okT_up ns _ t ih
mutual
/-- the nodes below the root -/
def szT : Tr → Nat
  | .val _ => 0
  | .txt _ => 0
  | .node _ ps => szP ps
def szP : List (Str × Tr) → Nat
  | [] => 0
  | (_, t) :: r => 1 + szT t + szP r
end
theorem szT_node (m : Bool) (ps : List (Str × Tr)) : szT (.node m ps) = (ps.map fun p => 1 + szT p.2).sum := by
  rw [szT]
  induction ps with
  | nil => rw [szP]; rfl
  | cons p r ih => obtain ⟨n, t⟩ := p; rw [szP, ih]; rfl
/-! ### sorted texts -/
def sortS (xs : List Str) : List Str := xs.mergeSort leS
theorem leS_total : PySem.W.TotalLe leS := by
  show PySem.W.TotalLe (PySem.W.dataLe false PyData.str)
  unfold PySem.W.dataLe
  exact PySem.W.sortLe_total _ _ _
theorem sortS_perm (xs : List Str) : (sortS xs).Perm xs := List.mergeSort_perm _ _
theorem sortS_sorted (xs : List Str) : (sortS xs).Pairwise fun a b => leS a b = true := PySem.W.sort_pairwise leS_total xs
theorem pyd_str {x : Str} (h : PyData.strOk x = true) : pyd (.str x) = .str x := by simp [pyd, D.py, h]
theorem pyAll_strs : ∀ {xs : List Str}, (∀ x ∈ xs, PyData.strOk x = true) → D.pyAll (xs.map D.str) = some (xs.map PyData.str)
  | [], _ => by simp [D.pyAll]
  | x :: xs, h => by
    have h1 := h x (.head _)
    have h2 := pyAll_strs (xs := xs) fun y hy => h y (.tail _ hy)
    rw [List.map_cons, D.pyAll, h2]
    simp [D.py, h1]
theorem sortOk_strs (xs : List Str) : SortOk (xs.map PyData.str) :=
  ⟨strs_alike xs, .inl (.others fun k => ⟨by simp, by simp⟩), fun d hd => by
    obtain ⟨k, _, rfl⟩ := List.mem_map.mp hd
    simp [PyData.depth]⟩
theorem sortD_strs {xs : List Str} (h : ∀ x ∈ xs, PyData.strOk x = true) : sortD (xs.map D.str) = (sortS xs).map D.str := by
  unfold sortD sortS
  rw [sort_fst D.str pyd xs]
  congr 1
  exact PySem.W.sort_congr fun a ha b hb => by
    show PySem.W.dataLe false (fun b => pyd (D.str b)) a b = PySem.W.dataLe false PyData.str a b
    rw [PySem.W.dataLe_eq, PySem.W.dataLe_eq]
    simp [pyd_str (h a ha), pyd_str (h b hb)]
theorem dSorted2_strs {xs : List Str} (h : ∀ x ∈ xs, PyData.strOk x = true) (G : GH) : dSorted2 mkF (.lst (xs.map D.str)) G = .ok (.lst ((sortS xs).map D.str)) G := by
  show dSorted mkF (.lst (xs.map D.str)) G = _
  unfold dSorted
  rw [lstOf_lst]
  dsimp only
  rw [pyAll_strs h]
  dsimp only
  rw [if_pos (sortOk_strs xs), sortD_strs h]
  rfl
theorem eqvAll_strs : ∀ xs ys : List Str, PyData.eqvAll (xs.map .str) (ys.map .str) = decide (xs = ys)
  | [], [] => by simp [PyData.eqvAll]
  | [], _ :: _ => by simp [PyData.eqvAll]
  | _ :: _, [] => by simp [PyData.eqvAll]
  | x :: xs, y :: ys => by
    rw [List.map_cons, List.map_cons, PyData.eqvAll, eqvAll_strs xs ys, PyData.eqv]
    by_cases h : x = y
    · subst h; simp
    · have : (x == y) = false := by
        cases q : x == y with
        | false => rfl
        | true => exact absurd (eq_of_beq q) h
      simp [this, h]
theorem depth_strs : ∀ xs : List Str, PyData.depthAll (xs.map .str) = 0
  | [] => by simp [PyData.depthAll]
  | x :: xs => by rw [List.map_cons, PyData.depthAll, depth_strs xs]; simp [PyData.depth]
theorem dEq_strs {xs ys : List Str} (hx : ∀ x ∈ xs, PyData.strOk x = true) (hy : ∀ x ∈ ys, PyData.strOk x = true) (G : GH) : dEq (.lst (xs.map D.str)) (.lst (ys.map D.str)) G = .ok (.bl (decide (xs = ys))) G := by
  have e1 : (D.lst (xs.map D.str)).py = some (.list (xs.map .str)) := by rw [D.py, pyAll_strs hx]
  have e2 : (D.lst (ys.map D.str)).py = some (.list (ys.map .str)) := by rw [D.py, pyAll_strs hy]
  unfold dEq pyEq
  rw [res_lst, res_lst, e1, e2]
  dsimp only
  rw [if_pos (by simp [PyData.depth, depth_strs]), PyData.eqv, eqvAll_strs]
theorem sortS_id {xs : List Str} (h : xs.Pairwise fun a b => leS a b = true) : sortS xs = xs := List.mergeSort_of_pairwise h
end CF
end
section
set_option maxRecDepth 100000
set_option maxHeartbeats 4000000
namespace CF
namespace K03
open PySem PySem.Spec PyProof.Rows L2
def top (i : Nat) : Stmt := PySem.Challenge.pw_claimfield_k03_same_but_orders.main.body.getD i (.Pass ⟨0, 0, 0, 0⟩)
/-- what the module's names are -/
structure Top (K : PySem.W.Frag) (mg : Str → Option Value) : Prop where
  z_all : mg "all" = none
  z_bool : mg "bool" = none
  z_dict : mg "dict" = none
  z_int : mg "int" = none
  z_isinstance : mg "isinstance" = none
  z_len : mg "len" = none
  z_max : mg "max" = none
  z_range : mg "range" = none
  z_repr : mg "repr" = none
  z_set : mg "set" = none
  z_sorted : mg "sorted" = none
  z_str : mg "str" = none
  z_sum : mg "sum" = none
  z_tuple : mg "tuple" = none
  c_BOUND : ∃ t, mg "BOUND" = some (.int (1000000000000000000000000000000) t)
  c_LETTERS : ∃ t, mg "LETTERS" = some (.str "abcdefghijklmnopqrstuvwxyz" t)
  c_MOST_LETTERS : ∃ t, mg "MOST_LETTERS" = some (.int (8) t)
  c_MOST_NODES : ∃ t, mg "MOST_NODES" = some (.int (320) t)
/-! is_integer -/
noncomputable def b_is_integer  : FS :=
    (sRet (eAnd (eOne (eVar 0) (dIsi "int")) (eNot (eTru (eOne (eVar 0) (dIsi "bool"))))))
abbrev s_is_integer : Stmt := top 10
theorem sc_is_integer : FnScope ["value"] ["value"] (defScope s_is_integer) := ⟨rfl, rfl, rfl, by decide +kernel, rfl, by decide +kernel, by decide +kernel⟩
theorem ok_is_integer {P : Program} {w : World} {K : PySem.W.Frag} {mg : Str → Option Value} {base : Heap} {k : Nat} {f : Addr} {fd : FuncData} (T : Top K mg) (F : FnAt K "is_integer" "is_integer" s_is_integer f fd)
     :
    FnD P w K mg base (k + 1) f fd ["value"] (defF ["value"] (b_is_integer )) :=
  fnD F sc_is_integer fun cdv A outer s H E hr gd => by
    have sc := sc_is_integer
    have hu := hr.units
    have hu1 := hu_of hr
    exact
      (xs_one (xs_ret (xe_and (xe_isi (T := "int") (by decide) (by decide +kernel) T.z_isinstance T.z_int (by decide) (by decide) (xv 0)) (xe_one (xe_not (xe_isi (T := "bool") (by decide) (by decide +kernel) T.z_isinstance T.z_bool (by decide) (by decide) (xv 0)))))))
/-! is_name -/
noncomputable def b_is_name  : FS :=
    (sSeq (sIf (tOrD (tNotD (eTru (eOne (eVar 0) (dIsi "str")))) (tNotD (asB (eChain dLe dLe (eC (.int 1)) (eCB (one dLen) (aCons (eVar 0) aNil)) (eC (.int (8))))))) (sRet (eC (.bl false))) sNext)
    (sRet (eCB (one dAll) (aCons (eLc mkF (iSeq (eVar 0)) (gNm 1) tYesD (eOp dIn (eVar 1) (eC (.str "abcdefghijklmnopqrstuvwxyz"))) [1]) aNil))))
abbrev s_is_name : Stmt := top 11
theorem sc_is_name : FnScope ["value", "sign"] ["value"] (defScope s_is_name) := ⟨rfl, rfl, rfl, by decide +kernel, rfl, by decide +kernel, by decide +kernel⟩
theorem ok_is_name {P : Program} {w : World} {K : PySem.W.Frag} {mg : Str → Option Value} {base : Heap} {k : Nat} {f : Addr} {fd : FuncData} (T : Top K mg) (F : FnAt K "is_name" "is_name" s_is_name f fd)
     :
    FnD P w K mg base (k + 1) f fd ["value"] (defF ["value", "sign"] (b_is_name )) :=
  fnD F sc_is_name fun cdv A outer s H E hr gd => by
    have sc := sc_is_name
    have hu := hr.units
    have hu1 := hu_of hr
    exact
      (xs_cons (xs_if (xt_w (xw_or (xt_not (xt_tru (xe_isi (T := "str") (by decide) (by decide +kernel) T.z_isinstance T.z_str (by decide) (by decide) (xv 0)))) (xw_or1 (xt_not (xt_chain L2.op_le o2_intB L2.op_le o2_intB xe_int (xe_len T.z_len (xa_cons (xv 0) xa_nil)) (xe_gint T.c_MOST_LETTERS)))))) (xs_one (xs_ret xe_bl)) xs_nil)
      (xs_one (xs_ret (xe_all rfl T.z_all (xa_cons (xe_lc (own := [("sign", 1)]) mkF_ok rfl sc.nd (xi_seq (xv 0)) (blkOk_by (by kernel_rfl)) (fun _ _ _ _ _ => (xg_name (i := 1) (vs := [1]) sc.nd rfl (by first | exact .inl rfl | exact .inr rfl) (by decide))) (fun _ _ _ _ _ => xts_nil) (fun _ _ _ _ _ => (xe_cmp (opr_in hu1) o2_in (xv 1) (xe_gstr T.c_LETTERS) (by rfl)))) xa_nil)))))
/-! is_pairs -/
noncomputable def b_is_pairs (f_is_name : List D → GH → R D) (f_is_tree : List D → GH → R D) : FS :=
    (sSeq (sIf (tOrD (tNotD (eTru (eOne (eVar 0) (dIsi "tuple")))) (tNotD (eTru (eCB (one dAll) (aCons (eLc mkF (iSeq (eVar 0)) (gNm 2) tYesD (eAnd (eOne (eVar 2) (dIsi "tuple")) (eOp dEq (eCB (one dLen) (aCons (eVar 2) aNil)) (eC (.int 2)))) [2]) aNil))))) (sRet (eC (.bl false))) sNext)
    (sSeq (sSet 3 (eLc mkF (iSeq (eVar 0)) (gNm 2) tYesD (eOp dIx (eVar 2) (eC (.int 0))) [2]))
    (sSeq (sIf (tOrD (tNotD (eTru (eCB (one dAll) (aCons (eLc mkF (iSeq (eVar 3)) (gNm 4) tYesD (eCall 1 f_is_name [] (aCons (eVar 4) aNil)) [4]) aNil)))) (asB (eOp dNe (eLenSet (eVar 3)) (eCB (one dLen) (aCons (eVar 3) aNil))))) (sRet (eC (.bl false))) sNext)
    (sRet (eCB (one dAll) (aCons (eLc mkF (iSeq (eVar 0)) (gNm 2) tYesD (eCall 2 f_is_tree [] (aCons (eOp dIx (eVar 2) (eC (.int 1))) (aCons (eVar 1) aNil))) [2]) aNil))))))
abbrev s_is_pairs : Stmt := top 12
theorem sc_is_pairs : FnScope ["pairs", "room", "pair", "names", "name"] ["pairs", "room"] (defScope s_is_pairs) := ⟨rfl, rfl, rfl, by decide +kernel, rfl, by decide +kernel, by decide +kernel⟩
theorem ok_is_pairs {P : Program} {w : World} {K : PySem.W.Frag} {mg : Str → Option Value} {base : Heap} {k : Nat} {f : Addr} {fd : FuncData} (T : Top K mg) (F : FnAt K "is_pairs" "is_pairs" s_is_pairs f fd)
    {a_is_name : Addr} {d_is_name : FuncData} {f_is_name : List D → GH → R D}
    (t_is_name : Tx K mg "is_name" ["value"] [] a_is_name d_is_name)
    (g_is_name : FnD P w K mg base k a_is_name d_is_name ["value"] f_is_name)
    {a_is_tree : Addr} {d_is_tree : FuncData} {f_is_tree : List D → GH → R D}
    (t_is_tree : Tx K mg "is_tree" ["value", "room"] [] a_is_tree d_is_tree)
    (g_is_tree : FnD P w K mg base k a_is_tree d_is_tree ["value", "room"] f_is_tree) :
    FnD P w K mg base (k + 1) f fd ["pairs", "room"] (defF ["pairs", "room", "pair", "names", "name"] (b_is_pairs f_is_name f_is_tree)) :=
  fnD F sc_is_pairs fun cdv A outer s H E hr gd => by
    have sc := sc_is_pairs
    have hu := hr.units
    have hu1 := hu_of hr
    exact
      (xs_cons (xs_if (xt_w (xw_or (xt_not (xt_tru (xe_isi (T := "tuple") (by decide) (by decide +kernel) T.z_isinstance T.z_tuple (by decide) (by decide) (xv 0)))) (xw_or1 (xt_not (xt_tru (xe_all rfl T.z_all (xa_cons (xe_lc (own := [("pair", 2)]) mkF_ok rfl sc.nd (xi_seq (xv 0)) (blkOk_by (by kernel_rfl)) (fun _ _ _ _ _ => (xg_name (i := 2) (vs := [2]) sc.nd rfl (by first | exact .inl rfl | exact .inr rfl) (by decide))) (fun _ _ _ _ _ => xts_nil) (fun _ _ _ _ _ => (xe_and (xe_isi (T := "tuple") (by decide) (by decide +kernel) T.z_isinstance T.z_tuple (by decide) (by decide) (xv 2)) (xe_one (xe_cmp (L2.op_eqD hu) o2_eq (xe_len T.z_len (xa_cons (xv 2) xa_nil)) xe_int (by rfl)))))) xa_nil))))))) (xs_one (xs_ret xe_bl)) xs_nil)
      (xs_cons (xs_setLc (own := [("pair", 2)]) (i := 3) mkF_ok rfl sc.nd rfl rfl (sw_true rfl rfl rfl (by decide +kernel)) (xi_seq (xv 0)) (blkOk_by (by kernel_rfl)) (fun _ _ _ _ _ => (xg_name (i := 2) (vs := [2]) sc.nd rfl (by first | exact .inl rfl | exact .inr rfl) (by decide))) (fun _ _ _ _ _ => xts_nil) (fun _ _ _ _ _ => (xe_ix hu1 (xv 2) xe_int)))
      (xs_cons (xs_if (xt_w (xw_or (xt_not (xt_tru (xe_all rfl T.z_all (xa_cons (xe_lc (own := [("name", 4)]) mkF_ok rfl sc.nd (xi_seq (xv 3)) (blkOk_by (by kernel_rfl)) (fun _ _ _ _ _ => (xg_name (i := 4) (vs := [4]) sc.nd rfl (by first | exact .inl rfl | exact .inr rfl) (by decide))) (fun _ _ _ _ _ => xts_nil) (fun _ _ _ _ _ => (xe_call takes0 hr gd t_is_name g_is_name (fun _ => Reps.nil) rfl (xa_cons (xv 4) xa_nil)))) xa_nil)))) (xw_or1 (xt_cmp (L2.op_neD hu) o2_ne (xe_lenSet rfl T.z_len T.z_set (xv 3)) (xe_len T.z_len (xa_cons (xv 3) xa_nil)) (by rfl))))) (xs_one (xs_ret xe_bl)) xs_nil)
      (xs_one (xs_ret (xe_all rfl T.z_all (xa_cons (xe_lc (own := [("pair", 2)]) mkF_ok rfl sc.nd (xi_seq (xv 0)) (blkOk_by (by kernel_rfl)) (fun _ _ _ _ _ => (xg_name (i := 2) (vs := [2]) sc.nd rfl (by first | exact .inl rfl | exact .inr rfl) (by decide))) (fun _ _ _ _ _ => xts_nil) (fun _ _ _ _ _ => (xe_call takes0 hr gd t_is_tree g_is_tree (fun _ => Reps.nil) rfl (xa_cons (xe_ix hu1 (xv 2) xe_int) (xa_cons (xv 1) xa_nil))))) xa_nil)))))))
/-! is_tree -/
noncomputable def b_is_tree (f_is_integer : List D → GH → R D) (f_is_pairs : List D → GH → R D) : FS :=
    (sSeq (sIf (tOrD (asB (eOp dEq (eVar 1) (eC (.int 0)))) (tOrD (tNotD (eTru (eOne (eVar 0) (dIsi "tuple")))) (asB (eOp dNe (eCB (one dLen) (aCons (eVar 0) aNil)) (eC (.int 2)))))) (sRet (eC (.bl false))) sNext)
    (sSeq (sIf (asB (eOp dEq (eOp dIx (eVar 0) (eC (.int 0))) (eC (.str "value")))) (sSeq (sIf (eTru (eCall 1 f_is_integer [] (aCons (eOp dIx (eVar 0) (eC (.int 1))) aNil))) (sRet (eChain dLt dLt (eUn dNeg (eC (.int (1000000000000000000000000000000)))) (eOp dIx (eVar 0) (eC (.int 1))) (eC (.int (1000000000000000000000000000000))))) sNext)
    (sRet (eOne (eOp dIx (eVar 0) (eC (.int 1))) (dIsi "str")))) sNext)
    (sSeq (sIf (tOrD (asB (eOp dNotIn (eOp dIx (eVar 0) (eC (.int 0))) (eTup (aCons (eC (.str "map")) (aCons (eC (.str "list")) aNil))))) (tNotD (eTru (eCall 2 f_is_pairs [] (aCons (eOp dIx (eVar 0) (eC (.int 1))) (aCons (eOp dSub (eVar 1) (eC (.int 1))) aNil)))))) (sRet (eC (.bl false))) sNext)
    (sSeq (sSet 2 (eLc mkF (iSeq (eOp dIx (eVar 0) (eC (.int 1)))) (gTp 2 (gsCons (gNm 3) (gsCons (gNm 4) gsNil))) tYesD (eVar 3) [3, 4]))
    (sRet (eOr (eOp dEq (eOp dIx (eVar 0) (eC (.int 0))) (eC (.str "list"))) (eOp dEq (eVar 2) (eCB (one (dSorted2 mkF)) (aCons (eVar 2) aNil)))))))))
abbrev s_is_tree : Stmt := top 13
theorem sc_is_tree : FnScope ["value", "room", "names", "name", "node"] ["value", "room"] (defScope s_is_tree) := ⟨rfl, rfl, rfl, by decide +kernel, rfl, by decide +kernel, by decide +kernel⟩
theorem ok_is_tree {P : Program} {w : World} {K : PySem.W.Frag} {mg : Str → Option Value} {base : Heap} {k : Nat} {f : Addr} {fd : FuncData} (T : Top K mg) (F : FnAt K "is_tree" "is_tree" s_is_tree f fd)
    {a_is_integer : Addr} {d_is_integer : FuncData} {f_is_integer : List D → GH → R D}
    (t_is_integer : Tx K mg "is_integer" ["value"] [] a_is_integer d_is_integer)
    (g_is_integer : FnD P w K mg base k a_is_integer d_is_integer ["value"] f_is_integer)
    {a_is_pairs : Addr} {d_is_pairs : FuncData} {f_is_pairs : List D → GH → R D}
    (t_is_pairs : Tx K mg "is_pairs" ["pairs", "room"] [] a_is_pairs d_is_pairs)
    (g_is_pairs : FnD P w K mg base k a_is_pairs d_is_pairs ["pairs", "room"] f_is_pairs) :
    FnD P w K mg base (k + 1) f fd ["value", "room"] (defF ["value", "room", "names", "name", "node"] (b_is_tree f_is_integer f_is_pairs)) :=
  fnD F sc_is_tree fun cdv A outer s H E hr gd => by
    have sc := sc_is_tree
    have hu := hr.units
    have hu1 := hu_of hr
    exact
      (xs_cons (xs_if (xt_w (xw_or (xt_cmp (L2.op_eqD hu) o2_eq (xv 1) xe_int (by rfl)) (xw_or (xt_not (xt_tru (xe_isi (T := "tuple") (by decide) (by decide +kernel) T.z_isinstance T.z_tuple (by decide) (by decide) (xv 0)))) (xw_or1 (xt_cmp (L2.op_neD hu) o2_ne (xe_len T.z_len (xa_cons (xv 0) xa_nil)) xe_int (by rfl)))))) (xs_one (xs_ret xe_bl)) xs_nil)
      (xs_cons (xs_if (xt_cmp (L2.op_eqD hu) o2_eq (xe_ix hu1 (xv 0) xe_int) xe_str (by rfl)) (xs_cons (xs_if (xt_tru (xe_call tkB hr gd t_is_integer g_is_integer (fun _ => Reps.nil) rfl (xa_cons (xe_ix hu1 (xv 0) xe_int) xa_nil))) (xs_one (xs_ret (xe_chain L2.op_lt o2_intB L2.op_lt o2_intB (xe_neg (xe_gint T.c_BOUND)) (xe_ix hu1 (xv 0) xe_int) (xe_gint T.c_BOUND)))) xs_nil)
      (xs_one (xs_ret (xe_isi (T := "str") (by decide) (by decide +kernel) T.z_isinstance T.z_str (by decide) (by decide) (xe_ix hu1 (xv 0) xe_int))))) xs_nil)
      (xs_cons (xs_if (xt_w (xw_or (xt_cmp (opr_notIn hu1) o2_notIn (xe_ix hu1 (xv 0) xe_int) (xe_tup (xa_cons xe_str (xa_cons xe_str xa_nil))) (by rfl)) (xw_or1 (xt_not (xt_tru (xe_call tkB hr gd t_is_pairs g_is_pairs (fun _ => Reps.nil) rfl (xa_cons (xe_ix hu1 (xv 0) xe_int) (xa_cons (xe_op opr_sub o2_sub (xv 1) xe_int) xa_nil)))))))) (xs_one (xs_ret xe_bl)) xs_nil)
      (xs_cons (xs_setLc (own := [("name", 3), ("node", 4)]) (i := 2) mkF_ok rfl sc.nd rfl rfl (sw_true rfl rfl rfl (by decide +kernel)) (xi_seq (xe_ix hu1 (xv 0) xe_int)) (blkOk_by (by kernel_rfl)) (fun _ _ _ _ _ => (xg_tup (us := [3, 4]) rfl (xgs_cons (xg_name (i := 3) (vs := [3, 4]) sc.nd rfl (by first | exact .inl rfl | exact .inr rfl) (by decide)) (xgs_cons (xg_name (i := 4) (vs := [3, 4]) sc.nd rfl (by first | exact .inl rfl | exact .inr rfl) (by decide)) xgs_nil)))) (fun _ _ _ _ _ => xts_nil) (fun _ _ _ _ _ => (xv 3)))
      (xs_one (xs_ret (xe_or (xe_cmp (L2.op_eqD hu) o2_eq (xe_ix hu1 (xv 0) xe_int) xe_str (by rfl)) (xe_one (xe_cmp (L2.op_eqD hu) o2_eq (xv 2) (xe_sorted2 mkF_ok rfl hu T.z_sorted (xa_cons (xv 2) xa_nil)) (by rfl))))))))))
/-! count_of -/
noncomputable def b_count_of (f_count_of : List D → GH → R D) : FS :=
    (sSeq (sIf (asB (eOp dEq (eOp dIx (eVar 0) (eC (.int 0))) (eC (.str "value")))) (sRet (eC (.int 0))) sNext)
    (sRet (eCB (one dSum) (aCons (eLc mkF (iSeq (eOp dIx (eVar 0) (eC (.int 1)))) (gTp 2 (gsCons (gNm 1) (gsCons (gNm 2) gsNil))) tYesD (eOp (dAdd mkF) (eC (.int 1)) (eCall 1 f_count_of [] (aCons (eVar 2) aNil))) [1, 2]) aNil))))
abbrev s_count_of : Stmt := top 14
theorem sc_count_of : FnScope ["tree", "name", "node"] ["tree"] (defScope s_count_of) := ⟨rfl, rfl, rfl, by decide +kernel, rfl, by decide +kernel, by decide +kernel⟩
theorem ok_count_of {P : Program} {w : World} {K : PySem.W.Frag} {mg : Str → Option Value} {base : Heap} {k : Nat} {f : Addr} {fd : FuncData} (T : Top K mg) (F : FnAt K "count_of" "count_of" s_count_of f fd)
    {a_count_of : Addr} {d_count_of : FuncData} {f_count_of : List D → GH → R D}
    (t_count_of : Tx K mg "count_of" ["tree"] [] a_count_of d_count_of)
    (g_count_of : FnD P w K mg base k a_count_of d_count_of ["tree"] f_count_of) :
    FnD P w K mg base (k + 1) f fd ["tree"] (defF ["tree", "name", "node"] (b_count_of f_count_of)) :=
  fnD F sc_count_of fun cdv A outer s H E hr gd => by
    have sc := sc_count_of
    have hu := hr.units
    have hu1 := hu_of hr
    exact
      (xs_cons (xs_if (xt_cmp (L2.op_eqD hu) o2_eq (xe_ix hu1 (xv 0) xe_int) xe_str (by rfl)) (xs_one (xs_ret xe_int)) xs_nil)
      (xs_one (xs_ret (xe_sum rfl T.z_sum (xa_cons (xe_lc (own := [("name", 1), ("node", 2)]) mkF_ok rfl sc.nd (xi_seq (xe_ix hu1 (xv 0) xe_int)) (blkOk_by (by kernel_rfl)) (fun _ _ _ _ _ => (xg_tup (us := [1, 2]) rfl (xgs_cons (xg_name (i := 1) (vs := [1, 2]) sc.nd rfl (by first | exact .inl rfl | exact .inr rfl) (by decide)) (xgs_cons (xg_name (i := 2) (vs := [1, 2]) sc.nd rfl (by first | exact .inl rfl | exact .inr rfl) (by decide)) xgs_nil)))) (fun _ _ _ _ _ => xts_nil) (fun _ _ _ _ _ => (xe_op opr_add (o2_add mkF_ok) xe_int (xe_call takes0 hr gd t_count_of g_count_of (fun _ => Reps.nil) rfl (xa_cons (xv 2) xa_nil))))) xa_nil)))))
/-! check_tree -/
noncomputable def b_check_tree (f_is_tree : List D → GH → R D) (f_count_of : List D → GH → R D) : FS :=
    (sSeq (sIf (tNotD (eTru (eCall 2 f_is_tree (.int 6 :: []) (aCons (eVar 0) aNil)))) sDead sNext)
    (sIf (asB (eOp dGt (eCall 1 f_count_of [] (aCons (eVar 0) aNil)) (eC (.int (320))))) sDead sNext))
abbrev s_check_tree : Stmt := top 15
theorem sc_check_tree : FnScope ["tree"] ["tree"] (defScope s_check_tree) := ⟨rfl, rfl, rfl, by decide +kernel, rfl, by decide +kernel, by decide +kernel⟩
theorem ok_check_tree {P : Program} {w : World} {K : PySem.W.Frag} {mg : Str → Option Value} {base : Heap} {k : Nat} {f : Addr} {fd : FuncData} (T : Top K mg) (F : FnAt K "check_tree" "check_tree" s_check_tree f fd)
    {a_is_tree : Addr} {d_is_tree : FuncData} {f_is_tree : List D → GH → R D}
    (t_is_tree_1 : Tx K mg "is_tree" ["value", "room"] [V.int 6] a_is_tree d_is_tree)
    (g_is_tree : FnD P w K mg base k a_is_tree d_is_tree ["value", "room"] f_is_tree)
    {a_count_of : Addr} {d_count_of : FuncData} {f_count_of : List D → GH → R D}
    (t_count_of : Tx K mg "count_of" ["tree"] [] a_count_of d_count_of)
    (g_count_of : FnD P w K mg base k a_count_of d_count_of ["tree"] f_count_of) :
    FnD P w K mg base (k + 1) f fd ["tree"] (defF ["tree"] (b_check_tree f_is_tree f_count_of)) :=
  fnD F sc_check_tree fun cdv A outer s H E hr gd => by
    have sc := sc_check_tree
    have hu := hr.units
    have hu1 := hu_of hr
    exact
      (xs_cons (xs_if (xt_not (xt_tru (xe_call tkB hr gd t_is_tree_1 g_is_tree (fun _ => (Reps.cons (Rep.int _) Reps.nil)) rfl (xa_cons (xv 0) xa_nil)))) (xs_one xs_dead) xs_nil)
      (xs_one (xs_if (xt_cmp L2.op_gt o2_intB (xe_call tkB hr gd t_count_of g_count_of (fun _ => Reps.nil) rfl (xa_cons (xv 0) xa_nil)) (xe_gint T.c_MOST_NODES) (by rfl)) (xs_one xs_dead) xs_nil)))
/-! sorted_lists -/
noncomputable def b_sorted_lists (f_sorted_lists : List D → GH → R D) : FS :=
    (sSeq (sIf (asB (eOp dEq (eOp dIx (eVar 0) (eC (.int 0))) (eC (.str "value")))) (sRet (eVar 0)) sNext)
    (sSeq (sSet 1 (eCB (one (dSorted2 mkF)) (aCons (eCB (one (dDict mkKF)) (aCons (eOp dIx (eVar 0) (eC (.int 1))) aNil)) aNil)))
    (sRet (eTup (aCons (eOp dIx (eVar 0) (eC (.int 0))) (aCons (eCB (one dTupP) (aCons (eLc mkF (iSeq (eVar 1)) (gNm 2) tYesD (eTup (aCons (eVar 2) (aCons (eCall 1 f_sorted_lists [] (aCons (eOp dIx (eCB (one (dDict mkKF)) (aCons (eOp dIx (eVar 0) (eC (.int 1))) aNil)) (eVar 2)) aNil)) aNil))) [2]) aNil)) aNil))))))
abbrev s_sorted_lists : Stmt := top 16
theorem sc_sorted_lists : FnScope ["tree", "names", "name"] ["tree"] (defScope s_sorted_lists) := ⟨rfl, rfl, rfl, by decide +kernel, rfl, by decide +kernel, by decide +kernel⟩
theorem ok_sorted_lists {P : Program} {w : World} {K : PySem.W.Frag} {mg : Str → Option Value} {base : Heap} {k : Nat} {f : Addr} {fd : FuncData} (T : Top K mg) (F : FnAt K "sorted_lists" "sorted_lists" s_sorted_lists f fd)
    {a_sorted_lists : Addr} {d_sorted_lists : FuncData} {f_sorted_lists : List D → GH → R D}
    (t_sorted_lists : Tx K mg "sorted_lists" ["tree"] [] a_sorted_lists d_sorted_lists)
    (g_sorted_lists : FnD P w K mg base k a_sorted_lists d_sorted_lists ["tree"] f_sorted_lists) :
    FnD P w K mg base (k + 1) f fd ["tree"] (defF ["tree", "names", "name"] (b_sorted_lists f_sorted_lists)) :=
  fnD F sc_sorted_lists fun cdv A outer s H E hr gd => by
    have sc := sc_sorted_lists
    have hu := hr.units
    have hu1 := hu_of hr
    exact
      (xs_cons (xs_if (xt_cmp (L2.op_eqD hu) o2_eq (xe_ix hu1 (xv 0) xe_int) xe_str (by rfl)) (xs_one (xs_ret (xv 0))) xs_nil)
      (xs_cons (xs_set (i := 1) sc.nd rfl (by first | exact .inl rfl | exact .inr rfl) (xe_sorted2 mkF_ok rfl hu T.z_sorted (xa_cons (xe_dict1 mkKF_ok rfl T.z_dict (xa_cons (xe_ix hu1 (xv 0) xe_int) xa_nil)) xa_nil)))
      (xs_one (xs_ret (xe_tup (xa_cons (xe_ix hu1 (xv 0) xe_int) (xa_cons (xe_tupleP T.z_tuple (xa_cons (xe_lc (own := [("name", 2)]) mkF_ok rfl sc.nd (xi_seq (xv 1)) (blkOk_by (by kernel_rfl)) (fun _ _ _ _ _ => (xg_name (i := 2) (vs := [2]) sc.nd rfl (by first | exact .inl rfl | exact .inr rfl) (by decide))) (fun _ _ _ _ _ => xts_nil) (fun _ _ _ _ _ => (xe_tup (xa_cons (xv 2) (xa_cons (xe_call takes0 hr gd t_sorted_lists g_sorted_lists (fun _ => Reps.nil) rfl (xa_cons (xe_ix hu1 (xe_dict1 mkKF_ok rfl T.z_dict (xa_cons (xe_ix hu1 (xv 0) xe_int) xa_nil)) (xv 2)) xa_nil)) xa_nil))))) xa_nil)) xa_nil)))))))
/-! same_but_orders -/
noncomputable def b_same_but_orders (f_check_tree : List D → GH → R D) (f_sorted_lists : List D → GH → R D) : FS :=
    (sSeq (sDrop (eCall 1 f_check_tree [] (aCons (eVar 0) aNil)))
    (sSeq (sDrop (eCall 1 f_check_tree [] (aCons (eVar 1) aNil)))
    (sRet (eOp dEq (eCall 1 f_sorted_lists [] (aCons (eVar 0) aNil)) (eCall 1 f_sorted_lists [] (aCons (eVar 1) aNil))))))
abbrev s_same_but_orders : Stmt := top 17
theorem sc_same_but_orders : FnScope ["one", "other"] ["one", "other"] (defScope s_same_but_orders) := ⟨rfl, rfl, rfl, by decide +kernel, rfl, by decide +kernel, by decide +kernel⟩
theorem ok_same_but_orders {P : Program} {w : World} {K : PySem.W.Frag} {mg : Str → Option Value} {base : Heap} {k : Nat} {f : Addr} {fd : FuncData} (T : Top K mg) (F : FnAt K "same_but_orders" "same_but_orders" s_same_but_orders f fd)
    {a_check_tree : Addr} {d_check_tree : FuncData} {f_check_tree : List D → GH → R D}
    (t_check_tree : Tx K mg "check_tree" ["tree"] [] a_check_tree d_check_tree)
    (g_check_tree : FnD P w K mg base k a_check_tree d_check_tree ["tree"] f_check_tree)
    {a_sorted_lists : Addr} {d_sorted_lists : FuncData} {f_sorted_lists : List D → GH → R D}
    (t_sorted_lists : Tx K mg "sorted_lists" ["tree"] [] a_sorted_lists d_sorted_lists)
    (g_sorted_lists : FnD P w K mg base k a_sorted_lists d_sorted_lists ["tree"] f_sorted_lists) :
    FnD P w K mg base (k + 1) f fd ["one", "other"] (defF ["one", "other"] (b_same_but_orders f_check_tree f_sorted_lists)) :=
  fnD F sc_same_but_orders fun cdv A outer s H E hr gd => by
    have sc := sc_same_but_orders
    have hu := hr.units
    have hu1 := hu_of hr
    exact
      (xs_cons (xs_expr (xe_call tkB hr gd t_check_tree g_check_tree (fun _ => Reps.nil) rfl (xa_cons (xv 0) xa_nil)))
      (xs_cons (xs_expr (xe_call tkB hr gd t_check_tree g_check_tree (fun _ => Reps.nil) rfl (xa_cons (xv 1) xa_nil)))
      (xs_one (xs_ret (xe_cmp (L2.op_eqD hu) o2_eq (xe_call tkB hr gd t_sorted_lists g_sorted_lists (fun _ => Reps.nil) rfl (xa_cons (xv 0) xa_nil)) (xe_call tkB hr gd t_sorted_lists g_sorted_lists (fun _ => Reps.nil) rfl (xa_cons (xv 1) xa_nil)) (by rfl))))))
/-! _law_cell_at -/
noncomputable def b__law_cell_at  : FS :=
    (sSeq (sIf (asB (eOp dLt (eVar 1) (eCB (one dLen) (aCons (eVar 0) aNil)))) (sRet (eOp dIx (eVar 0) (eVar 1))) sNext)
    (sRet (eC (.int 0))))
abbrev s__law_cell_at : Stmt := top 19
theorem sc__law_cell_at : FnScope ["_law_script", "_law_k"] ["_law_script", "_law_k"] (defScope s__law_cell_at) := ⟨rfl, rfl, rfl, by decide +kernel, rfl, by decide +kernel, by decide +kernel⟩
theorem ok__law_cell_at {P : Program} {w : World} {K : PySem.W.Frag} {mg : Str → Option Value} {base : Heap} {k : Nat} {f : Addr} {fd : FuncData} (T : Top K mg) (F : FnAt K "_law_cell_at" "_law_cell_at" s__law_cell_at f fd)
     :
    FnD P w K mg base (k + 1) f fd ["_law_script", "_law_k"] (defF ["_law_script", "_law_k"] (b__law_cell_at )) :=
  fnD F sc__law_cell_at fun cdv A outer s H E hr gd => by
    have sc := sc__law_cell_at
    have hu := hr.units
    have hu1 := hu_of hr
    exact
      (xs_cons (xs_if (xt_cmp L2.op_lt o2_intB (xv 1) (xe_len T.z_len (xa_cons (xv 0) xa_nil)) (by rfl)) (xs_one (xs_ret (xe_ix hu1 (xv 0) (xv 1)))) xs_nil)
      (xs_one (xs_ret xe_int)))
/-! _law_well -/
noncomputable def b__law_well  : FS :=
    (sRet (eLstM (aCons (eOp dIx (eLst (aCons (eC (.int 0)) (aCons (eVar 0) aNil))) (eCB (one dInt) (aCons (eOp dGe (eVar 0) (eOp dPow (eC (.int 10)) (eC (.int 18)))) aNil))) (aCons (eVar 0) (aCons (eC (.int 0)) aNil)))))
abbrev s__law_well : Stmt := top 20
theorem sc__law_well : FnScope ["_law_cell"] ["_law_cell"] (defScope s__law_well) := ⟨rfl, rfl, rfl, by decide +kernel, rfl, by decide +kernel, by decide +kernel⟩
theorem ok__law_well {P : Program} {w : World} {K : PySem.W.Frag} {mg : Str → Option Value} {base : Heap} {k : Nat} {f : Addr} {fd : FuncData} (T : Top K mg) (F : FnAt K "_law_well" "_law_well" s__law_well f fd)
     :
    FnD P w K mg base (k + 1) f fd ["_law_cell"] (defF ["_law_cell"] (b__law_well )) :=
  fnD F sc__law_well fun cdv A outer s H E hr gd => by
    have sc := sc__law_well
    have hu := hr.units
    have hu1 := hu_of hr
    exact
      (xs_one (xs_ret (xe_lstM (xa_cons (xe_ix hu1 (xe_lst (xa_cons xe_int (xa_cons (xv 0) xa_nil))) (xe_int1 T.z_int (xa_cons (xe_cmp L2.op_ge o2_intB (xv 0) (xe_op L2.op_pow o2_pow xe_int xe_int) (by rfl)) xa_nil))) (xa_cons (xv 0) (xa_cons xe_int xa_nil))))))
/-! _law_draw -/
noncomputable def b__law_draw  : FS :=
    (sSeq (sIf (asB (eOp dGt (eOp dIx (eVar 0) (eC (.int 0))) (eC (.int 0)))) (sSeq (sSet 2 (eOp dMod (eCB (one dInt) (aCons (eOp dIx (eVar 0) (eC (.int 0))) aNil)) (eVar 1)))
    (sSeq (sSetI (eVar 0) (eC (.int 0)) (eOp dDiv (eOp dIx (eVar 0) (eC (.int 0))) (eVar 1)))
    (sRet (eVar 2)))) sNext)
    (sSeq (sSetI (eVar 0) (eC (.int 2)) (eOp (dAdd mkF) (eOp dIx (eVar 0) (eC (.int 2))) (eC (.int 1))))
    (sSeq (sSet 3 (eOp dMod (eCB (one dInt) (aCons (eOp dDiv (eOp dIx (eVar 0) (eC (.int 1))) (eC (.int 2147483629))) aNil)) (eC (.int 65521))))
    (sSeq (sSet 4 (eOp (dAdd mkF) (eOp (dAdd mkF) (eOp (dAdd mkF) (eOp dMod (eCB (one dInt) (aCons (eOp dIx (eVar 0) (eC (.int 1))) aNil)) (eC (.int 2147483629))) (eOp dMulI (eC (.int 7919)) (eOp dIx (eVar 0) (eC (.int 2))))) (eVar 3)) (eC (.int 1))))
    (sSeq (sSet 5 (eOp dMod (eCB (one dInt) (aCons (eOp dPow (eVar 4) (eC (.int 5))) aNil)) (eC (.int 2147483647))))
    (sSeq (sSet 5 (eOp dMod (eCB (one dInt) (aCons (eOp dMulI (eVar 5) (eOp (dAdd mkF) (eOp (dAdd mkF) (eOp dDiv (eVar 5) (eC (.int 1009))) (eC (.int 69621))) (eOp dIx (eVar 0) (eC (.int 2))))) aNil)) (eC (.int 2147483629))))
    (sRet (eOp dMod (eCB (one dInt) (aCons (eOp dMod (eCB (one dInt) (aCons (eOp dMulI (eVar 5) (eOp (dAdd mkF) (eOp dDiv (eVar 5) (eC (.int 2003))) (eC (.int 40692)))) aNil)) (eC (.int 2147483399))) aNil)) (eVar 1)))))))))
abbrev s__law_draw : Stmt := top 21
theorem sc__law_draw : FnScope ["_law_well_here", "_law_many", "_law_found", "_law_salt", "_law_base", "_law_number"] ["_law_well_here", "_law_many"] (defScope s__law_draw) := ⟨rfl, rfl, rfl, by decide +kernel, rfl, by decide +kernel, by decide +kernel⟩
theorem ok__law_draw {P : Program} {w : World} {K : PySem.W.Frag} {mg : Str → Option Value} {base : Heap} {k : Nat} {f : Addr} {fd : FuncData} (T : Top K mg) (F : FnAt K "_law_draw" "_law_draw" s__law_draw f fd)
     :
    FnD P w K mg base (k + 1) f fd ["_law_well_here", "_law_many"] (defF ["_law_well_here", "_law_many", "_law_found", "_law_salt", "_law_base", "_law_number"] (b__law_draw )) :=
  fnD F sc__law_draw fun cdv A outer s H E hr gd => by
    have sc := sc__law_draw
    have hu := hr.units
    have hu1 := hu_of hr
    exact
      (xs_cons (xs_if (xt_cmp L2.op_gt o2_intB (xe_ix hu1 (xv 0) xe_int) xe_int (by rfl)) (xs_cons (xs_set (i := 2) sc.nd rfl (by first | exact .inl rfl | exact .inr rfl) (xe_op L2.op_mod o2_mod (xe_int1 T.z_int (xa_cons (xe_ix hu1 (xv 0) xe_int) xa_nil)) (xv 1)))
      (xs_cons (xs_setI (xe_op L2.op_fdivW o2_div (xe_ix hu1 (xv 0) xe_int) (xv 1)) (xv 0) xe_int)
      (xs_one (xs_ret (xv 2))))) xs_nil)
      (xs_cons (xs_setI (xe_op opr_add (o2_add mkF_ok) (xe_ix hu1 (xv 0) xe_int) xe_int) (xv 0) xe_int)
      (xs_cons (xs_set (i := 3) sc.nd rfl (by first | exact .inl rfl | exact .inr rfl) (xe_op L2.op_mod o2_mod (xe_int1 T.z_int (xa_cons (xe_op L2.op_fdivW o2_div (xe_ix hu1 (xv 0) xe_int) xe_int) xa_nil)) xe_int))
      (xs_cons (xs_set (i := 4) sc.nd rfl (by first | exact .inl rfl | exact .inr rfl) (xe_op opr_add (o2_add mkF_ok) (xe_op opr_add (o2_add mkF_ok) (xe_op opr_add (o2_add mkF_ok) (xe_op L2.op_mod o2_mod (xe_int1 T.z_int (xa_cons (xe_ix hu1 (xv 0) xe_int) xa_nil)) xe_int) (xe_op L2.op_mul o2_mul xe_int (xe_ix hu1 (xv 0) xe_int))) (xv 3)) xe_int))
      (xs_cons (xs_set (i := 5) sc.nd rfl (by first | exact .inl rfl | exact .inr rfl) (xe_op L2.op_mod o2_mod (xe_int1 T.z_int (xa_cons (xe_op L2.op_pow o2_pow (xv 4) xe_int) xa_nil)) xe_int))
      (xs_cons (xs_set (i := 5) sc.nd rfl (by first | exact .inl rfl | exact .inr rfl) (xe_op L2.op_mod o2_mod (xe_int1 T.z_int (xa_cons (xe_op L2.op_mul o2_mul (xv 5) (xe_op opr_add (o2_add mkF_ok) (xe_op opr_add (o2_add mkF_ok) (xe_op L2.op_fdivW o2_div (xv 5) xe_int) xe_int) (xe_ix hu1 (xv 0) xe_int))) xa_nil)) xe_int))
      (xs_one (xs_ret (xe_op L2.op_mod o2_mod (xe_int1 T.z_int (xa_cons (xe_op L2.op_mod o2_mod (xe_int1 T.z_int (xa_cons (xe_op L2.op_mul o2_mul (xv 5) (xe_op opr_add (o2_add mkF_ok) (xe_op L2.op_fdivW o2_div (xv 5) xe_int) xe_int)) xa_nil)) xe_int) xa_nil)) (xv 1))))))))))
/-! _law_one -/
noncomputable def b__law_one (f__law_draw : List D → GH → R D) : FS :=
    (sRet (eOp dIx (eVar 1) (eCall 2 f__law_draw [] (aCons (eVar 0) (aCons (eCB (one dLen) (aCons (eVar 1) aNil)) aNil)))))
abbrev s__law_one : Stmt := top 22
theorem sc__law_one : FnScope ["_law_well_here", "_law_some"] ["_law_well_here", "_law_some"] (defScope s__law_one) := ⟨rfl, rfl, rfl, by decide +kernel, rfl, by decide +kernel, by decide +kernel⟩
theorem ok__law_one {P : Program} {w : World} {K : PySem.W.Frag} {mg : Str → Option Value} {base : Heap} {k : Nat} {f : Addr} {fd : FuncData} (T : Top K mg) (F : FnAt K "_law_one" "_law_one" s__law_one f fd)
    {a__law_draw : Addr} {d__law_draw : FuncData} {f__law_draw : List D → GH → R D}
    (t__law_draw : Tx K mg "_law_draw" ["_law_well_here", "_law_many"] [] a__law_draw d__law_draw)
    (g__law_draw : FnD P w K mg base k a__law_draw d__law_draw ["_law_well_here", "_law_many"] f__law_draw) :
    FnD P w K mg base (k + 1) f fd ["_law_well_here", "_law_some"] (defF ["_law_well_here", "_law_some"] (b__law_one f__law_draw)) :=
  fnD F sc__law_one fun cdv A outer s H E hr gd => by
    have sc := sc__law_one
    have hu := hr.units
    have hu1 := hu_of hr
    exact
      (xs_one (xs_ret (xe_ix hu1 (xv 1) (xe_call tkB hr gd t__law_draw g__law_draw (fun _ => Reps.nil) rfl (xa_cons (xv 0) (xa_cons (xe_len T.z_len (xa_cons (xv 1) xa_nil)) xa_nil))))))
/-! _law_names -/
noncomputable def b__law_names (f__law_draw : List D → GH → R D) : FS :=
    (sSeq (sSet 2 (eLstM (aCons (eC (.str "a")) (aCons (eC (.str "aa")) (aCons (eC (.str "ab")) (aCons (eC (.str "b")) (aCons (eC (.str "ba")) aNil)))))))
    (sRet (eLc mkF (iRg1 (aCons (eCall 2 f__law_draw [] (aCons (eVar 0) (aCons (eOp (dAdd mkF) (eVar 1) (eC (.int 1))) aNil))) aNil)) (gNm 3) tYesD (eMt "list" mPopAt (eVar 2) (aCons (eCall 2 f__law_draw [] (aCons (eVar 0) (aCons (eCB (one dLen) (aCons (eVar 2) aNil)) aNil))) aNil)) [3])))
abbrev s__law_names : Stmt := top 23
theorem sc__law_names : FnScope ["_law_well_here", "_law_most", "_law_left", "_law_k"] ["_law_well_here", "_law_most"] (defScope s__law_names) := ⟨rfl, rfl, rfl, by decide +kernel, rfl, by decide +kernel, by decide +kernel⟩
theorem ok__law_names {P : Program} {w : World} {K : PySem.W.Frag} {mg : Str → Option Value} {base : Heap} {k : Nat} {f : Addr} {fd : FuncData} (T : Top K mg) (F : FnAt K "_law_names" "_law_names" s__law_names f fd)
    {a__law_draw : Addr} {d__law_draw : FuncData} {f__law_draw : List D → GH → R D}
    (t__law_draw : Tx K mg "_law_draw" ["_law_well_here", "_law_many"] [] a__law_draw d__law_draw)
    (g__law_draw : FnD P w K mg base k a__law_draw d__law_draw ["_law_well_here", "_law_many"] f__law_draw) :
    FnD P w K mg base (k + 1) f fd ["_law_well_here", "_law_most"] (defF ["_law_well_here", "_law_most", "_law_left", "_law_k"] (b__law_names f__law_draw)) :=
  fnD F sc__law_names fun cdv A outer s H E hr gd => by
    have sc := sc__law_names
    have hu := hr.units
    have hu1 := hu_of hr
    exact
      (xs_cons (xs_set (i := 2) sc.nd rfl (by first | exact .inl rfl | exact .inr rfl) (xe_lstM (xa_cons xe_str (xa_cons xe_str (xa_cons xe_str (xa_cons xe_str (xa_cons xe_str xa_nil)))))))
      (xs_one (xs_ret (xe_lc (own := [("_law_k", 3)]) mkF_ok rfl sc.nd (xi_range1 rfl T.z_range (xa_cons (xe_call tkB hr gd t__law_draw g__law_draw (fun _ => Reps.nil) rfl (xa_cons (xv 0) (xa_cons (xe_op opr_add (o2_add mkF_ok) (xv 1) xe_int) xa_nil))) xa_nil)) (blkOk_by (by kernel_rfl)) (fun _ _ _ _ _ => (xg_name (i := 3) (vs := [3]) sc.nd rfl (by first | exact .inl rfl | exact .inr rfl) (by decide))) (fun _ _ _ _ _ => xts_nil) (fun _ _ _ _ _ => (xe_popAt (xv 2) (xa_cons (xe_call takes0 hr gd t__law_draw g__law_draw (fun _ => Reps.nil) rfl (xa_cons (xv 0) (xa_cons (xe_len T.z_len (xa_cons (xv 2) xa_nil)) xa_nil))) xa_nil)))))))
/-! _law_tree -/
noncomputable def b__law_tree (f__law_draw : List D → GH → R D) (f__law_one : List D → GH → R D) (f__law_names : List D → GH → R D) (f__law_tree : List D → GH → R D) : FS :=
    (sSeq (sSet 3 (eCall 2 f__law_draw [] (aCons (eVar 0) (aCons (eC (.int 5)) aNil))))
    (sSeq (sIf (tOrD (tAndD (asB (eOp dLe (eVar 1) (eC (.int 1)))) (asB (eOp dGt (eVar 3) (eC (.int 1))))) (asB (eOp dEq (eVar 3) (eC (.int 0))))) (sRet (eTup (aCons (eC (.str "value")) (aCons (eCall 2 f__law_one [] (aCons (eVar 0) (aCons (eLst (aCons (eC (.int 0)) (aCons (eC (.int 1)) (aCons (eUn dNeg (eC (.int 7))) (aCons (eC (.str "")) (aCons (eC (.str "x")) (aCons (eC (.str "a b")) (aCons (eOp dPow (eC (.int 10)) (eC (.int 20))) aNil)))))))) aNil))) aNil)))) sNext)
    (sSeq (sIf (asB (eOp dLe (eVar 1) (eC (.int 1)))) (sRet (eTup (aCons (eCall 2 f__law_one [] (aCons (eVar 0) (aCons (eLst (aCons (eC (.str "map")) (aCons (eC (.str "list")) aNil))) aNil))) (aCons (eTupP aNil) aNil)))) sNext)
    (sSeq (sSet 4 (eCall 2 f__law_names [] (aCons (eVar 0) (aCons (eVar 2) aNil))))
    (sSeq (sIf (asB (eOp dEq (eVar 3) (eC (.int 1)))) (sRet (eTup (aCons (eC (.str "list")) (aCons (eCB (one dTupP) (aCons (eLc mkF (iSeq (eVar 4)) (gNm 5) tYesD (eTup (aCons (eVar 5) (aCons (eCall 3 f__law_tree [] (aCons (eVar 0) (aCons (eOp dSub (eVar 1) (eC (.int 1))) (aCons (eCB dMax2 (aCons (eC (.int 1)) (aCons (eOp dSub (eVar 2) (eC (.int 1))) aNil))) aNil)))) aNil))) [5]) aNil)) aNil)))) sNext)
    (sRet (eTup (aCons (eC (.str "map")) (aCons (eCB (one dTupP) (aCons (eLc mkF (iSeq (eCB (one (dSorted2 mkF)) (aCons (eVar 4) aNil))) (gNm 5) tYesD (eTup (aCons (eVar 5) (aCons (eCall 3 f__law_tree [] (aCons (eVar 0) (aCons (eOp dSub (eVar 1) (eC (.int 1))) (aCons (eCB dMax2 (aCons (eC (.int 1)) (aCons (eOp dSub (eVar 2) (eC (.int 1))) aNil))) aNil)))) aNil))) [5]) aNil)) aNil)))))))))
abbrev s__law_tree : Stmt := top 24
theorem sc__law_tree : FnScope ["_law_well_here", "_law_deep", "_law_most", "_law_way", "_law_names_here", "_law_name"] ["_law_well_here", "_law_deep", "_law_most"] (defScope s__law_tree) := ⟨rfl, rfl, rfl, by decide +kernel, rfl, by decide +kernel, by decide +kernel⟩
theorem ok__law_tree {P : Program} {w : World} {K : PySem.W.Frag} {mg : Str → Option Value} {base : Heap} {k : Nat} {f : Addr} {fd : FuncData} (T : Top K mg) (F : FnAt K "_law_tree" "_law_tree" s__law_tree f fd)
    {a__law_draw : Addr} {d__law_draw : FuncData} {f__law_draw : List D → GH → R D}
    (t__law_draw : Tx K mg "_law_draw" ["_law_well_here", "_law_many"] [] a__law_draw d__law_draw)
    (g__law_draw : FnD P w K mg base k a__law_draw d__law_draw ["_law_well_here", "_law_many"] f__law_draw)
    {a__law_one : Addr} {d__law_one : FuncData} {f__law_one : List D → GH → R D}
    (t__law_one : Tx K mg "_law_one" ["_law_well_here", "_law_some"] [] a__law_one d__law_one)
    (g__law_one : FnD P w K mg base k a__law_one d__law_one ["_law_well_here", "_law_some"] f__law_one)
    {a__law_names : Addr} {d__law_names : FuncData} {f__law_names : List D → GH → R D}
    (t__law_names : Tx K mg "_law_names" ["_law_well_here", "_law_most"] [] a__law_names d__law_names)
    (g__law_names : FnD P w K mg base k a__law_names d__law_names ["_law_well_here", "_law_most"] f__law_names)
    {a__law_tree : Addr} {d__law_tree : FuncData} {f__law_tree : List D → GH → R D}
    (t__law_tree : Tx K mg "_law_tree" ["_law_well_here", "_law_deep", "_law_most"] [] a__law_tree d__law_tree)
    (g__law_tree : FnD P w K mg base k a__law_tree d__law_tree ["_law_well_here", "_law_deep", "_law_most"] f__law_tree) :
    FnD P w K mg base (k + 1) f fd ["_law_well_here", "_law_deep", "_law_most"] (defF ["_law_well_here", "_law_deep", "_law_most", "_law_way", "_law_names_here", "_law_name"] (b__law_tree f__law_draw f__law_one f__law_names f__law_tree)) :=
  fnD F sc__law_tree fun cdv A outer s H E hr gd => by
    have sc := sc__law_tree
    have hu := hr.units
    have hu1 := hu_of hr
    exact
      (xs_cons (xs_set (i := 3) sc.nd rfl (by first | exact .inl rfl | exact .inr rfl) (xe_call tkB hr gd t__law_draw g__law_draw (fun _ => Reps.nil) rfl (xa_cons (xv 0) (xa_cons xe_int xa_nil))))
      (xs_cons (xs_if (xt_w (xw_or (xt_w (xw_and (xt_cmp L2.op_le o2_intB (xv 1) xe_int (by rfl)) (xw_and1 (xt_cmp L2.op_gt o2_intB (xv 3) xe_int (by rfl))))) (xw_or1 (xt_cmp (L2.op_eqD hu) o2_eq (xv 3) xe_int (by rfl))))) (xs_one (xs_ret (xe_tup (xa_cons xe_str (xa_cons (xe_call tkB hr gd t__law_one g__law_one (fun _ => Reps.nil) rfl (xa_cons (xv 0) (xa_cons (xe_lst (xa_cons xe_int (xa_cons xe_int (xa_cons (xe_neg xe_int) (xa_cons xe_str (xa_cons xe_str (xa_cons xe_str (xa_cons (xe_op L2.op_pow o2_pow xe_int xe_int) xa_nil)))))))) xa_nil))) xa_nil))))) xs_nil)
      (xs_cons (xs_if (xt_cmp L2.op_le o2_intB (xv 1) xe_int (by rfl)) (xs_one (xs_ret (xe_tup (xa_cons (xe_call tkB hr gd t__law_one g__law_one (fun _ => Reps.nil) rfl (xa_cons (xv 0) (xa_cons (xe_lst (xa_cons xe_str (xa_cons xe_str xa_nil))) xa_nil))) (xa_cons (xe_tupP xa_nil) xa_nil))))) xs_nil)
      (xs_cons (xs_set (i := 4) sc.nd rfl (by first | exact .inl rfl | exact .inr rfl) (xe_call tkB hr gd t__law_names g__law_names (fun _ => Reps.nil) rfl (xa_cons (xv 0) (xa_cons (xv 2) xa_nil))))
      (xs_cons (xs_if (xt_cmp (L2.op_eqD hu) o2_eq (xv 3) xe_int (by rfl)) (xs_one (xs_ret (xe_tup (xa_cons xe_str (xa_cons (xe_tupleP T.z_tuple (xa_cons (xe_lc (own := [("_law_name", 5)]) mkF_ok rfl sc.nd (xi_seq (xv 4)) (blkOk_by (by kernel_rfl)) (fun _ _ _ _ _ => (xg_name (i := 5) (vs := [5]) sc.nd rfl (by first | exact .inl rfl | exact .inr rfl) (by decide))) (fun _ _ _ _ _ => xts_nil) (fun _ _ _ _ _ => (xe_tup (xa_cons (xv 5) (xa_cons (xe_call takes0 hr gd t__law_tree g__law_tree (fun _ => Reps.nil) rfl (xa_cons (xv 0) (xa_cons (xe_op opr_sub o2_sub (xv 1) xe_int) (xa_cons (xe_max2 rfl T.z_max (xa_cons xe_int (xa_cons (xe_op opr_sub o2_sub (xv 2) xe_int) xa_nil))) xa_nil)))) xa_nil))))) xa_nil)) xa_nil))))) xs_nil)
      (xs_one (xs_ret (xe_tup (xa_cons xe_str (xa_cons (xe_tupleP T.z_tuple (xa_cons (xe_lc (own := [("_law_name", 5)]) mkF_ok rfl sc.nd (xi_seq (xe_sorted2 mkF_ok rfl hu T.z_sorted (xa_cons (xv 4) xa_nil))) (blkOk_by (by kernel_rfl)) (fun _ _ _ _ _ => (xg_name (i := 5) (vs := [5]) sc.nd rfl (by first | exact .inl rfl | exact .inr rfl) (by decide))) (fun _ _ _ _ _ => xts_nil) (fun _ _ _ _ _ => (xe_tup (xa_cons (xv 5) (xa_cons (xe_call takes0 hr gd t__law_tree g__law_tree (fun _ => Reps.nil) rfl (xa_cons (xv 0) (xa_cons (xe_op opr_sub o2_sub (xv 1) xe_int) (xa_cons (xe_max2 rfl T.z_max (xa_cons xe_int (xa_cons (xe_op opr_sub o2_sub (xv 2) xe_int) xa_nil))) xa_nil)))) xa_nil))))) xa_nil)) xa_nil))))))))))
/-! _law_nodes -/
noncomputable def b__law_nodes (f__law_nodes : List D → GH → R D) : FS :=
    (sSeq (sSet 2 (eLst (aCons (eTup (aCons (eVar 1) (aCons (eVar 0) aNil))) aNil)))
    (sSeq (sIf (asB (eOp dNe (eOp dIx (eVar 0) (eC (.int 0))) (eC (.str "value")))) (sFor (iSeq (eOp dIx (eVar 0) (eC (.int 1)))) (gTp 2 (gsCons (gNm 3) (gsCons (gNm 4) gsNil))) (sSet 2 (eOp (dAdd mkF) (eVar 2) (eCall 2 f__law_nodes [] (aCons (eVar 4) (aCons (eOp (dAdd mkF) (eVar 1) (eTup (aCons (eVar 3) aNil))) aNil)))))) sNext)
    (sRet (eVar 2))))
abbrev s__law_nodes : Stmt := top 26
theorem sc__law_nodes : FnScope ["_law_tree_here", "_law_path", "_law_found", "_law_name", "_law_node"] ["_law_tree_here", "_law_path"] (defScope s__law_nodes) := ⟨rfl, rfl, rfl, by decide +kernel, rfl, by decide +kernel, by decide +kernel⟩
theorem ok__law_nodes {P : Program} {w : World} {K : PySem.W.Frag} {mg : Str → Option Value} {base : Heap} {k : Nat} {f : Addr} {fd : FuncData} (T : Top K mg) (F : FnAt K "_law_nodes" "_law_nodes" s__law_nodes f fd)
    {a__law_nodes : Addr} {d__law_nodes : FuncData} {f__law_nodes : List D → GH → R D}
    (t__law_nodes : Tx K mg "_law_nodes" ["_law_tree_here", "_law_path"] [] a__law_nodes d__law_nodes)
    (g__law_nodes : FnD P w K mg base k a__law_nodes d__law_nodes ["_law_tree_here", "_law_path"] f__law_nodes) :
    FnD P w K mg base (k + 1) f fd ["_law_tree_here", "_law_path"] (defF ["_law_tree_here", "_law_path", "_law_found", "_law_name", "_law_node"] (b__law_nodes f__law_nodes)) :=
  fnD F sc__law_nodes fun cdv A outer s H E hr gd => by
    have sc := sc__law_nodes
    have hu := hr.units
    have hu1 := hu_of hr
    exact
      (xs_cons (xs_set (i := 2) sc.nd rfl (by first | exact .inl rfl | exact .inr rfl) (xe_lst (xa_cons (xe_tup (xa_cons (xv 1) (xa_cons (xv 0) xa_nil))) xa_nil)))
      (xs_cons (xs_if (xt_cmp (L2.op_neD hu) o2_ne (xe_ix hu1 (xv 0) xe_int) xe_str (by rfl)) (xs_one (xs_for (us := [3, 4]) psB rfl (xi_seq (xe_ix hu1 (xv 0) xe_int)) (xg_tup (us := [3, 4]) rfl (xgs_cons (xg_name (i := 3) (vs := [3, 4]) sc.nd rfl (by first | exact .inl rfl | exact .inr rfl) (by decide)) (xgs_cons (xg_name (i := 4) (vs := [3, 4]) sc.nd rfl (by first | exact .inl rfl | exact .inr rfl) (by decide)) xgs_nil)))
        (xs_one (xs_set (i := 2) sc.nd rfl (by first | exact .inl rfl | exact .inr rfl) (xe_op opr_add (o2_add mkF_ok) (xv 2) (xe_call tkB hr gd t__law_nodes g__law_nodes (fun _ => Reps.nil) rfl (xa_cons (xv 4) (xa_cons (xe_op opr_add (o2_add mkF_ok) (xv 1) (xe_tup (xa_cons (xv 3) xa_nil))) xa_nil)))))))) xs_nil)
      (xs_one (xs_ret (xv 2)))))
/-! _law_shuffled -/
noncomputable def b__law_shuffled (f__law_shuffled : List D → GH → R D) (f__law_draw : List D → GH → R D) : FS :=
    (sSeq (sIf (asB (eOp dEq (eOp dIx (eVar 1) (eC (.int 0))) (eC (.str "value")))) (sRet (eVar 1)) sNext)
    (sSeq (sSet 2 (eLc mkM (iSeq (eOp dIx (eVar 1) (eC (.int 1)))) (gTp 2 (gsCons (gNm 3) (gsCons (gNm 4) gsNil))) tYesD (eTup (aCons (eVar 3) (aCons (eCall 2 f__law_shuffled [] (aCons (eVar 0) (aCons (eVar 4) aNil))) aNil))) [3, 4]))
    (sSeq (sIf (asB (eOp dEq (eOp dIx (eVar 1) (eC (.int 0))) (eC (.str "list")))) (sSet 2 (eLc mkM (iRg1 (aCons (eCB (one dLen) (aCons (eVar 2) aNil)) aNil)) (gNm 5) tYesD (eMt "list" mPopAt (eVar 2) (aCons (eCall 2 f__law_draw [] (aCons (eVar 0) (aCons (eCB (one dLen) (aCons (eVar 2) aNil)) aNil))) aNil)) [5])) sNext)
    (sRet (eTup (aCons (eOp dIx (eVar 1) (eC (.int 0))) (aCons (eCB (one dTupP) (aCons (eVar 2) aNil)) aNil)))))))
abbrev s__law_shuffled : Stmt := top 27
theorem sc__law_shuffled : FnScope ["_law_well_here", "_law_tree_here", "_law_pairs", "_law_name", "_law_node", "_law_k"] ["_law_well_here", "_law_tree_here"] (defScope s__law_shuffled) := ⟨rfl, rfl, rfl, by decide +kernel, rfl, by decide +kernel, by decide +kernel⟩
theorem ok__law_shuffled {P : Program} {w : World} {K : PySem.W.Frag} {mg : Str → Option Value} {base : Heap} {k : Nat} {f : Addr} {fd : FuncData} (T : Top K mg) (F : FnAt K "_law_shuffled" "_law_shuffled" s__law_shuffled f fd)
    {a__law_shuffled : Addr} {d__law_shuffled : FuncData} {f__law_shuffled : List D → GH → R D}
    (t__law_shuffled : Tx K mg "_law_shuffled" ["_law_well_here", "_law_tree_here"] [] a__law_shuffled d__law_shuffled)
    (g__law_shuffled : FnD P w K mg base k a__law_shuffled d__law_shuffled ["_law_well_here", "_law_tree_here"] f__law_shuffled)
    {a__law_draw : Addr} {d__law_draw : FuncData} {f__law_draw : List D → GH → R D}
    (t__law_draw : Tx K mg "_law_draw" ["_law_well_here", "_law_many"] [] a__law_draw d__law_draw)
    (g__law_draw : FnD P w K mg base k a__law_draw d__law_draw ["_law_well_here", "_law_many"] f__law_draw) :
    FnD P w K mg base (k + 1) f fd ["_law_well_here", "_law_tree_here"] (defF ["_law_well_here", "_law_tree_here", "_law_pairs", "_law_name", "_law_node", "_law_k"] (b__law_shuffled f__law_shuffled f__law_draw)) :=
  fnD F sc__law_shuffled fun cdv A outer s H E hr gd => by
    have sc := sc__law_shuffled
    have hu := hr.units
    have hu1 := hu_of hr
    exact
      (xs_cons (xs_if (xt_cmp (L2.op_eqD hu) o2_eq (xe_ix hu1 (xv 1) xe_int) xe_str (by rfl)) (xs_one (xs_ret (xv 1))) xs_nil)
      (xs_cons (xs_set (i := 2) sc.nd rfl (by first | exact .inl rfl | exact .inr rfl) (xe_lc (own := [("_law_name", 3), ("_law_node", 4)]) mkM_ok rfl sc.nd (xi_seq (xe_ix hu1 (xv 1) xe_int)) (blkOk_by (by kernel_rfl)) (fun _ _ _ _ _ => (xg_tup (us := [3, 4]) rfl (xgs_cons (xg_name (i := 3) (vs := [3, 4]) sc.nd rfl (by first | exact .inl rfl | exact .inr rfl) (by decide)) (xgs_cons (xg_name (i := 4) (vs := [3, 4]) sc.nd rfl (by first | exact .inl rfl | exact .inr rfl) (by decide)) xgs_nil)))) (fun _ _ _ _ _ => xts_nil) (fun _ _ _ _ _ => (xe_tup (xa_cons (xv 3) (xa_cons (xe_call takes0 hr gd t__law_shuffled g__law_shuffled (fun _ => Reps.nil) rfl (xa_cons (xv 0) (xa_cons (xv 4) xa_nil))) xa_nil))))))
      (xs_cons (xs_if (xt_cmp (L2.op_eqD hu) o2_eq (xe_ix hu1 (xv 1) xe_int) xe_str (by rfl)) (xs_one (xs_set (i := 2) sc.nd rfl (by first | exact .inl rfl | exact .inr rfl) (xe_lc (own := [("_law_k", 5)]) mkM_ok rfl sc.nd (xi_range1 rfl T.z_range (xa_cons (xe_len T.z_len (xa_cons (xv 2) xa_nil)) xa_nil)) (blkOk_by (by kernel_rfl)) (fun _ _ _ _ _ => (xg_name (i := 5) (vs := [5]) sc.nd rfl (by first | exact .inl rfl | exact .inr rfl) (by decide))) (fun _ _ _ _ _ => xts_nil) (fun _ _ _ _ _ => (xe_popAt (xv 2) (xa_cons (xe_call takes0 hr gd t__law_draw g__law_draw (fun _ => Reps.nil) rfl (xa_cons (xv 0) (xa_cons (xe_len T.z_len (xa_cons (xv 2) xa_nil)) xa_nil))) xa_nil)))))) xs_nil)
      (xs_one (xs_ret (xe_tup (xa_cons (xe_ix hu1 (xv 1) xe_int) (xa_cons (xe_tupleP T.z_tuple (xa_cons (xv 2) xa_nil)) xa_nil))))))))
/-! _law_bare -/
noncomputable def b__law_bare (f__law_nodes : List D → GH → R D) : FS :=
    (sSeq (sSet 1 (eLstM aNil))
    (sSeq (sFor (iSeq (eCall 2 f__law_nodes [] (aCons (eVar 0) (aCons (eTup aNil) aNil)))) (gTp 2 (gsCons (gNm 2) (gsCons (gNm 3) gsNil))) (sDrop (eMt "list" mAppend (eVar 1) (aCons (eTup (aCons (eVar 2) (aCons (eOp dIx (eVar 3) (eC (.int 0))) (aCons (eIf (asB (eOp dEq (eOp dIx (eVar 3) (eC (.int 0))) (eC (.str "value")))) (eCB (one dRepr) (aCons (eOp dIx (eVar 3) (eC (.int 1))) aNil)) (eC (.str ""))) aNil)))) aNil))))
    (sRet (eCB (one (dSorted2 mkF)) (aCons (eVar 1) aNil)))))
abbrev s__law_bare : Stmt := top 28
theorem sc__law_bare : FnScope ["_law_tree_here", "_law_found", "_law_path", "_law_node"] ["_law_tree_here"] (defScope s__law_bare) := ⟨rfl, rfl, rfl, by decide +kernel, rfl, by decide +kernel, by decide +kernel⟩
theorem ok__law_bare {P : Program} {w : World} {K : PySem.W.Frag} {mg : Str → Option Value} {base : Heap} {k : Nat} {f : Addr} {fd : FuncData} (T : Top K mg) (F : FnAt K "_law_bare" "_law_bare" s__law_bare f fd)
    {a__law_nodes : Addr} {d__law_nodes : FuncData} {f__law_nodes : List D → GH → R D}
    (t__law_nodes : Tx K mg "_law_nodes" ["_law_tree_here", "_law_path"] [] a__law_nodes d__law_nodes)
    (g__law_nodes : FnD P w K mg base k a__law_nodes d__law_nodes ["_law_tree_here", "_law_path"] f__law_nodes) :
    FnD P w K mg base (k + 1) f fd ["_law_tree_here"] (defF ["_law_tree_here", "_law_found", "_law_path", "_law_node"] (b__law_bare f__law_nodes)) :=
  fnD F sc__law_bare fun cdv A outer s H E hr gd => by
    have sc := sc__law_bare
    have hu := hr.units
    have hu1 := hu_of hr
    exact
      (xs_cons (xs_set (i := 1) sc.nd rfl (by first | exact .inl rfl | exact .inr rfl) (xe_lstM xa_nil))
      (xs_cons (xs_for (us := [2, 3]) psB rfl (xi_seq (xe_call tkB hr gd t__law_nodes g__law_nodes (fun _ => Reps.nil) rfl (xa_cons (xv 0) (xa_cons (xe_tup xa_nil) xa_nil)))) (xg_tup (us := [2, 3]) rfl (xgs_cons (xg_name (i := 2) (vs := [2, 3]) sc.nd rfl (by first | exact .inl rfl | exact .inr rfl) (by decide)) (xgs_cons (xg_name (i := 3) (vs := [2, 3]) sc.nd rfl (by first | exact .inl rfl | exact .inr rfl) (by decide)) xgs_nil)))
        (xs_one (xs_expr (xe_append (xv 1) (xa_cons (xe_tup (xa_cons (xv 2) (xa_cons (xe_ix hu1 (xv 3) xe_int) (xa_cons (xe_if (xt_cmp (L2.op_eqD hu) o2_eq (xe_ix hu1 (xv 3) xe_int) xe_str (by rfl)) (xe_repr gd hu T.z_repr (xa_cons (xe_ix hu1 (xv 3) xe_int) xa_nil)) xe_str) xa_nil)))) xa_nil)))))
      (xs_one (xs_ret (xe_sorted2 mkF_ok rfl hu T.z_sorted (xa_cons (xv 1) xa_nil))))))
/-! _law_part -/
noncomputable def b__law_part  : FS :=
    (sRet (eOp dIx (eLc mkF (iSeq (eOp dIx (eVar 0) (eC (.int 1)))) (gTp 2 (gsCons (gNm 2) (gsCons (gNm 3) gsNil))) (asB (eOp dEq (eVar 2) (eVar 1))) (eVar 3) [2, 3]) (eC (.int 0))))
abbrev s__law_part : Stmt := top 29
theorem sc__law_part : FnScope ["_law_tree_here", "_law_name", "_law_one_here", "_law_node"] ["_law_tree_here", "_law_name"] (defScope s__law_part) := ⟨rfl, rfl, rfl, by decide +kernel, rfl, by decide +kernel, by decide +kernel⟩
theorem ok__law_part {P : Program} {w : World} {K : PySem.W.Frag} {mg : Str → Option Value} {base : Heap} {k : Nat} {f : Addr} {fd : FuncData} (T : Top K mg) (F : FnAt K "_law_part" "_law_part" s__law_part f fd)
     :
    FnD P w K mg base (k + 1) f fd ["_law_tree_here", "_law_name"] (defF ["_law_tree_here", "_law_name", "_law_one_here", "_law_node"] (b__law_part )) :=
  fnD F sc__law_part fun cdv A outer s H E hr gd => by
    have sc := sc__law_part
    have hu := hr.units
    have hu1 := hu_of hr
    exact
      (xs_one (xs_ret (xe_ix hu1 (xe_lc (own := [("_law_one_here", 2), ("_law_node", 3)]) mkF_ok rfl sc.nd (xi_seq (xe_ix hu1 (xv 0) xe_int)) (blkOk_by (by kernel_rfl)) (fun _ _ _ _ _ => (xg_tup (us := [2, 3]) rfl (xgs_cons (xg_name (i := 2) (vs := [2, 3]) sc.nd rfl (by first | exact .inl rfl | exact .inr rfl) (by decide)) (xgs_cons (xg_name (i := 3) (vs := [2, 3]) sc.nd rfl (by first | exact .inl rfl | exact .inr rfl) (by decide)) xgs_nil)))) (fun _ _ _ _ _ => (xts_one (xt_cmp (L2.op_eqD hu) o2_eq (xv 2) (xv 1) (by rfl)))) (fun _ _ _ _ _ => (xv 3))) xe_int)))
/-! _law_with -/
noncomputable def b__law_with (f__law_with : List D → GH → R D) : FS :=
    (sSeq (sIf (asB (eOp dEq (eVar 1) (eTup aNil))) (sRet (eTup (aCons (eC (.str "value")) (aCons (eVar 2) aNil)))) sNext)
    (sSeq (sSet 3 (eLstM aNil))
    (sSeq (sFor (iSeq (eOp dIx (eVar 0) (eC (.int 1)))) (gTp 2 (gsCons (gNm 4) (gsCons (gNm 5) gsNil))) (sDrop (eMt "list" mAppend (eVar 3) (aCons (eTup (aCons (eVar 4) (aCons (eIf (asB (eOp dEq (eVar 4) (eOp dIx (eVar 1) (eC (.int 0))))) (eCall 3 f__law_with [] (aCons (eVar 5) (aCons (eSl mkF (eVar 1) (some (eC (.int 1))) none) (aCons (eVar 2) aNil)))) (eVar 5)) aNil))) aNil))))
    (sRet (eTup (aCons (eOp dIx (eVar 0) (eC (.int 0))) (aCons (eCB (one dTupP) (aCons (eVar 3) aNil)) aNil)))))))
abbrev s__law_with : Stmt := top 30
theorem sc__law_with : FnScope ["_law_tree_here", "_law_path", "_law_value", "_law_parts", "_law_name", "_law_node"] ["_law_tree_here", "_law_path", "_law_value"] (defScope s__law_with) := ⟨rfl, rfl, rfl, by decide +kernel, rfl, by decide +kernel, by decide +kernel⟩
theorem ok__law_with {P : Program} {w : World} {K : PySem.W.Frag} {mg : Str → Option Value} {base : Heap} {k : Nat} {f : Addr} {fd : FuncData} (T : Top K mg) (F : FnAt K "_law_with" "_law_with" s__law_with f fd)
    {a__law_with : Addr} {d__law_with : FuncData} {f__law_with : List D → GH → R D}
    (t__law_with : Tx K mg "_law_with" ["_law_tree_here", "_law_path", "_law_value"] [] a__law_with d__law_with)
    (g__law_with : FnD P w K mg base k a__law_with d__law_with ["_law_tree_here", "_law_path", "_law_value"] f__law_with) :
    FnD P w K mg base (k + 1) f fd ["_law_tree_here", "_law_path", "_law_value"] (defF ["_law_tree_here", "_law_path", "_law_value", "_law_parts", "_law_name", "_law_node"] (b__law_with f__law_with)) :=
  fnD F sc__law_with fun cdv A outer s H E hr gd => by
    have sc := sc__law_with
    have hu := hr.units
    have hu1 := hu_of hr
    exact
      (xs_cons (xs_if (xt_cmp (L2.op_eqD hu) o2_eq (xv 1) (xe_tup xa_nil) (by rfl)) (xs_one (xs_ret (xe_tup (xa_cons xe_str (xa_cons (xv 2) xa_nil))))) xs_nil)
      (xs_cons (xs_set (i := 3) sc.nd rfl (by first | exact .inl rfl | exact .inr rfl) (xe_lstM xa_nil))
      (xs_cons (xs_for (us := [4, 5]) psB rfl (xi_seq (xe_ix hu1 (xv 0) xe_int)) (xg_tup (us := [4, 5]) rfl (xgs_cons (xg_name (i := 4) (vs := [4, 5]) sc.nd rfl (by first | exact .inl rfl | exact .inr rfl) (by decide)) (xgs_cons (xg_name (i := 5) (vs := [4, 5]) sc.nd rfl (by first | exact .inl rfl | exact .inr rfl) (by decide)) xgs_nil)))
        (xs_one (xs_expr (xe_append (xv 3) (xa_cons (xe_tup (xa_cons (xv 4) (xa_cons (xe_if (xt_cmp (L2.op_eqD hu) o2_eq (xv 4) (xe_ix hu1 (xv 1) xe_int) (by rfl)) (xe_call tkB hr gd t__law_with g__law_with (fun _ => Reps.nil) rfl (xa_cons (xv 5) (xa_cons (xe_sl mkF_ok (xv 1) (xO.some xe_int) xO.none) (xa_cons (xv 2) xa_nil)))) (xv 5)) xa_nil))) xa_nil)))))
      (xs_one (xs_ret (xe_tup (xa_cons (xe_ix hu1 (xv 0) xe_int) (xa_cons (xe_tupleP T.z_tuple (xa_cons (xv 3) xa_nil)) xa_nil))))))))
/-! _law_near -/
noncomputable def b__law_near (f__law_nodes : List D → GH → R D) (f__law_one : List D → GH → R D) (f__law_shuffled : List D → GH → R D) (f__law_with : List D → GH → R D) : FS :=
    (sSeq (sSet 2 (eLc mkF (iSeq (eCall 2 f__law_nodes [] (aCons (eVar 1) (aCons (eTup aNil) aNil)))) (gTp 2 (gsCons (gNm 3) (gsCons (gNm 4) gsNil))) (asB (eOp dEq (eOp dIx (eVar 4) (eC (.int 0))) (eC (.str "value")))) (eTup (aCons (eVar 3) (aCons (eOp dIx (eVar 4) (eC (.int 1))) aNil))) [3, 4]))
    (sSeq (sIf (asB (eOp dEq (eVar 2) (eLst aNil))) (sRet (eVar 1)) sNext)
    (sSeq (sAsg (eCall 2 f__law_one [] (aCons (eVar 0) (aCons (eVar 2) aNil))) (gTp 2 (gsCons (gNm 3) (gsCons (gNm 5) gsNil))))
    (sSeq (sSet 6 (eLst (aCons (eCB (one dStr) (aCons (eVar 5) aNil)) (aCons (eC (.str "")) (aCons (eC (.int 0)) (aCons (eOp (dAdd mkF) (eCB (one dStr) (aCons (eVar 5) aNil)) (eC (.str " "))) (aCons (eOp (dAdd mkF) (eC (.str " ")) (eCB (one dStr) (aCons (eVar 5) aNil))) aNil)))))))
    (sSeq (sIf (eTru (eOne (eVar 5) (dIsi "int"))) (sSet 6 (eOp (dAdd mkF) (eVar 6) (eLst (aCons (eOp dSub (eC (.int 0)) (eVar 5)) (aCons (eOp (dAdd mkF) (eVar 5) (eC (.int 1))) aNil))))) sNext)
    (sRet (eCall 2 f__law_shuffled [] (aCons (eVar 0) (aCons (eCall 3 f__law_with [] (aCons (eVar 1) (aCons (eVar 3) (aCons (eCall 2 f__law_one [] (aCons (eVar 0) (aCons (eVar 6) aNil))) aNil)))) aNil)))))))))
abbrev s__law_near : Stmt := top 31
theorem sc__law_near : FnScope ["_law_well_here", "_law_tree_here", "_law_spots", "_law_path", "_law_node", "_law_value", "_law_near_here"] ["_law_well_here", "_law_tree_here"] (defScope s__law_near) := ⟨rfl, rfl, rfl, by decide +kernel, rfl, by decide +kernel, by decide +kernel⟩
theorem ok__law_near {P : Program} {w : World} {K : PySem.W.Frag} {mg : Str → Option Value} {base : Heap} {k : Nat} {f : Addr} {fd : FuncData} (T : Top K mg) (F : FnAt K "_law_near" "_law_near" s__law_near f fd)
    {a__law_nodes : Addr} {d__law_nodes : FuncData} {f__law_nodes : List D → GH → R D}
    (t__law_nodes : Tx K mg "_law_nodes" ["_law_tree_here", "_law_path"] [] a__law_nodes d__law_nodes)
    (g__law_nodes : FnD P w K mg base k a__law_nodes d__law_nodes ["_law_tree_here", "_law_path"] f__law_nodes)
    {a__law_one : Addr} {d__law_one : FuncData} {f__law_one : List D → GH → R D}
    (t__law_one : Tx K mg "_law_one" ["_law_well_here", "_law_some"] [] a__law_one d__law_one)
    (g__law_one : FnD P w K mg base k a__law_one d__law_one ["_law_well_here", "_law_some"] f__law_one)
    {a__law_shuffled : Addr} {d__law_shuffled : FuncData} {f__law_shuffled : List D → GH → R D}
    (t__law_shuffled : Tx K mg "_law_shuffled" ["_law_well_here", "_law_tree_here"] [] a__law_shuffled d__law_shuffled)
    (g__law_shuffled : FnD P w K mg base k a__law_shuffled d__law_shuffled ["_law_well_here", "_law_tree_here"] f__law_shuffled)
    {a__law_with : Addr} {d__law_with : FuncData} {f__law_with : List D → GH → R D}
    (t__law_with : Tx K mg "_law_with" ["_law_tree_here", "_law_path", "_law_value"] [] a__law_with d__law_with)
    (g__law_with : FnD P w K mg base k a__law_with d__law_with ["_law_tree_here", "_law_path", "_law_value"] f__law_with) :
    FnD P w K mg base (k + 1) f fd ["_law_well_here", "_law_tree_here"] (defF ["_law_well_here", "_law_tree_here", "_law_spots", "_law_path", "_law_node", "_law_value", "_law_near_here"] (b__law_near f__law_nodes f__law_one f__law_shuffled f__law_with)) :=
  fnD F sc__law_near fun cdv A outer s H E hr gd => by
    have sc := sc__law_near
    have hu := hr.units
    have hu1 := hu_of hr
    exact
      (xs_cons (xs_setLc (own := [("_law_path", 3), ("_law_node", 4)]) (i := 2) mkF_ok rfl sc.nd rfl rfl (sw_true rfl rfl rfl (by decide +kernel)) (xi_seq (xe_call tkB hr gd t__law_nodes g__law_nodes (fun _ => Reps.nil) rfl (xa_cons (xv 1) (xa_cons (xe_tup xa_nil) xa_nil)))) (blkOk_by (by kernel_rfl)) (fun _ _ _ _ _ => (xg_tup (us := [3, 4]) rfl (xgs_cons (xg_name (i := 3) (vs := [3, 4]) sc.nd rfl (by first | exact .inl rfl | exact .inr rfl) (by decide)) (xgs_cons (xg_name (i := 4) (vs := [3, 4]) sc.nd rfl (by first | exact .inl rfl | exact .inr rfl) (by decide)) xgs_nil)))) (fun _ _ _ _ _ => (xts_one (xt_cmp (L2.op_eqD hu) o2_eq (xe_ix hu1 (xv 4) xe_int) xe_str (by rfl)))) (fun _ _ _ _ _ => (xe_tup (xa_cons (xv 3) (xa_cons (xe_ix hu1 (xv 4) xe_int) xa_nil)))))
      (xs_cons (xs_if (xt_cmp (L2.op_eqD hu) o2_eq (xv 2) (xe_lst xa_nil) (by rfl)) (xs_one (xs_ret (xv 1))) xs_nil)
      (xs_cons (xs_asg (xe_call tkB hr gd t__law_one g__law_one (fun _ => Reps.nil) rfl (xa_cons (xv 0) (xa_cons (xv 2) xa_nil))) (xg_tup (us := [3, 5]) rfl (xgs_cons (xg_name (i := 3) (vs := [3, 5]) sc.nd rfl (by first | exact .inl rfl | exact .inr rfl) (by decide)) (xgs_cons (xg_name (i := 5) (vs := [3, 5]) sc.nd rfl (by first | exact .inl rfl | exact .inr rfl) (by decide)) xgs_nil))))
      (xs_cons (xs_set (i := 6) sc.nd rfl (by first | exact .inl rfl | exact .inr rfl) (xe_lst (xa_cons (xe_str1 T.z_str (xa_cons (xv 5) xa_nil)) (xa_cons xe_str (xa_cons xe_int (xa_cons (xe_op opr_add (o2_add mkF_ok) (xe_str1 T.z_str (xa_cons (xv 5) xa_nil)) xe_str) (xa_cons (xe_op opr_add (o2_add mkF_ok) xe_str (xe_str1 T.z_str (xa_cons (xv 5) xa_nil))) xa_nil)))))))
      (xs_cons (xs_if (xt_tru (xe_isi (T := "int") (by decide) (by decide +kernel) T.z_isinstance T.z_int (by decide) (by decide) (xv 5))) (xs_one (xs_set (i := 6) sc.nd rfl (by first | exact .inl rfl | exact .inr rfl) (xe_op opr_add (o2_add mkF_ok) (xv 6) (xe_lst (xa_cons (xe_op opr_sub o2_sub xe_int (xv 5)) (xa_cons (xe_op opr_add (o2_add mkF_ok) (xv 5) xe_int) xa_nil)))))) xs_nil)
      (xs_one (xs_ret (xe_call tkB hr gd t__law_shuffled g__law_shuffled (fun _ => Reps.nil) rfl (xa_cons (xv 0) (xa_cons (xe_call tkB hr gd t__law_with g__law_with (fun _ => Reps.nil) rfl (xa_cons (xv 1) (xa_cons (xv 3) (xa_cons (xe_call tkB hr gd t__law_one g__law_one (fun _ => Reps.nil) rfl (xa_cons (xv 0) (xa_cons (xv 6) xa_nil))) xa_nil)))) xa_nil))))))))))
/-! law -/
noncomputable def b_law (f__law_cell_at : List D → GH → R D) (f__law_well : List D → GH → R D) (f__law_tree : List D → GH → R D) (f__law_shuffled : List D → GH → R D) (f__law_part : List D → GH → R D) (f__law_near : List D → GH → R D) (f__law_bare : List D → GH → R D) (f_same_but_orders : List D → GH → R D) : FS :=
    (sSeq (sFor (iSeq (eOp (dAdd mkF) (eLst (aCons (eCall 2 f__law_cell_at [] (aCons (eVar 0) (aCons (eC (.int 0)) aNil))) aNil)) (eSl mkF (eVar 0) (some (eC (.int 1))) (some (eC (.int 6)))))) (gNm 1) (sSeq (sSet 2 (eCall 1 f__law_well [] (aCons (eVar 1) aNil)))
    (sSeq (sSet 3 (eCall 3 f__law_tree [] (aCons (eVar 2) (aCons (eC (.int 4)) (aCons (eC (.int 3)) aNil)))))
    (sSeq (sSet 4 (eLstM (aCons (eCall 2 f__law_shuffled [] (aCons (eVar 2) (aCons (eVar 3) aNil))) (aCons (eCall 3 f__law_tree [] (aCons (eVar 2) (aCons (eC (.int 4)) (aCons (eC (.int 3)) aNil)))) (aCons (eCall 3 f__law_tree [] (aCons (eVar 2) (aCons (eC (.int 2)) (aCons (eC (.int 3)) aNil)))) aNil)))))
    (sSeq (sIf (asB (eOp dNe (eOp dIx (eVar 3) (eC (.int 0))) (eC (.str "value")))) (sSeq (sDrop (eMt "list" mAppend (eVar 4) (aCons (eTup (aCons (eOp dIx (eVar 3) (eC (.int 0))) (aCons (eOp (dAdd mkF) (eOp dIx (eVar 3) (eC (.int 1))) (eTupP (aCons (eTup (aCons (eC (.str "zz")) (aCons (eTup (aCons (eC (.str "value")) (aCons (eC (.int 1)) aNil))) aNil))) aNil))) aNil))) aNil)))
    (sSeq (sDrop (eMt "list" mAppend (eVar 4) (aCons (eTup (aCons (eOp dIx (eVar 3) (eC (.int 0))) (aCons (eSl mkF (eOp dIx (eVar 3) (eC (.int 1))) none (some (eUn dNeg (eC (.int 1))))) aNil))) aNil)))
    (sSeq (sSet 5 (eCB (one (dSorted2 mkF)) (aCons (eLc mkF (iSeq (eOp dIx (eVar 3) (eC (.int 1)))) (gTp 2 (gsCons (gNm 6) (gsCons (gNm 7) gsNil))) tYesD (eVar 6) [6, 7]) aNil)))
    (sSeq (sSet 8 (eCB (one dTupP) (aCons (eLc mkF (iSeq (eVar 5)) (gNm 6) tYesD (eTup (aCons (eVar 6) (aCons (eCall 2 f__law_part [] (aCons (eVar 3) (aCons (eVar 6) aNil))) aNil))) [6]) aNil)))
    (sDrop (eMt "list" mAppend (eVar 4) (aCons (eTup (aCons (eOp dIx (eLst (aCons (eC (.str "map")) (aCons (eC (.str "list")) aNil))) (eCB (one dInt) (aCons (eOp dEq (eOp dIx (eVar 3) (eC (.int 0))) (eC (.str "map"))) aNil))) (aCons (eVar 8) aNil))) aNil))))))) sNext)
    (sFor (iSeq (eOp (dAdd mkF) (eVar 4) (eLst (aCons (eCall 2 f__law_near [] (aCons (eVar 2) (aCons (eVar 3) aNil))) (aCons (eCall 2 f__law_near [] (aCons (eVar 2) (aCons (eVar 3) aNil))) aNil))))) (gNm 9) (sSeq (sSet 10 (eOp dEq (eCall 1 f__law_bare [] (aCons (eVar 3) aNil)) (eCall 1 f__law_bare [] (aCons (eVar 9) aNil))))
    (sIf (asB (eOp dNe (eLst (aCons (eCall 2 f_same_but_orders [] (aCons (eVar 3) (aCons (eVar 9) aNil))) (aCons (eCall 2 f_same_but_orders [] (aCons (eVar 9) (aCons (eVar 3) aNil))) aNil))) (eLst (aCons (eVar 10) (aCons (eVar 10) aNil))))) (sRet (eC (.bl false))) sNext))))))))
    (sRet (eC (.bl true))))
abbrev s_law : Stmt := top 32
theorem sc_law : FnScope ["_law_script", "_law_cell", "_law_well_here", "_law_tree_here", "_law_others", "_law_names_here", "_law_name", "_law_node", "_law_turned", "_law_other", "_law_due"] ["_law_script"] (defScope s_law) := ⟨rfl, rfl, rfl, by decide +kernel, rfl, by decide +kernel, by decide +kernel⟩
theorem ok_law {P : Program} {w : World} {K : PySem.W.Frag} {mg : Str → Option Value} {base : Heap} {k : Nat} {f : Addr} {fd : FuncData} (T : Top K mg) (F : FnAt K "law" "law" s_law f fd)
    {a__law_cell_at : Addr} {d__law_cell_at : FuncData} {f__law_cell_at : List D → GH → R D}
    (t__law_cell_at : Tx K mg "_law_cell_at" ["_law_script", "_law_k"] [] a__law_cell_at d__law_cell_at)
    (g__law_cell_at : FnD P w K mg base k a__law_cell_at d__law_cell_at ["_law_script", "_law_k"] f__law_cell_at)
    {a__law_well : Addr} {d__law_well : FuncData} {f__law_well : List D → GH → R D}
    (t__law_well : Tx K mg "_law_well" ["_law_cell"] [] a__law_well d__law_well)
    (g__law_well : FnD P w K mg base k a__law_well d__law_well ["_law_cell"] f__law_well)
    {a__law_tree : Addr} {d__law_tree : FuncData} {f__law_tree : List D → GH → R D}
    (t__law_tree : Tx K mg "_law_tree" ["_law_well_here", "_law_deep", "_law_most"] [] a__law_tree d__law_tree)
    (g__law_tree : FnD P w K mg base k a__law_tree d__law_tree ["_law_well_here", "_law_deep", "_law_most"] f__law_tree)
    {a__law_shuffled : Addr} {d__law_shuffled : FuncData} {f__law_shuffled : List D → GH → R D}
    (t__law_shuffled : Tx K mg "_law_shuffled" ["_law_well_here", "_law_tree_here"] [] a__law_shuffled d__law_shuffled)
    (g__law_shuffled : FnD P w K mg base k a__law_shuffled d__law_shuffled ["_law_well_here", "_law_tree_here"] f__law_shuffled)
    {a__law_part : Addr} {d__law_part : FuncData} {f__law_part : List D → GH → R D}
    (t__law_part : Tx K mg "_law_part" ["_law_tree_here", "_law_name"] [] a__law_part d__law_part)
    (g__law_part : FnD P w K mg base k a__law_part d__law_part ["_law_tree_here", "_law_name"] f__law_part)
    {a__law_near : Addr} {d__law_near : FuncData} {f__law_near : List D → GH → R D}
    (t__law_near : Tx K mg "_law_near" ["_law_well_here", "_law_tree_here"] [] a__law_near d__law_near)
    (g__law_near : FnD P w K mg base k a__law_near d__law_near ["_law_well_here", "_law_tree_here"] f__law_near)
    {a__law_bare : Addr} {d__law_bare : FuncData} {f__law_bare : List D → GH → R D}
    (t__law_bare : Tx K mg "_law_bare" ["_law_tree_here"] [] a__law_bare d__law_bare)
    (g__law_bare : FnD P w K mg base k a__law_bare d__law_bare ["_law_tree_here"] f__law_bare)
    {a_same_but_orders : Addr} {d_same_but_orders : FuncData} {f_same_but_orders : List D → GH → R D}
    (t_same_but_orders : Tx K mg "same_but_orders" ["one", "other"] [] a_same_but_orders d_same_but_orders)
    (g_same_but_orders : FnD P w K mg base k a_same_but_orders d_same_but_orders ["one", "other"] f_same_but_orders) :
    FnD P w K mg base (k + 1) f fd ["_law_script"] (defF ["_law_script", "_law_cell", "_law_well_here", "_law_tree_here", "_law_others", "_law_names_here", "_law_name", "_law_node", "_law_turned", "_law_other", "_law_due"] (b_law f__law_cell_at f__law_well f__law_tree f__law_shuffled f__law_part f__law_near f__law_bare f_same_but_orders)) :=
  fnD F sc_law fun cdv A outer s H E hr gd => by
    have sc := sc_law
    have hu := hr.units
    have hu1 := hu_of hr
    exact
      (xs_cons (xs_for (us := [1]) psB rfl (xi_seq (xe_op opr_add (o2_add mkF_ok) (xe_lst (xa_cons (xe_call tkB hr gd t__law_cell_at g__law_cell_at (fun _ => Reps.nil) rfl (xa_cons (xv 0) (xa_cons xe_int xa_nil))) xa_nil)) (xe_sl mkF_ok (xv 0) (xO.some xe_int) (xO.some xe_int)))) (xg_name (i := 1) (vs := [1]) sc.nd rfl (by first | exact .inl rfl | exact .inr rfl) (by decide))
        (xs_cons (xs_set (i := 2) sc.nd rfl (by first | exact .inl rfl | exact .inr rfl) (xe_call tkB hr gd t__law_well g__law_well (fun _ => Reps.nil) rfl (xa_cons (xv 1) xa_nil)))
      (xs_cons (xs_set (i := 3) sc.nd rfl (by first | exact .inl rfl | exact .inr rfl) (xe_call tkB hr gd t__law_tree g__law_tree (fun _ => Reps.nil) rfl (xa_cons (xv 2) (xa_cons xe_int (xa_cons xe_int xa_nil)))))
      (xs_cons (xs_set (i := 4) sc.nd rfl (by first | exact .inl rfl | exact .inr rfl) (xe_lstM (xa_cons (xe_call tkB hr gd t__law_shuffled g__law_shuffled (fun _ => Reps.nil) rfl (xa_cons (xv 2) (xa_cons (xv 3) xa_nil))) (xa_cons (xe_call tkB hr gd t__law_tree g__law_tree (fun _ => Reps.nil) rfl (xa_cons (xv 2) (xa_cons xe_int (xa_cons xe_int xa_nil)))) (xa_cons (xe_call tkB hr gd t__law_tree g__law_tree (fun _ => Reps.nil) rfl (xa_cons (xv 2) (xa_cons xe_int (xa_cons xe_int xa_nil)))) xa_nil)))))
      (xs_cons (xs_if (xt_cmp (L2.op_neD hu) o2_ne (xe_ix hu1 (xv 3) xe_int) xe_str (by rfl)) (xs_cons (xs_expr (xe_append (xv 4) (xa_cons (xe_tup (xa_cons (xe_ix hu1 (xv 3) xe_int) (xa_cons (xe_op opr_add (o2_add mkF_ok) (xe_ix hu1 (xv 3) xe_int) (xe_tupP (xa_cons (xe_tup (xa_cons xe_str (xa_cons (xe_tup (xa_cons xe_str (xa_cons xe_int xa_nil))) xa_nil))) xa_nil))) xa_nil))) xa_nil)))
      (xs_cons (xs_expr (xe_append (xv 4) (xa_cons (xe_tup (xa_cons (xe_ix hu1 (xv 3) xe_int) (xa_cons (xe_sl mkF_ok (xe_ix hu1 (xv 3) xe_int) xO.none (xO.some (xe_neg xe_int))) xa_nil))) xa_nil)))
      (xs_cons (xs_set (i := 5) sc.nd rfl (by first | exact .inl rfl | exact .inr rfl) (xe_sorted2 mkF_ok rfl hu T.z_sorted (xa_cons (xe_lc (own := [("_law_name", 6), ("_law_node", 7)]) mkF_ok rfl sc.nd (xi_seq (xe_ix hu1 (xv 3) xe_int)) (blkOk_by (by kernel_rfl)) (fun _ _ _ _ _ => (xg_tup (us := [6, 7]) rfl (xgs_cons (xg_name (i := 6) (vs := [6, 7]) sc.nd rfl (by first | exact .inl rfl | exact .inr rfl) (by decide)) (xgs_cons (xg_name (i := 7) (vs := [6, 7]) sc.nd rfl (by first | exact .inl rfl | exact .inr rfl) (by decide)) xgs_nil)))) (fun _ _ _ _ _ => xts_nil) (fun _ _ _ _ _ => (xv 6))) xa_nil)))
      (xs_cons (xs_set (i := 8) sc.nd rfl (by first | exact .inl rfl | exact .inr rfl) (xe_tupleP T.z_tuple (xa_cons (xe_lc (own := [("_law_name", 6)]) mkF_ok rfl sc.nd (xi_seq (xv 5)) (blkOk_by (by kernel_rfl)) (fun _ _ _ _ _ => (xg_name (i := 6) (vs := [6]) sc.nd rfl (by first | exact .inl rfl | exact .inr rfl) (by decide))) (fun _ _ _ _ _ => xts_nil) (fun _ _ _ _ _ => (xe_tup (xa_cons (xv 6) (xa_cons (xe_call takes0 hr gd t__law_part g__law_part (fun _ => Reps.nil) rfl (xa_cons (xv 3) (xa_cons (xv 6) xa_nil))) xa_nil))))) xa_nil)))
      (xs_one (xs_expr (xe_append (xv 4) (xa_cons (xe_tup (xa_cons (xe_ix hu1 (xe_lst (xa_cons xe_str (xa_cons xe_str xa_nil))) (xe_int1 T.z_int (xa_cons (xe_cmp (L2.op_eqD hu) o2_eq (xe_ix hu1 (xv 3) xe_int) xe_str (by rfl)) xa_nil))) (xa_cons (xv 8) xa_nil))) xa_nil)))))))) xs_nil)
      (xs_one (xs_for (us := [9]) psB rfl (xi_seq (xe_op opr_add (o2_add mkF_ok) (xv 4) (xe_lst (xa_cons (xe_call tkB hr gd t__law_near g__law_near (fun _ => Reps.nil) rfl (xa_cons (xv 2) (xa_cons (xv 3) xa_nil))) (xa_cons (xe_call tkB hr gd t__law_near g__law_near (fun _ => Reps.nil) rfl (xa_cons (xv 2) (xa_cons (xv 3) xa_nil))) xa_nil))))) (xg_name (i := 9) (vs := [9]) sc.nd rfl (by first | exact .inl rfl | exact .inr rfl) (by decide))
        (xs_cons (xs_set (i := 10) sc.nd rfl (by first | exact .inl rfl | exact .inr rfl) (xe_cmp (L2.op_eqD hu) o2_eq (xe_call tkB hr gd t__law_bare g__law_bare (fun _ => Reps.nil) rfl (xa_cons (xv 3) xa_nil)) (xe_call tkB hr gd t__law_bare g__law_bare (fun _ => Reps.nil) rfl (xa_cons (xv 9) xa_nil)) (by rfl)))
      (xs_one (xs_if (xt_cmp (L2.op_neD hu) o2_ne (xe_lst (xa_cons (xe_call tkB hr gd t_same_but_orders g_same_but_orders (fun _ => Reps.nil) rfl (xa_cons (xv 3) (xa_cons (xv 9) xa_nil))) (xa_cons (xe_call tkB hr gd t_same_but_orders g_same_but_orders (fun _ => Reps.nil) rfl (xa_cons (xv 9) (xa_cons (xv 3) xa_nil))) xa_nil))) (xe_lst (xa_cons (xv 10) (xa_cons (xv 10) xa_nil))) (by rfl)) (xs_one (xs_ret xe_bl)) xs_nil))))))))))
      (xs_one (xs_ret xe_bl)))
end K03
end CF
end
section
set_option maxRecDepth 100000
set_option maxHeartbeats 4000000
namespace CF
namespace K03
open PySem PySem.Spec PyProof.Rows L2
/-! ### the well -/
structure Well where
  a : Int
  b : Int
  c : Int
def Well.cell (w : Well) : Cell := .lst [.int w.a, .int w.b, .int w.c]
noncomputable def F_draw : List D → GH → R D := defF ["_law_well_here", "_law_many", "_law_found", "_law_salt", "_law_base", "_law_number"] b__law_draw
theorem lt_of_get {G : GH} {n : Nat} {c : Cell} (h : G[n]? = some c) : n < G.length := (List.getElem?_eq_some_iff.mp h).1
def DrawOk (f : List D → GH → R D) : Prop := ∀ (w : Well) (m : Int) (n : Nat) (G : GH), G[n]? = some w.cell → 0 < m → m < 18446744073709551616 → 0 ≤ w.c → w.c < 1000000000 →
    ∃ (r : Int) (w' : Well), f [.ref n, .int m] G = .ok (.int r) (G.set n w'.cell) ∧ 0 ≤ r ∧ r < m ∧ w.c ≤ w'.c ∧ w'.c ≤ w.c + 1
theorem m_draw : DrawOk F_draw := by
  intro w m n G h hm hm2 h0 hc
  obtain ⟨a, b, c⟩ := w
  have h' : G[n]? = some (.lst [.int a, .int b, .int c]) := h
  have lt := lt_of_get h
  by_cases ha : 0 < a
  · refine ⟨a % m, ⟨a / m, b, c⟩, ?_, Int.emod_nonneg _ (by omega), Int.emod_lt_of_pos _ hm, Int.le_refl _, by show c ≤ c + 1; omega⟩
    simp [F_draw, defF_ap, startD, b__law_draw, ap_setI, dIx_ref _ _ _ h', h', ixN, ha, hm, hm2, Well.cell]
  · have h2 : (G.set n (.lst [.int a, .int b, .int (c + 1)]))[n]? = some (.lst [.int a, .int b, .int (c + 1)]) := by simp [lt]
    obtain ⟨base, eb⟩ : ∃ x, x = b % 2147483629 + 7919 * (c + 1) + b / 2147483629 % 65521 + 1 := ⟨_, rfl⟩
    obtain ⟨n1, e1⟩ : ∃ x, x = base ^ 5 % 2147483647 := ⟨_, rfl⟩
    obtain ⟨n2, e2⟩ : ∃ x, x = n1 * (n1 / 1009 + 69621 + (c + 1)) % 2147483629 := ⟨_, rfl⟩
    have hc' : c < 1000000000 := hc
    have h0' : 0 ≤ c := h0
    have hb : base.natAbs < 18446744073709551616 := by
      have a1 := Int.emod_nonneg b (show (2147483629 : Int) ≠ 0 by omega)
      have a2 := Int.emod_lt_of_pos b (show (0 : Int) < 2147483629 by omega)
      have a3 := Int.emod_nonneg (b / 2147483629) (show (65521 : Int) ≠ 0 by omega)
      have a4 := Int.emod_lt_of_pos (b / 2147483629) (show (0 : Int) < 65521 by omega)
      omega
    have b1 := Int.emod_nonneg (base ^ 5) (show (2147483647 : Int) ≠ 0 by omega)
    have b2 := Int.emod_lt_of_pos (base ^ 5) (show (0 : Int) < 2147483647 by omega)
    have b3 := Int.emod_nonneg (n1 * (n1 / 1009 + 69621 + (c + 1))) (show (2147483629 : Int) ≠ 0 by omega)
    have b4 := Int.emod_lt_of_pos (n1 * (n1 / 1009 + 69621 + (c + 1))) (show (0 : Int) < 2147483629 by omega)
    rw [← e1] at b1 b2
    rw [← e2] at b3 b4
    have c0 : (-18446744073709551616 < c + 1 ∧ c + 1 < 18446744073709551616) := by omega
    have c1 : (-18446744073709551616 < n1 ∧ n1 < 18446744073709551616) := by omega
    have c2 : (-18446744073709551616 < n2 ∧ n2 < 18446744073709551616) := by omega
    refine ⟨n2 * (n2 / 2003 + 40692) % 2147483399 % m, ⟨a, b, c + 1⟩, ?_, Int.emod_nonneg _ (by omega), Int.emod_lt_of_pos _ hm, by show c ≤ c + 1; omega, Int.le_refl _⟩
    simp [F_draw, defF_ap, startD, b__law_draw, ap_setI, dIx_ref _ _ _ h', h', dIx_ref _ _ _ h2, h2, ixN, ha, hm, hm2, Well.cell, ← eb, hb, ← e1, c1, ← e2, c2]

/-- a step that draws: what comes back, the well behind it -/
def Stp (G : GH) (n : Nat) (w : Well) (r : R D) (cost : Int) (P : D → Prop) : Prop := ∃ (d : D) (w' : Well), r = .ok d (G.set n w'.cell) ∧ w.c ≤ w'.c ∧ w'.c ≤ w.c + cost ∧ P d
noncomputable def F_one (f : List D → GH → R D) : List D → GH → R D := defF ["_law_well_here", "_law_some"] (b__law_one f)
def OneOk (f : List D → GH → R D) : Prop := ∀ (w : Well) (xs : List D) (n : Nat) (G : GH), G[n]? = some w.cell → 0 < xs.length → xs.length < 1000000 → 0 ≤ w.c → w.c < 1000000000 → Stp G n w (f [.ref n, .lst xs] G) 1 fun d => d ∈ xs
theorem m_one {f : List D → GH → R D} (hf : DrawOk f) : OneOk (F_one f) := by
  intro w xs n G h h1 h2 h0 hc
  obtain ⟨r, w', e, r0, r1, c0, c1⟩ := hf w xs.length n G h (by omega) (by omega) h0 hc
  have hj : r.toNat < xs.length := by omega
  have er : r = ((r.toNat : Nat) : Int) := by omega
  have ea : atI xs r = some xs[r.toNat] := (congrArg (atI xs) er).trans (by rw [atI_nat2]; simp [hj])
  refine ⟨xs[r.toNat], w', ?_, c0, c1, List.getElem_mem hj⟩
  simp [F_one, defF_ap, startD, b__law_one, e, ea]
noncomputable def F_names0 (f : List D → GH → R D) : List D → GH → R D := defF ["_law_well_here", "_law_most", "_law_left", "_law_k"] (b__law_names f)
theorem names_loop {f : List D → GH → R D} (hf : DrawOk f) (δ : DEnv) (hδ : δ.length = 4) (n : Nat) (G : GH) (lt : n < G.length) (d0 : δ[0]? = some (some (.ref n))) (d2 : δ[2]? = some (some (.ref G.length))) : ∀ (items : List D) (left : List Str) (w : Well) (acc : List D), items.length ≤ left.length → left.length < 100 → acc.length + items.length < 100 → 0 ≤ w.c → w.c + items.length < 1000000000 →
    ∃ (picked left' : List Str) (w' : Well), lcL (fun _ => true) (gNm 3) tYesD (eMt "list" mPopAt (eVar 2) (aCons (eCall 2 f [] (aCons (eVar 0) (aCons (eCB (one dLen) (aCons (eVar 2) aNil)) aNil))) aNil)) δ items acc (G.set n w.cell ++ [.lst (left.map D.str)]) =
      .ok (acc ++ picked.map D.str) (G.set n w'.cell ++ [.lst (left'.map D.str)]) ∧ (picked ++ left').Perm left ∧ picked.length = items.length ∧ w.c ≤ w'.c ∧ w'.c ≤ w.c + items.length
  | [], left, w, acc, _, _, _, _, _ => ⟨[], left, w, by simp [lcL], by simp, rfl, Int.le_refl _, by simp⟩
  | x :: items, left, w, acc, h1, h2, h3, h4, h5 => by
    have l1 : 0 < left.length := by simp at h1; omega
    have lg : (G.set n w.cell).length = G.length := by simp
    have g1 : (G.set n w.cell ++ [Cell.lst (left.map D.str)])[n]? = some w.cell := by rw [snoc_get (by rw [lg]; exact lt)]; simp [lt]
    have g2 : ∀ w : Well, (G.set n w.cell ++ [Cell.lst (left.map D.str)])[G.length]? = some (.lst (left.map D.str)) := fun w => by
      have := snoc_last (G.set n w.cell) (Cell.lst (left.map D.str))
      rwa [show (G.set n w.cell).length = G.length by simp] at this
    simp only [List.length_cons] at h1 h3 h5
    obtain ⟨r, w', e, r0, r1, c0, c1⟩ := hf w left.length n _ g1 (by omega) (by omega) h4 (by omega)
    rw [snoc_set (by rw [lg]; exact lt), List.set_set] at e
    have hj : r.toNat < left.length := by omega
    have er : r = ((r.toNat : Nat) : Int) := by omega
    have sl := snoc_setl (G.set n w'.cell) (Cell.lst (left.map D.str)) (Cell.lst ((left.eraseIdx r.toNat).map D.str))
    rw [show (G.set n w'.cell).length = G.length by simp] at sl
    have pp := mPopAt_ap (G := G.set n w'.cell ++ [Cell.lst (left.map D.str)]) (n := G.length) (xs := left.map D.str) (j := r.toNat) (r := r) (g2 w') er (by simpa using hj) (by simp; omega)
    rw [show (left.map D.str).eraseIdx r.toNat = (left.eraseIdx r.toNat).map D.str from erase_map _ _ _, sl] at pp
    obtain ⟨picked, left', w2, e2, p2, q2, c2, c3⟩ := names_loop hf δ hδ n G lt d0 d2 items (left.eraseIdx r.toNat) w' (acc ++ [.str left[r.toNat]]) (by rw [List.length_eraseIdx_of_lt hj]; omega) (by rw [List.length_eraseIdx_of_lt hj]; omega) (by simp; omega) (by omega) (by omega)
    have perm : (left[r.toNat] :: left.eraseIdx r.toNat).Perm left := erase_perm left _ hj
    refine ⟨left[r.toNat] :: picked, left', w2, ?_, (List.Perm.cons _ p2).trans perm, by simp [q2], by omega, by simp; omega⟩
    have d0' : (δ.set 3 (some x))[0]? = some (some (D.ref n)) := by rw [List.getElem?_set_ne (by decide)]; exact d0
    have d2' : (δ.set 3 (some x))[2]? = some (some (D.ref G.length)) := by rw [List.getElem?_set_ne (by decide)]; exact d2
    have szl : acc.length < sizeLine := Nat.lt_of_lt_of_le (by omega : acc.length < 100) (by decide)
    unfold lcL
    simp [d0', d2', tyM_list (g2 w), dLen_ref _ _ (g2 w), e, pp, szl, e2]

def five : List Str := ["a", "aa", "ab", "b", "ba"]
theorem well_closed (w : Well) (n : Nat) : closedC n w.cell := pures0_cons (pure0_int _) (pures0_cons (pure0_int _) (pures0_cons (pure0_int _) pures0_nil)) _
theorem fz_well {G J : GH} {n : Nat} {w : Well} {d d' : D} (lt : n < G.length) (e : fzD (G.set n w.cell ++ J) G.length d = some d') : fzR G (.ok d (G.set n w.cell ++ J)) = .ok d' (G.set n w.cell) :=
  fzR_ok2 (by simp) (fun k c hk ek => by
    by_cases hn : n = k
    · subst hn
      rw [List.getElem?_set_self lt] at ek
      cases ek
      exact .inr (well_closed w _)
    · rw [List.getElem?_set_ne hn] at ek
      exact .inl ek) e
noncomputable def F_names (f : List D → GH → R D) : List D → GH → R D := fun ds G => fzR G (F_names0 f ds G)
def NamesOk (f : List D → GH → R D) : Prop := ∀ (w : Well) (most : Nat) (n : Nat) (G : GH), G[n]? = some w.cell → most ≤ 5 → 0 ≤ w.c → w.c < 100000000 →
    ∃ (picked : List Str) (w' : Well), f [.ref n, .int most] G = .ok (.lst (picked.map D.str)) (G.set n w'.cell) ∧ picked.Nodup ∧ (∀ x ∈ picked, x ∈ five) ∧ picked.length ≤ most ∧ w.c ≤ w'.c ∧ w'.c ≤ w.c + 1 + most
theorem draw_rng {f : List D → GH → R D} {G1 G2 : GH} {n most k : Nat} {x : Option D} (e : f [.ref n, .int ((most : Int) + 1)] G1 = .ok (.int k) G2) (k1 : ∀ G, rng1K [.int k] G = .ok (rngIts 0 k) G) :
    iRg1 (aCons (eCall 2 f [] (aCons (eVar 0) (aCons (eOp (dAdd mkF) (eVar 1) (eC (.int 1))) aNil))) aNil) [some (.ref n), some (.int most), x, none] G1 = .ok (rngIts 0 k) G2 := by
  rw [ap_iRg1]
  have t : aCons (eCall 2 f [] (aCons (eVar 0) (aCons (eOp (dAdd mkF) (eVar 1) (eC (.int 1))) aNil))) aNil [some (.ref n), some (.int most), x, none] G1 = .ok [.int k] G2 := by simp [e]
  rw [t, R.bind_ok, k1]
theorem m_names {f : List D → GH → R D} (hf : DrawOk f) : NamesOk (F_names f) := by
  intro w most n G h h1 h0 hc
  have lt := lt_of_get h
  have g1 : (G ++ [Cell.lst (five.map D.str)])[n]? = some w.cell := by rw [snoc_get lt]; exact h
  obtain ⟨r, w1, e, r0, r1, c0, c1⟩ := hf w (most + 1) n _ g1 (by omega) (by omega) h0 (by omega)
  rw [snoc_set lt] at e
  obtain ⟨k, rfl⟩ : ∃ k : Nat, r = k := ⟨r.toNat, by omega⟩
  obtain ⟨picked, left', w2, e2, p, q, c2, c3⟩ := names_loop hf ([some (.ref n), some (.int most), some (.ref G.length), none]) rfl n G lt rfl rfl ((List.range k).map fun i => .int (0 + (i : Nat))) five w1 [] (by simp [five]; omega) (by decide) (by simp; omega) (by omega) (by simp; omega)
  have fl : five.map D.str = [D.str "a", D.str "aa", D.str "ab", D.str "b", D.str "ba"] := rfl
  have hz : (5 : Nat) ≤ sizeLine := by decide
  have k1 : ∀ G, rng1K [.int k] G = .ok (rngIts 0 k) G := fun G => rng1K_nat (by omega)
  simp only [Int.zero_add, List.nil_append] at e2
  rw [fl] at e e2
  have run : F_names0 f [.ref n, .int most] G = .ok (.lst (picked.map D.str)) (G.set n w2.cell ++ [.lst (left'.map D.str)]) := by
    unfold F_names0 b__law_names
    rw [defF_ap]
    have st : startD ["_law_well_here", "_law_most", "_law_left", "_law_k"] [D.ref n, D.int most] = [some (.ref n), some (.int most), none, none] := rfl
    rw [st, ap_sSeq]
    have s1 : sSet 2 (eLstM (aCons (eC (.str "a")) (aCons (eC (.str "aa")) (aCons (eC (.str "ab")) (aCons (eC (.str "b")) (aCons (eC (.str "ba")) aNil)))))) [some (.ref n), some (.int most), none, none] G = .nx [some (.ref n), some (.int most), some (.ref G.length), none] (G ++ [Cell.lst [D.str "a", D.str "aa", D.str "ab", D.str "b", D.str "ba"]]) := by
      simp [hz]
    rw [s1, RS.seq_nx, ap_sRet, ap_eLc, draw_rng e k1, R.bind_ok, rngIts_chk, if_pos rfl, rngIts_items]
    simp only [wipeD_cons, wipeD_nil, Int.zero_add]
    have s3 : List.set [some (D.ref n), some (.int most), some (.ref G.length), none] 3 none = [some (.ref n), some (.int most), some (.ref G.length), none] := rfl
    rw [s3, e2, R.bind_ok, ap_mkF, R.thn_ok]
  have ff : F_names f [.ref n, .int most] G = .ok (.lst (picked.map D.str)) (G.set n w2.cell) := by
    unfold F_names
    rw [run]
    exact fz_well lt (pure0_lst (pures0_map pure0_str _) _)
  have pl : picked.length = k := by simpa using q
  have nd : (picked ++ left').Nodup := p.nodup_iff.mpr (by decide)
  refine ⟨picked, w2, ff, (List.nodup_append.mp nd).1, fun x hx => p.mem_iff.mp (List.mem_append_left _ hx), by omega, by omega, ?_⟩
  simp only [List.length_map, List.length_range] at c3
  omega
end K03
end CF
end
section
set_option maxRecDepth 100000
set_option maxHeartbeats 4000000
namespace CF
namespace K03
open PySem PySem.Spec PyProof.Rows L2
def szB : Nat → Nat
  | 0 => 0
  | d + 1 => 3 * (1 + szB d)
def coB : Nat → Nat
  | 0 => 6
  | d + 1 => 6 + 3 * coB d
/-- leaves are small -/
def smT : Nat → Tr → Prop
  | 0, _ => False
  | _ + 1, .val i => -(10 ^ 20) ≤ i ∧ i ≤ 10 ^ 20
  | _ + 1, .txt x => x.length ≤ 30
  | r + 1, .node _ ps => ∀ p ∈ ps, smT r p.2
/-- draws a tree that is at most deep deep -/
def TreeOk (f : List D → GH → R D) (deep : Nat) : Prop := ∀ (w : Well) (most : Nat) (n : Nat) (G : GH), G[n]? = some w.cell → most ≤ 3 → 0 ≤ w.c → w.c + coB deep < 100000000 →
  ∃ (t : Tr) (w' : Well), f [.ref n, .int deep, .int most] G = .ok (encT t) (G.set n w'.cell) ∧ (okT five deep t ∧ smT deep t) ∧ szT t ≤ szB deep ∧ w.c ≤ w'.c ∧ w'.c ≤ w.c + coB deep
theorem tree_loop {f : List D → GH → R D} {deep most m' : Nat} (hf : TreeOk f deep) (hm : m' ≤ 3) (n : Nat) (G : GH) (lt : n < G.length) (x y : Option D) (hmm : (max (1 : Int) ((most : Int) - 1)) = (m' : Int)) :
    ∀ (names : List Str) (w : Well) (acc : List D), acc.length + names.length < 100 → 0 ≤ w.c → w.c + names.length * coB deep < 100000000 →
    ∃ (ps : List (Str × Tr)) (w' : Well), lcL (fun _ => true) (gNm 5) tYesD (eTup (aCons (eVar 5) (aCons (eCall 3 f [] (aCons (eVar 0) (aCons (eOp dSub (eVar 1) (eC (.int 1))) (aCons (eCB dMax2 (aCons (eC (.int 1)) (aCons (eOp dSub (eVar 2) (eC (.int 1))) aNil))) aNil)))) aNil)))
      [some (.ref n), some (.int ((deep : Int) + 1)), some (.int most), x, y, none] (names.map D.str) acc (G.set n w.cell) = .ok (acc ++ ps.map encPr) (G.set n w'.cell) ∧ ps.map (·.1) = names ∧ (∀ p ∈ ps, (okT five deep p.2 ∧ smT deep p.2) ∧ szT p.2 ≤ szB deep) ∧ w.c ≤ w'.c ∧ w'.c ≤ w.c + names.length * coB deep
  | [], w, acc, _, _, _ => ⟨[], w, by simp [lcL], rfl, (fun _ h => nomatch h), Int.le_refl _, by simp⟩
  | nm :: names, w, acc, h1, h2, h3 => by
    have g1 : (G.set n w.cell)[n]? = some w.cell := by simp [lt]
    simp only [List.length_cons] at h1 h3
    have e3 : ((names.length + 1 : Nat) : Int) * (coB deep : Int) = (names.length : Int) * coB deep + coB deep := by
      rw [Int.natCast_add, Int.add_mul]; simp
    have pos : (0 : Int) ≤ (names.length : Int) * coB deep := by
      rw [← Int.natCast_mul]; exact Int.natCast_nonneg _
    rw [e3] at h3
    obtain ⟨t, w1, e, ok, sz, c0, c1⟩ := hf w m' n _ g1 hm h2 (by omega)
    rw [List.set_set] at e
    obtain ⟨ps, w2, e2, n2, p2, c2, c3⟩ := tree_loop hf hm n G lt x y hmm names w1 (acc ++ [.tup [.str nm, encT t]]) (by simp; omega) (by omega) (by omega)
    refine ⟨(nm, t) :: ps, w2, ?_, by simp [n2], fun p hp => ?_, by omega, by simp only [List.length_cons]; rw [e3]; omega⟩
    · have sz1 : acc.length < sizeLine := Nat.lt_of_lt_of_le (by omega : acc.length < 100) (by decide)
      have sz2 : (2 : Nat) ≤ sizeLine := by decide
      have mx : (if ((most : Int) - 1) > 1 then ((most : Int) - 1) else 1) = (m' : Int) := by
        rw [← hmm]; split <;> omega
      unfold lcL
      simp [dMax2, mx, e, sz1, sz2, e2, encPr]
    · rcases List.mem_cons.mp hp with rfl | hp
      · exact ⟨ok, sz⟩
      · exact p2 p hp

abbrev N_tree : List Str := ["_law_well_here", "_law_deep", "_law_most", "_law_way", "_law_names_here", "_law_name"]
def vals7 : List D := [.int 0, .int 1, .int (-7), .str "", .str "x", .str "a b", .int (10 ^ 20)]
theorem vals7_ok (ns : List Str) (r : Nat) : ∀ d ∈ vals7, ∃ t, D.tup [.str "value", d] = encT t ∧ (okT ns (r + 1) t ∧ smT (r + 1) t) ∧ szT t = 0 := by
  intro d hd
  simp only [vals7, List.mem_cons, List.not_mem_nil, or_false] at hd
  rcases hd with rfl | rfl | rfl | rfl | rfl | rfl | rfl
  · exact ⟨.val 0, by rw [encT_val], ⟨by simp [okT], by simp [smT]⟩, by rw [szT]⟩
  · exact ⟨.val 1, by rw [encT_val], ⟨by simp [okT], by simp [smT]⟩, by rw [szT]⟩
  · exact ⟨.val (-7), by rw [encT_val], ⟨by simp [okT], by simp [smT]⟩, by rw [szT]⟩
  · exact ⟨.txt "", by rw [encT_txt], ⟨by show okS "" = true; decide +kernel, by show Str.length "" ≤ 30; decide +kernel⟩, by rw [szT]⟩
  · exact ⟨.txt "x", by rw [encT_txt], ⟨by show okS "x" = true; decide +kernel, by show Str.length "x" ≤ 30; decide +kernel⟩, by rw [szT]⟩
  · exact ⟨.txt "a b", by rw [encT_txt], ⟨by show okS "a b" = true; decide +kernel, by show Str.length "a b" ≤ 30; decide +kernel⟩, by rw [szT]⟩
  · exact ⟨.val (10 ^ 20), by rw [encT_val], ⟨by simp [okT], by simp [smT]⟩, by rw [szT]⟩
@[simp] theorem dTupP_lst (G : GH) (xs : List D) : dTupP (.lst xs) G = .ok (.pt xs) G := rfl
theorem five_ok : ∀ x ∈ five, PyData.strOk x = true := by decide +kernel
theorem sum_le {α : Type} (f : α → Nat) (b : Nat) : ∀ l : List α, (∀ x ∈ l, f x ≤ b) → (l.map f).sum ≤ l.length * b
  | [], _ => by simp
  | x :: l, h => by
    have h1 := h x (.head _)
    have h2 := sum_le f b l fun y hy => h y (.tail _ hy)
    simp only [List.map_cons, List.sum_cons, List.length_cons]
    rw [Nat.add_mul]
    omega
theorem m_tree_step {fd fo fn f : List D → GH → R D} (hd : DrawOk fd) (ho : OneOk fo) (hn : NamesOk fn) (d : Nat) (hf : d = 0 ∨ TreeOk f d) : TreeOk (defF N_tree (b__law_tree fd fo fn f)) (d + 1) := by
  intro w most n G h hm h0 hc
  have lt := lt_of_get h
  have cb : (coB (d + 1) : Int) = 6 + 3 * (coB d : Int) := by simp [coB]
  have cp : (0 : Int) ≤ coB d := Int.natCast_nonneg _
  rw [cb] at hc ⊢
  obtain ⟨r, w1, e, r0, r1, c0, c1⟩ := hd w 5 n G h (by omega) (by omega) h0 (by omega)
  have g1 : (G.set n w1.cell)[n]? = some w1.cell := by simp [lt]
  have ec : ((d + 1 : Nat) : Int) = (d : Int) + 1 := by omega
  rw [ec]
  have sz2 : (2 : Nat) ≤ sizeLine := by decide
  have sz7 : (7 : Nat) ≤ sizeLine := by decide
  by_cases hv : ((d : Int) + 1 ≤ 1 ∧ 1 < r) ∨ r = 0
  · obtain ⟨x, w2, e2, c2, c3, hx⟩ := ho w1 vals7 n _ g1 (by decide) (by decide) (by omega) (by omega)
    rw [List.set_set] at e2
    obtain ⟨t, et, ot, zt⟩ := vals7_ok five d x hx
    refine ⟨t, w2, ?_, ot, by rw [zt]; exact Nat.zero_le _, by omega, by omega⟩
    rw [← et]
    have e2' : fo [.ref n, .lst [.int 0, .int 1, .int (-7), .str "", .str "x", .str "a b", .int (10 ^ 20)]] (G.set n w1.cell) = .ok x (G.set n w2.cell) := e2
    have s1 : sSet 3 (eCall 2 fd [] (aCons (eVar 0) (aCons (eC (.int 5)) aNil))) [some (.ref n), some (.int ((d : Int) + 1)), some (.int most), none, none, none] G = .nx [some (.ref n), some (.int ((d : Int) + 1)), some (.int most), some (.int r), none, none] (G.set n w1.cell) := by simp [e]
    have s2 : (tOrD (tAndD (asB (eOp dLe (eVar 1) (eC (.int 1)))) (asB (eOp dGt (eVar 3) (eC (.int 1))))) (asB (eOp dEq (eVar 3) (eC (.int 0))))) [some (.ref n), some (.int ((d : Int) + 1)), some (.int most), some (.int r), none, none] (G.set n w1.cell) = .ok true (G.set n w1.cell) := by
      by_cases a1 : (d : Int) + 1 ≤ 1 <;> by_cases a2 : 1 < r <;> by_cases a3 : r = 0 <;> simp [a1, a2, a3] at hv ⊢ <;> simp_all
    have s3 : sRet (eTup (aCons (eC (.str "value")) (aCons (eCall 2 fo [] (aCons (eVar 0) (aCons (eLst (aCons (eC (.int 0)) (aCons (eC (.int 1)) (aCons (eUn dNeg (eC (.int 7))) (aCons (eC (.str "")) (aCons (eC (.str "x")) (aCons (eC (.str "a b")) (aCons (eOp dPow (eC (.int 10)) (eC (.int 20))) aNil)))))))) aNil))) aNil))) [some (.ref n), some (.int ((d : Int) + 1)), some (.int most), some (.int r), none, none] (G.set n w1.cell) =
        .rt (.tup [.str "value", x]) (G.set n w2.cell) := by
      have p20 : dPow (.int 10) (.int 20) (G.set n w1.cell) = .ok (.int (10 ^ 20)) (G.set n w1.cell) := by simp
      simp only [ap_sRet, ap_eTup, ap_aCons, ap_eC, R.bind_ok, ap_eCall, ap_eVar, List.getElem?_cons_zero, ap_eLst, ap_eUn, dNeg_ap, ap_eOp, p20, ap_aNil, List.append_nil, List.length_cons, List.length_nil, Nat.zero_add, Nat.reduceAdd, sz7, if_true, e2', sz2, R.thn_ok]
    rw [defF_ap]
    unfold b__law_tree
    have st : startD N_tree [D.ref n, D.int ((d : Int) + 1), D.int most] = [some (.ref n), some (.int ((d : Int) + 1)), some (.int most), none, none, none] := rfl
    simp only [st, ap_sSeq, s1, RS.seq_nx, ap_sIf, s2, R.thn_ok, if_true, s3, RS.seq_rt]
  · have s1 : sSet 3 (eCall 2 fd [] (aCons (eVar 0) (aCons (eC (.int 5)) aNil))) [some (.ref n), some (.int ((d : Int) + 1)), some (.int most), none, none, none] G = .nx [some (.ref n), some (.int ((d : Int) + 1)), some (.int most), some (.int r), none, none] (G.set n w1.cell) := by simp [e]
    have s2 : (tOrD (tAndD (asB (eOp dLe (eVar 1) (eC (.int 1)))) (asB (eOp dGt (eVar 3) (eC (.int 1))))) (asB (eOp dEq (eVar 3) (eC (.int 0))))) [some (.ref n), some (.int ((d : Int) + 1)), some (.int most), some (.int r), none, none] (G.set n w1.cell) = .ok false (G.set n w1.cell) := by
      by_cases a1 : (d : Int) + 1 ≤ 1 <;> by_cases a2 : 1 < r <;> by_cases a3 : r = 0 <;> simp [a1, a2, a3] at hv ⊢ <;> simp_all
    have st : startD N_tree [D.ref n, D.int ((d : Int) + 1), D.int most] = [some (.ref n), some (.int ((d : Int) + 1)), some (.int most), none, none, none] := rfl
    have r0' : r ≠ 0 := fun z => hv (.inr z)
    by_cases h1 : d = 0
    · subst h1
      obtain ⟨x, w2, e2, c2, c3, hx⟩ := ho w1 [.str "map", .str "list"] n _ g1 (by decide) (by decide) (by omega) (by omega)
      rw [List.set_set] at e2
      obtain ⟨m, rfl⟩ : ∃ m, x = .str (kindS m) := by
        simp only [List.mem_cons, List.not_mem_nil, or_false] at hx
        rcases hx with rfl | rfl
        · exact ⟨true, rfl⟩
        · exact ⟨false, rfl⟩
      refine ⟨.node m [], w2, ?_, ⟨⟨by simp, by simp, by simp, by simp⟩, by simp [smT]⟩, by rw [szT_node]; simp, by omega, by omega⟩
      rw [encT_node]
      have s3 : (asB (eOp dLe (eVar 1) (eC (.int 1)))) [some (.ref n), some (.int (((0 : Nat) : Int) + 1)), some (.int most), some (.int r), none, none] (G.set n w1.cell) = .ok true (G.set n w1.cell) := by simp
      have s4 : sRet (eTup (aCons (eCall 2 fo [] (aCons (eVar 0) (aCons (eLst (aCons (eC (.str "map")) (aCons (eC (.str "list")) aNil))) aNil))) (aCons (eTupP aNil) aNil))) [some (.ref n), some (.int (((0 : Nat) : Int) + 1)), some (.int most), some (.int r), none, none] (G.set n w1.cell) =
          .rt (.tup [.str (kindS m), .pt []]) (G.set n w2.cell) := by
        simp only [ap_sRet, ap_eTup, ap_eTupP, ap_aCons, ap_eC, R.bind_ok, ap_eCall, ap_eVar, List.getElem?_cons_zero, ap_eLst, ap_aNil, List.append_nil, List.length_cons, List.length_nil, Nat.zero_add, Nat.reduceAdd, sz2, if_true, e2, Nat.zero_le, R.thn_ok]
      rw [defF_ap]
      unfold b__law_tree
      simp only [st, ap_sSeq, s1, RS.seq_nx, ap_sIf, s2, R.thn_ok, if_true, if_false, Bool.false_eq_true, ap_sNext, s3, s4, RS.seq_rt, List.map_nil]
    · have hf := hf.resolve_left h1
      obtain ⟨picked, w2, e2, nd, inF, pl, c2, c3⟩ := hn w1 most n _ g1 (by omega) (by omega) (by omega)
      rw [List.set_set] at e2
      have g2 : (G.set n w2.cell)[n]? = some w2.cell := by simp [lt]
      have s3 : (asB (eOp dLe (eVar 1) (eC (.int 1)))) [some (.ref n), some (.int ((d : Int) + 1)), some (.int most), some (.int r), none, none] (G.set n w1.cell) = .ok false (G.set n w1.cell) := by
        have q : ¬ ((d : Int) + 1 ≤ 1) := by omega
        simp [q]
      have s4 : sSet 4 (eCall 2 fn [] (aCons (eVar 0) (aCons (eVar 2) aNil))) [some (.ref n), some (.int ((d : Int) + 1)), some (.int most), some (.int r), none, none] (G.set n w1.cell) = .nx [some (.ref n), some (.int ((d : Int) + 1)), some (.int most), some (.int r), some (.lst (picked.map .str)), none] (G.set n w2.cell) := by
        simp [e2]
      obtain ⟨m', hm'⟩ : ∃ m' : Nat, max (1 : Int) ((most : Int) - 1) = m' := ⟨(max (1 : Int) ((most : Int) - 1)).toNat, by omega⟩
      have m3 : m' ≤ 3 := by omega
      have okS5 : ∀ x ∈ picked, PyData.strOk x = true := fun x hx => five_ok x (inF x hx)
      have mul3 : ∀ l : Nat, l ≤ 3 → (l : Int) * (coB d : Int) ≤ 3 * (coB d : Int) := fun l hl => Int.mul_le_mul_of_nonneg_right (by omega) cp
      by_cases h2 : r = 1
      · obtain ⟨ps, w3, e3, n3, p3, c4, c5⟩ := tree_loop hf m3 n G lt (some (.int r)) (some (.lst (picked.map .str))) hm' picked w2 [] (by simp; omega) (by omega) (by have := mul3 picked.length (by omega); omega)
        have mm := mul3 picked.length (by omega)
        refine ⟨.node false ps, w3, ?_, ⟨⟨by rw [n3]; exact nd, by rw [n3]; exact inF, by simp, fun p hp => (p3 p hp).1.1⟩, fun p hp => (p3 p hp).1.2⟩, ?_, by omega, by omega⟩
        · rw [encT_node]
          simp only [List.nil_append] at e3
          have s5 : (asB (eOp dEq (eVar 3) (eC (.int 1)))) [some (.ref n), some (.int ((d : Int) + 1)), some (.int most), some (.int r), some (.lst (picked.map .str)), none] (G.set n w2.cell) = .ok true (G.set n w2.cell) := by simp [h2]
          have s6 : sRet (eTup (aCons (eC (.str "list")) (aCons (eCB (one dTupP) (aCons (eLc mkF (iSeq (eVar 4)) (gNm 5) tYesD (eTup (aCons (eVar 5) (aCons (eCall 3 f [] (aCons (eVar 0) (aCons (eOp dSub (eVar 1) (eC (.int 1))) (aCons (eCB dMax2 (aCons (eC (.int 1)) (aCons (eOp dSub (eVar 2) (eC (.int 1))) aNil))) aNil)))) aNil))) [5]) aNil)) aNil))) [some (.ref n), some (.int ((d : Int) + 1)), some (.int most), some (.int r), some (.lst (picked.map .str)), none] (G.set n w2.cell) = .rt (.tup [.str "list", .pt (ps.map encPr)]) (G.set n w3.cell) := by
            have it : iSeq (eVar 4) [some (.ref n), some (.int ((d : Int) + 1)), some (.int most), some (.int r), some (.lst (picked.map .str)), none] (G.set n w2.cell) = .ok ⟨picked.map .str, fun _ => true⟩ (G.set n w2.cell) := by simp
            have wd : wipeD [some (.ref n), some (.int ((d : Int) + 1)), some (.int most), some (.int r), some (.lst (picked.map .str)), none] [5] = [some (.ref n), some (.int ((d : Int) + 1)), some (.int most), some (.int r), some (.lst (picked.map .str)), none] := rfl
            simp only [ap_sRet, ap_eTup, ap_aCons, ap_eC, R.bind_ok, ap_eCB, ap_eLc, it, wd, if_true, e3, ap_mkF, ap_aNil, ap_one, dTupP_lst, List.length_cons, List.length_nil, Nat.zero_add, Nat.reduceAdd, sz2, R.thn_ok]
          rw [defF_ap]
          unfold b__law_tree
          simp only [st, ap_sSeq, s1, RS.seq_nx, ap_sIf, s2, R.thn_ok, if_true, if_false, Bool.false_eq_true, ap_sNext, s3, s4, s5, s6, RS.seq_rt]
          rfl
        · rw [szT_node]
          have := sum_le (fun p : Str × Tr => 1 + szT p.2) (1 + szB d) ps fun p hp => by have := (p3 p hp).2; omega
          have l3 : ps.length = picked.length := by rw [← n3, List.length_map]
          refine Nat.le_trans this ?_
          show _ ≤ 3 * (1 + szB d)
          exact Nat.mul_le_mul_right _ (by omega)
      · have pm := sortS_perm picked
        have pl2 : (sortS picked).length = picked.length := pm.length_eq
        obtain ⟨ps, w3, e3, n3, p3, c4, c5⟩ := tree_loop hf m3 n G lt (some (.int r)) (some (.lst (picked.map .str))) hm' (sortS picked) w2 [] (by simp; omega) (by omega) (by have := mul3 (sortS picked).length (by omega); omega)
        have mm := mul3 (sortS picked).length (by omega)
        refine ⟨.node true ps, w3, ?_, ⟨⟨by rw [n3]; exact pm.nodup_iff.mpr nd, by rw [n3]; exact fun x hx => inF x (pm.mem_iff.mp hx), fun _ => by rw [n3]; exact sortS_sorted picked, fun p hp => (p3 p hp).1.1⟩, fun p hp => (p3 p hp).1.2⟩, ?_, by omega, by omega⟩
        · rw [encT_node]
          simp only [List.nil_append] at e3
          have s5 : (asB (eOp dEq (eVar 3) (eC (.int 1)))) [some (.ref n), some (.int ((d : Int) + 1)), some (.int most), some (.int r), some (.lst (picked.map .str)), none] (G.set n w2.cell) = .ok false (G.set n w2.cell) := by simp [h2]
          have s6 : sRet (eTup (aCons (eC (.str "map")) (aCons (eCB (one dTupP) (aCons (eLc mkF (iSeq (eCB (one (dSorted2 mkF)) (aCons (eVar 4) aNil))) (gNm 5) tYesD (eTup (aCons (eVar 5) (aCons (eCall 3 f [] (aCons (eVar 0) (aCons (eOp dSub (eVar 1) (eC (.int 1))) (aCons (eCB dMax2 (aCons (eC (.int 1)) (aCons (eOp dSub (eVar 2) (eC (.int 1))) aNil))) aNil)))) aNil))) [5]) aNil)) aNil))) [some (.ref n), some (.int ((d : Int) + 1)), some (.int most), some (.int r), some (.lst (picked.map .str)), none] (G.set n w2.cell) = .rt (.tup [.str "map", .pt (ps.map encPr)]) (G.set n w3.cell) := by
            have it : iSeq (eCB (one (dSorted2 mkF)) (aCons (eVar 4) aNil)) [some (.ref n), some (.int ((d : Int) + 1)), some (.int most), some (.int r), some (.lst (picked.map .str)), none] (G.set n w2.cell) = .ok ⟨(sortS picked).map .str, fun _ => true⟩ (G.set n w2.cell) := by simp [dSorted2_strs okS5]
            have wd : wipeD [some (.ref n), some (.int ((d : Int) + 1)), some (.int most), some (.int r), some (.lst (picked.map .str)), none] [5] = [some (.ref n), some (.int ((d : Int) + 1)), some (.int most), some (.int r), some (.lst (picked.map .str)), none] := rfl
            simp only [ap_sRet, ap_eTup, ap_aCons, ap_eC, R.bind_ok, ap_eCB, ap_eLc, it, wd, if_true, e3, ap_mkF, ap_aNil, ap_one, dTupP_lst, List.length_cons, List.length_nil, Nat.zero_add, Nat.reduceAdd, sz2, R.thn_ok]
          rw [defF_ap]
          unfold b__law_tree
          simp only [st, ap_sSeq, s1, RS.seq_nx, ap_sIf, s2, R.thn_ok, if_true, if_false, Bool.false_eq_true, ap_sNext, s3, s4, s5, s6, RS.seq_rt]
          rfl
        · rw [szT_node]
          have := sum_le (fun p : Str × Tr => 1 + szT p.2) (1 + szB d) ps fun p hp => by have := (p3 p hp).2; omega
          have l3 : ps.length = (sortS picked).length := by rw [← n3, List.length_map]
          refine Nat.le_trans this ?_
          show _ ≤ 3 * (1 + szB d)
          exact Nat.mul_le_mul_right _ (by omega)
end K03
end CF
end
section
set_option maxRecDepth 100000
set_option maxHeartbeats 4000000
namespace CF
namespace K03
open PySem PySem.Spec PyProof.Rows L2
def LETT : Str := "abcdefghijklmnopqrstuvwxyz"
def inLett (c : Nat) : Bool := !(Builtin.Str.occurrences LETT ⟨#[c]⟩ 0 LETT.length 1).isEmpty
def nmOk (x : Str) : Bool := (decide (1 ≤ x.length) && decide (x.length ≤ 8)) && x.cps.toList.all inLett
noncomputable def F_name : List D → GH → R D := defF ["value", "sign"] b_is_name
def NameOk (f : List D → GH → R D) : Prop := ∀ (x : Str) (G : GH), nmOk x = true → f [.str x] G = .ok (.bl true) G
theorem m_name : NameOk F_name := by
  intro x G h
  unfold nmOk at h
  obtain ⟨h1, h3⟩ := Bool.and_eq_true_iff.mp h
  obtain ⟨h1, h2⟩ := Bool.and_eq_true_iff.mp h1
  have h1 := of_decide_eq_true h1
  have h2 := of_decide_eq_true h2
  have sz : x.length ≤ sizeLine := Nat.le_trans h2 (by decide)
  have st : startD ["value", "sign"] [D.str x] = [some (.str x), none] := rfl
  have i1 : (1 : Int) ≤ (x.length : Int) := by omega
  have i2 : (x.length : Int) ≤ 8 := by omega
  have s1 : (tOrD (tNotD (eTru (eOne (eVar 0) (dIsi "str")))) (tNotD (asB (eChain dLe dLe (eC (.int 1)) (eCB (one dLen) (aCons (eVar 0) aNil)) (eC (.int (8))))))) [some (.str x), none] G = .ok false G := by
    simp [isiB, sz, i1, i2]
  have lc : lcL (fun _ => true) (gNm 1) tYesD (eOp dIn (eVar 1) (eC (.str "abcdefghijklmnopqrstuvwxyz"))) [some (.str x), none] (x.cps.toList.map fun c => D.str ⟨#[c]⟩) [] G = .ok ([] ++ (x.cps.toList.map fun c => D.str ⟨#[c]⟩).map fun d => match d with | .str y => .bl (!(Builtin.Str.occurrences LETT y 0 LETT.length 1).isEmpty) | _ => .non) G := by
    refine lcL_map _ (fun d => [some (.str x), some d]) (fun d hd => ?_) (fun d hd => ?_) ?_
    · simp
    · obtain ⟨c, _, rfl⟩ := List.mem_map.mp hd
      simp [dIn, inD, LETT]
    · simp only [List.length_nil, Nat.zero_add, List.length_map]
      exact sz
  have s2 : sRet (eCB (one dAll) (aCons (eLc mkF (iSeq (eVar 0)) (gNm 1) tYesD (eOp dIn (eVar 1) (eC (.str "abcdefghijklmnopqrstuvwxyz"))) [1]) aNil)) [some (.str x), none] G = .rt (.bl true) G := by
    have it : iSeq (eVar 0) [some (.str x), none] G = .ok ⟨x.cps.toList.map fun c => D.str ⟨#[c]⟩, fun _ => true⟩ G := by simp
    have wd : wipeD [some (.str x), none] [1] = [some (D.str x), none] := rfl
    rw [List.nil_append, List.map_map] at lc
    have al := dAll_map G x.cps.toList inLett
    rw [h3] at al
    simp only [ap_sRet, ap_eCB, ap_aCons, ap_eLc, it, R.bind_ok, wd, if_true, lc, ap_mkF, ap_aNil, ap_one]
    have e : (fun d => match d with | D.str y => D.bl (!(Builtin.Str.occurrences LETT y 0 LETT.length 1).isEmpty) | _ => .non) ∘ (fun c => D.str ⟨#[c]⟩) = fun c : Nat => D.bl (inLett c) := rfl
    rw [e, al]
    rfl
  unfold F_name b_is_name
  rw [defF_ap]
  simp only [st, ap_sSeq, ap_sIf, s1, R.thn_ok, if_false, Bool.false_eq_true, ap_sNext, RS.seq_nx, s2]
theorem met_go : ∀ (xs acc : List Str), (acc ++ xs).Nodup → xs.foldl step_dedup acc = acc ++ xs
  | [], acc, _ => by simp
  | x :: xs, acc, h => by
    have hx : acc.any (· == x) = false := by
      cases q : acc.any (· == x) with
      | false => rfl
      | true =>
        obtain ⟨y, hy, e⟩ := List.any_eq_true.mp q
        have e' : y = x := eq_of_beq e
        subst e'
        exact absurd (List.nodup_append.mp h).2.2 (fun z => z y hy y (.head _) rfl)
    rw [List.foldl_cons]
    have e : step_dedup acc x = acc ++ [x] := by unfold step_dedup; rw [hx]; rfl
    rw [e, met_go xs (acc ++ [x]) (by simpa using h)]
    simp
theorem met_nodup {xs : List Str} (h : xs.Nodup) : met xs = xs := by
  have := met_go xs [] (by simpa using h)
  simpa [met] using this
theorem all_true {α : Type} (l : List α) : l.all (fun _ => true) = true := by simp
abbrev N_pairs : List Str := ["pairs", "room", "pair", "names", "name"]
theorem m_pairs {fn ft : List D → GH → R D} (hn : NameOk fn) (ps : List (Str × Tr)) (rm : Int) (G : GH) (nd : (ps.map (·.1)).Nodup) (ok : ∀ n ∈ ps.map (·.1), nmOk n = true) (ht : ∀ p ∈ ps, ft [encT p.2, .int rm] G = .ok (.bl true) G) (hl : ps.length < 4000) :
    defF N_pairs (b_is_pairs fn ft) [.pt (ps.map encPr), .int rm] G = .ok (.bl true) G := by
  have sz : ps.length ≤ sizeLine := Nat.le_trans (by omega : ps.length ≤ 4000) (by decide)
  have st : startD N_pairs [.pt (ps.map encPr), .int rm] = [some (.pt (ps.map encPr)), some (.int rm), none, none, none] := rfl
  have it : ∀ a b c : Option D, iSeq (eVar 0) [some (.pt (ps.map encPr)), some (.int rm), a, b, c] G = .ok ⟨ps.map encPr, fun _ => true⟩ G := fun a b c => by simp
  -- all are pairs
  have l1 : lcL (fun _ => true) (gNm 2) tYesD (eAnd (eOne (eVar 2) (dIsi "tuple")) (eOp dEq (eCB (one dLen) (aCons (eVar 2) aNil)) (eC (.int 2)))) [some (.pt (ps.map encPr)), some (.int rm), none, none, none] (ps.map encPr) [] G = .ok ([] ++ (ps.map encPr).map fun _ => D.bl true) G := by
    refine lcL_map _ (fun d => [some (.pt (ps.map encPr)), some (.int rm), some d, none, none]) (fun d hd => by simp) (fun d hd => ?_) (by simpa using sz)
    obtain ⟨p, _, rfl⟩ := List.mem_map.mp hd
    simp [encPr, isiB]
  have s1 : (tOrD (tNotD (eTru (eOne (eVar 0) (dIsi "tuple")))) (tNotD (eTru (eCB (one dAll) (aCons (eLc mkF (iSeq (eVar 0)) (gNm 2) tYesD (eAnd (eOne (eVar 2) (dIsi "tuple")) (eOp dEq (eCB (one dLen) (aCons (eVar 2) aNil)) (eC (.int 2)))) [2]) aNil))))) [some (.pt (ps.map encPr)), some (.int rm), none, none, none] G = .ok false G := by
    have wd : wipeD [some (D.pt (ps.map encPr)), some (.int rm), none, none, none] [2] = [some (.pt (ps.map encPr)), some (.int rm), none, none, none] := rfl
    have al : dAll (.lst ([] ++ (ps.map encPr).map fun _ => D.bl true)) G = .ok (.bl true) G := by rw [List.nil_append, dAll_map G (ps.map encPr) (fun _ => true), all_true]
    have t1 : eOne (eVar 0) (dIsi "tuple") [some (.pt (ps.map encPr)), some (.int rm), none, none, none] G = .ok (.bl true) G := by simp [isiB]
    simp only [ap_tOr, ap_tNot, ap_eTru, t1, R.bind_ok, truD_bl, Bool.not_true, if_false, Bool.false_eq_true, ap_eCB, ap_aCons, ap_eLc, it, wd, if_true, l1, ap_mkF, ap_aNil, ap_one, al]
  have l2 : lcL (fun _ => true) (gNm 2) tYesD (eOp dIx (eVar 2) (eC (.int 0))) [some (.pt (ps.map encPr)), some (.int rm), none, none, none] (ps.map encPr) [] G = .ok ([] ++ (ps.map encPr).map fun d => match d with | .tup (n :: _) => n | _ => .non) G := by
    refine lcL_map _ (fun d => [some (.pt (ps.map encPr)), some (.int rm), some d, none, none]) (fun d hd => by simp) (fun d hd => ?_) (by simpa using sz)
    obtain ⟨p, _, rfl⟩ := List.mem_map.mp hd
    simp [encPr]
  have nm : (ps.map encPr).map (fun d => match d with | .tup (n :: _) => n | _ => .non) = (ps.map (·.1)).map D.str := by
    rw [List.map_map, List.map_map]; rfl
  rw [nm, List.nil_append] at l2
  have s2 : sSet 3 (eLc mkF (iSeq (eVar 0)) (gNm 2) tYesD (eOp dIx (eVar 2) (eC (.int 0))) [2]) [some (.pt (ps.map encPr)), some (.int rm), none, none, none] G = .nx [some (.pt (ps.map encPr)), some (.int rm), none, some (.lst ((ps.map (·.1)).map D.str)), none] G := by
    have wd : wipeD [some (D.pt (ps.map encPr)), some (.int rm), none, none, none] [2] = [some (.pt (ps.map encPr)), some (.int rm), none, none, none] := rfl
    simp only [ap_sSet, ap_eLc, it, R.bind_ok, wd, if_true, l2, ap_mkF, R.thn_ok]
    rfl
  have l3 : lcL (fun _ => true) (gNm 4) tYesD (eCall 1 fn [] (aCons (eVar 4) aNil)) [some (.pt (ps.map encPr)), some (.int rm), none, some (.lst ((ps.map (·.1)).map D.str)), none] ((ps.map (·.1)).map D.str) [] G = .ok ([] ++ ((ps.map (·.1)).map D.str).map fun _ => D.bl true) G := by
    refine lcL_map _ (fun d => [some (.pt (ps.map encPr)), some (.int rm), none, some (.lst ((ps.map (·.1)).map D.str)), some d]) (fun d hd => by simp) (fun d hd => ?_) (by simpa using sz)
    obtain ⟨x, hx, rfl⟩ := List.mem_map.mp hd
    simp [hn x G (ok x hx)]
  have s3 : (tOrD (tNotD (eTru (eCB (one dAll) (aCons (eLc mkF (iSeq (eVar 3)) (gNm 4) tYesD (eCall 1 fn [] (aCons (eVar 4) aNil)) [4]) aNil)))) (asB (eOp dNe (eLenSet (eVar 3)) (eCB (one dLen) (aCons (eVar 3) aNil))))) [some (.pt (ps.map encPr)), some (.int rm), none, some (.lst ((ps.map (·.1)).map D.str)), none] G = .ok false G := by
    have wd : wipeD [some (D.pt (ps.map encPr)), some (.int rm), none, some (.lst ((ps.map (·.1)).map D.str)), none] [4] = [some (.pt (ps.map encPr)), some (.int rm), none, some (.lst ((ps.map (·.1)).map D.str)), none] := rfl
    have al : dAll (.lst ([] ++ ((ps.map (·.1)).map D.str).map fun _ => D.bl true)) G = .ok (.bl true) G := by rw [List.nil_append, dAll_map G _ (fun _ => true), all_true]
    have it3 : iSeq (eVar 3) [some (D.pt (ps.map encPr)), some (.int rm), none, some (.lst ((ps.map (·.1)).map D.str)), none] G = .ok ⟨(ps.map (·.1)).map D.str, fun _ => true⟩ G := rfl
    have ls : eLenSet (eVar 3) [some (D.pt (ps.map encPr)), some (.int rm), none, some (.lst ((ps.map (·.1)).map D.str)), none] G = .ok (.int ps.length) G := by
      have h4 : ps.length < 4000 := hl
      show (match (some ((ps.map (·.1)).map D.str)).bind strsOf with | some xs => if xs.length < 4000 then R.ok (D.int (met xs).length) G else .no | none => .no) = _
      rw [Option.bind_some, strsOf_map]
      dsimp only
      rw [if_pos (by simpa using hl), met_nodup nd, List.length_map]
    have ln : eCB (one dLen) (aCons (eVar 3) aNil) [some (D.pt (ps.map encPr)), some (.int rm), none, some (.lst ((ps.map (·.1)).map D.str)), none] G = .ok (.int ps.length) G := by simp
    simp only [ap_tOr, ap_tNot, ap_eTru, R.bind_ok, truD_bl, Bool.not_true, if_false, Bool.false_eq_true, ap_eCB, ap_aCons, ap_eLc, it3, wd, if_true, l3, ap_mkF, ap_aNil, ap_one, al, ap_asB, ap_eOp, ls]
    rw [show (eVar 3 [some (D.pt (ps.map encPr)), some (.int rm), none, some (.lst ((ps.map (·.1)).map D.str)), none] G) = .ok (.lst ((ps.map (·.1)).map D.str)) G from rfl]
    simp
  have l4 : lcL (fun _ => true) (gNm 2) tYesD (eCall 2 ft [] (aCons (eOp dIx (eVar 2) (eC (.int 1))) (aCons (eVar 1) aNil))) [some (.pt (ps.map encPr)), some (.int rm), none, some (.lst ((ps.map (·.1)).map D.str)), none] (ps.map encPr) [] G = .ok ([] ++ (ps.map encPr).map fun _ => D.bl true) G := by
    refine lcL_map _ (fun d => [some (.pt (ps.map encPr)), some (.int rm), some d, some (.lst ((ps.map (·.1)).map D.str)), none]) (fun d hd => by simp) (fun d hd => ?_) (by simpa using sz)
    obtain ⟨p, hp, rfl⟩ := List.mem_map.mp hd
    simp [encPr, ht p hp]
  have s4 : sRet (eCB (one dAll) (aCons (eLc mkF (iSeq (eVar 0)) (gNm 2) tYesD (eCall 2 ft [] (aCons (eOp dIx (eVar 2) (eC (.int 1))) (aCons (eVar 1) aNil))) [2]) aNil)) [some (.pt (ps.map encPr)), some (.int rm), none, some (.lst ((ps.map (·.1)).map D.str)), none] G = .rt (.bl true) G := by
    have wd : wipeD [some (D.pt (ps.map encPr)), some (.int rm), none, some (.lst ((ps.map (·.1)).map D.str)), none] [2] = [some (.pt (ps.map encPr)), some (.int rm), none, some (.lst ((ps.map (·.1)).map D.str)), none] := rfl
    have al : dAll (.lst ([] ++ (ps.map encPr).map fun _ => D.bl true)) G = .ok (.bl true) G := by rw [List.nil_append, dAll_map G (ps.map encPr) (fun _ => true), all_true]
    simp only [ap_sRet, ap_eCB, ap_aCons, ap_eLc, it, R.bind_ok, wd, if_true, l4, ap_mkF, ap_aNil, ap_one, al, R.thn_ok]
  rw [defF_ap]
  unfold b_is_pairs
  simp only [st, ap_sSeq, ap_sIf, s1, R.thn_ok, if_false, Bool.false_eq_true, ap_sNext, RS.seq_nx, s2, s3, s4]
end K03
end CF
end
section
set_option maxRecDepth 100000
set_option maxHeartbeats 4000000
namespace CF
namespace K03
open PySem PySem.Spec PyProof.Rows L2
theorem ok_value : PyData.strOk "value" = true := by decide +kernel
theorem ok_kind (m : Bool) : PyData.strOk (kindS m) = true := by cases m <;> decide +kernel
theorem ne_value (m : Bool) : (kindS m == ("value" : Str)) = false := by cases m <;> decide +kernel
theorem eq_list (m : Bool) : (kindS m == ("list" : Str)) = !m := by cases m <;> decide +kernel
theorem eq_map (m : Bool) : (kindS m == ("map" : Str)) = m := by cases m <;> decide +kernel
theorem ok_list : PyData.strOk "list" = true := by decide +kernel
theorem ok_map : PyData.strOk "map" = true := by decide +kernel
theorem vv : (("value" : Str) == ("value" : Str)) = true := by decide +kernel
theorem in_kinds (m : Bool) (G : GH) : dNotIn (.str (kindS m)) (.tup [.str "map", .str "list"]) G = .ok (.bl false) G := by
  have h : inD G (.str (kindS m)) (.tup [.str "map", .str "list"]) = some true := by
    show dInS (.str (kindS m)) [.str "map", .str "list"] = some true
    cases m <;> decide +kernel
  unfold dNotIn
  rw [h]
  rfl
theorem len_sz : ∀ ps : List (Str × Tr), ps.length ≤ (ps.map fun p => 1 + szT p.2).sum
  | [] => by simp
  | p :: r => by have := len_sz r; simp only [List.length_cons, List.map_cons, List.sum_cons]; omega
def IntOk (f : List D → GH → R D) : Prop := (∀ (i : Int) (G : GH), f [.int i] G = .ok (.bl true) G) ∧ ∀ (x : Str) (G : GH), f [.str x] G = .ok (.bl false) G
abbrev N_tr : List Str := ["value", "room", "names", "name", "node"]
theorem m_is_tree {fi fp : List D → GH → R D} {ns : List Str} (hi : IntOk fi) (hns : ∀ n ∈ ns, PyData.strOk n = true) (r : Nat) (t : Tr) (rm : Int) (G : GH) (ok : okT ns (r + 1) t) (h0 : 0 < rm)
    (hp : ∀ m ps, t = .node m ps → fp [.pt (ps.map encPr), .int (rm - 1)] G = .ok (.bl true) G) (hl : szT t < 4000) : defF N_tr (b_is_tree fi fp) [encT t, .int rm] G = .ok (.bl true) G := by
  have sz2 : (2 : Nat) ≤ sizeLine := by decide
  have rz : ¬ rm = 0 := by omega
  have two : ∀ a b : D, (tOrD (asB (eOp dEq (eVar 1) (eC (.int 0)))) (tOrD (tNotD (eTru (eOne (eVar 0) (dIsi "tuple")))) (asB (eOp dNe (eCB (one dLen) (aCons (eVar 0) aNil)) (eC (.int 2)))))) [some (.tup [a, b]), some (.int rm), none, none, none] G = .ok false G := fun a b => by
    simp [rz, isiB]
  have st : ∀ a : D, startD N_tr [a, .int rm] = [some a, some (.int rm), none, none, none] := fun a => rfl
  have ix0 : ∀ a b x : D, ∀ c d e : Option D, eOp dIx (eVar 0) (eC (.int 0)) [some (.tup [a, b]), some x, c, d, e] G = .ok a G := fun a b x c d e => by simp
  have ix1 : ∀ a b x : D, ∀ c d e : Option D, eOp dIx (eVar 0) (eC (.int 1)) [some (.tup [a, b]), some x, c, d, e] G = .ok b G := fun a b x c d e => by simp
  have isv : ∀ (x : Str) (b y : D) (c d e : Option D), PyData.strOk x = true → asB (eOp dEq (eOp dIx (eVar 0) (eC (.int 0))) (eC (.str "value"))) [some (.tup [.str x, b]), some y, c, d, e] G = .ok (x == "value") G := fun x b y c d e hx => by
    simp only [ap_asB, ap_eOp (f := dEq), ix0, R.bind_ok, ap_eC, dEq_str G hx ok_value]
  cases t with
  | val i =>
    rw [encT_val, defF_ap, st]
    unfold b_is_tree
    have ok' : -(10 ^ 30) < i ∧ i < 10 ^ 30 := ok
    have s2 : eTru (eCall 1 fi [] (aCons (eOp dIx (eVar 0) (eC (.int 1))) aNil)) [some (.tup [.str "value", .int i]), some (.int rm), none, none, none] G = .ok true G := by
      simp only [ap_eTru, ap_eCall, ap_aCons, ix1, R.bind_ok, ap_aNil, List.append_nil, List.length_cons, List.length_nil, Nat.zero_add, if_true, hi.1, truD_bl]
    have s3 : sRet (eChain dLt dLt (eUn dNeg (eC (.int (1000000000000000000000000000000)))) (eOp dIx (eVar 0) (eC (.int 1))) (eC (.int (1000000000000000000000000000000)))) [some (.tup [.str "value", .int i]), some (.int rm), none, none, none] G = .rt (.bl true) G := by
      have a1 : -1000000000000000000000000000000 < i := by omega
      have a2 : i < 1000000000000000000000000000000 := by omega
      simp [a1, a2]
    simp only [ap_sSeq, ap_sIf, two, R.thn_ok, if_false, Bool.false_eq_true, ap_sNext, RS.seq_nx, isv _ _ _ _ _ _ ok_value, vv, if_true, s2, s3, RS.seq_rt]
  | txt x =>
    rw [encT_txt, defF_ap, st]
    unfold b_is_tree
    have s2 : eTru (eCall 1 fi [] (aCons (eOp dIx (eVar 0) (eC (.int 1))) aNil)) [some (.tup [.str "value", .str x]), some (.int rm), none, none, none] G = .ok false G := by
      simp only [ap_eTru, ap_eCall, ap_aCons, ix1, R.bind_ok, ap_aNil, List.append_nil, List.length_cons, List.length_nil, Nat.zero_add, if_true, hi.2, truD_bl]
    have s3 : sRet (eOne (eOp dIx (eVar 0) (eC (.int 1))) (dIsi "str")) [some (.tup [.str "value", .str x]), some (.int rm), none, none, none] G = .rt (.bl true) G := by simp [isiB]
    simp only [ap_sSeq, ap_sIf, two, R.thn_ok, if_false, Bool.false_eq_true, ap_sNext, RS.seq_nx, isv _ _ _ _ _ _ ok_value, vv, if_true, s2, s3, RS.seq_rt]
  | node m ps =>
    obtain ⟨nd, inN, srt, _⟩ := ok
    have hp := hp m ps rfl
    have pl : ps.length < 4000 := by
      rw [szT_node] at hl
      have := len_sz ps
      omega
    rw [encT_node, defF_ap, st]
    unfold b_is_tree
    have okn : ∀ x ∈ ps.map (·.1), PyData.strOk x = true := fun x hx => hns x (inN x hx)
    have s2 : (tOrD (asB (eOp dNotIn (eOp dIx (eVar 0) (eC (.int 0))) (eTup (aCons (eC (.str "map")) (aCons (eC (.str "list")) aNil))))) (tNotD (eTru (eCall 2 fp [] (aCons (eOp dIx (eVar 0) (eC (.int 1))) (aCons (eOp dSub (eVar 1) (eC (.int 1))) aNil)))))) [some (.tup [.str (kindS m), .pt (ps.map encPr)]), some (.int rm), none, none, none] G = .ok false G := by
      have tp : eTup (aCons (eC (.str "map")) (aCons (eC (.str "list")) aNil)) [some (.tup [.str (kindS m), .pt (ps.map encPr)]), some (.int rm), none, none, none] G = .ok (.tup [.str "map", .str "list"]) G := by simp [sz2]
      have r1 : eOp dSub (eVar 1) (eC (.int 1)) [some (.tup [.str (kindS m), .pt (ps.map encPr)]), some (.int rm), none, none, none] G = .ok (.int (rm - 1)) G := by simp
      simp only [ap_tOr, ap_asB, ap_eOp (f := dNotIn), ix0, R.bind_ok, tp, in_kinds, if_false, Bool.false_eq_true, ap_tNot, ap_eTru, ap_eCall, ap_aCons, ix1, r1, ap_aNil, List.append_nil, List.length_cons, List.length_nil, Nat.zero_add, Nat.reduceAdd, if_true, hp, truD_bl, Bool.not_true]
    have l1 : lcL (fun _ => true) (gTp 2 (gsCons (gNm 3) (gsCons (gNm 4) gsNil))) tYesD (eVar 3) [some (.tup [.str (kindS m), .pt (ps.map encPr)]), some (.int rm), none, none, none] (ps.map encPr) [] G = .ok ([] ++ (ps.map encPr).map fun d => match d with | .tup (n :: _) => n | _ => .non) G := by
      refine lcL_map _ (fun d => match d with | .tup [a, b] => [some (.tup [.str (kindS m), .pt (ps.map encPr)]), some (.int rm), none, some a, some b] | _ => []) (fun d hd => ?_) (fun d hd => ?_) (by simp only [List.length_nil, List.length_map, Nat.zero_add]; exact Nat.le_trans (by omega : ps.length ≤ 4000) (by decide))
      · obtain ⟨p, _, rfl⟩ := List.mem_map.mp hd
        simp [encPr]
      · obtain ⟨p, _, rfl⟩ := List.mem_map.mp hd
        simp [encPr]
    have nm : (ps.map encPr).map (fun d => match d with | .tup (n :: _) => n | _ => .non) = (ps.map (·.1)).map D.str := by
      rw [List.map_map, List.map_map]; rfl
    rw [nm, List.nil_append] at l1
    have s3 : sSet 2 (eLc mkF (iSeq (eOp dIx (eVar 0) (eC (.int 1)))) (gTp 2 (gsCons (gNm 3) (gsCons (gNm 4) gsNil))) tYesD (eVar 3) [3, 4]) [some (.tup [.str (kindS m), .pt (ps.map encPr)]), some (.int rm), none, none, none] G = .nx [some (.tup [.str (kindS m), .pt (ps.map encPr)]), some (.int rm), some (.lst ((ps.map (·.1)).map D.str)), none, none] G := by
      have it : iSeq (eOp dIx (eVar 0) (eC (.int 1))) [some (.tup [.str (kindS m), .pt (ps.map encPr)]), some (.int rm), none, none, none] G = .ok ⟨ps.map encPr, fun _ => true⟩ G := by
        simp only [ap_iSeq, ix1, R.bind_ok, itsD_pt]
      have wd : wipeD [some (D.tup [.str (kindS m), .pt (ps.map encPr)]), some (.int rm), none, none, none] [3, 4] = [some (.tup [.str (kindS m), .pt (ps.map encPr)]), some (.int rm), none, none, none] := rfl
      simp only [ap_sSet, ap_eLc, it, R.bind_ok, wd, if_true, l1, ap_mkF, R.thn_ok]
      rfl
    have s4 : sRet (eOr (eOp dEq (eOp dIx (eVar 0) (eC (.int 0))) (eC (.str "list"))) (eOp dEq (eVar 2) (eCB (one (dSorted2 mkF)) (aCons (eVar 2) aNil)))) [some (.tup [.str (kindS m), .pt (ps.map encPr)]), some (.int rm), some (.lst ((ps.map (·.1)).map D.str)), none, none] G = .rt (.bl true) G := by
      have a1 : eOp dEq (eOp dIx (eVar 0) (eC (.int 0))) (eC (.str "list")) [some (.tup [.str (kindS m), .pt (ps.map encPr)]), some (.int rm), some (.lst ((ps.map (·.1)).map D.str)), none, none] G = .ok (.bl (!m)) G := by
        simp only [ap_eOp (f := dEq), ix0, R.bind_ok, ap_eC, dEq_str G (ok_kind m) ok_list, eq_list]
      rw [ap_sRet, ap_eOr, a1]
      cases m with
      | false => simp
      | true =>
        have a2 : eOp dEq (eVar 2) (eCB (one (dSorted2 mkF)) (aCons (eVar 2) aNil)) [some (.tup [.str (kindS true), .pt (ps.map encPr)]), some (.int rm), some (.lst ((ps.map (·.1)).map D.str)), none, none] G = .ok (.bl true) G := by
          have e2 : eVar 2 [some (D.tup [.str (kindS true), .pt (ps.map encPr)]), some (.int rm), some (.lst ((ps.map (·.1)).map D.str)), none, none] G = .ok (.lst ((ps.map (·.1)).map D.str)) G := rfl
          simp only [ap_eOp, e2, R.bind_ok, ap_eCB, ap_aCons, ap_aNil, ap_one, dSorted2_strs okn, sortS_id (srt rfl), dEq_strs okn okn, decide_true]
        simp only [R.bind_ok, Bool.not_true, truD_bl, a2, R.thn_ok]
    simp only [ap_sSeq, ap_sIf, two, R.thn_ok, if_false, Bool.false_eq_true, ap_sNext, RS.seq_nx, isv _ _ _ _ _ _ (ok_kind m), ne_value, s2, s3, s4]
end K03
end CF
end
section
set_option maxRecDepth 100000
set_option maxHeartbeats 4000000
namespace CF
namespace K03
open PySem PySem.Spec PyProof.Rows L2
noncomputable def F_int : List D → GH → R D := defF ["value"] b_is_integer
theorem m_int_i (i : Int) (G : GH) : defF ["value"] b_is_integer [.int i] G = .ok (.bl true) G := by
  simp [defF_ap, startD, b_is_integer, isiB]
theorem m_int_s (x : Str) (G : GH) : defF ["value"] b_is_integer [.str x] G = .ok (.bl false) G := by
  simp [defF_ap, startD, b_is_integer, isiB]
theorem m_intOk : IntOk F_int := ⟨fun i G => m_int_i i G, fun x G => m_int_s x G⟩
noncomputable def F_ist : Nat → List D → GH → R D
  | 0 => fNo
  | k + 1 => defF N_tr (b_is_tree F_int (defF N_pairs (b_is_pairs F_name (F_ist k))))
def nsOk (ns : List Str) : Prop := ∀ n ∈ ns, nmOk n = true ∧ PyData.strOk n = true
theorem sz_mem {ps : List (Str × Tr)} {p : Str × Tr} (h : p ∈ ps) : 1 + szT p.2 ≤ (ps.map fun p => 1 + szT p.2).sum := by
  induction ps with
  | nil => cases h
  | cons q r ih =>
    simp only [List.map_cons, List.sum_cons]
    rcases List.mem_cons.mp h with rfl | h
    · omega
    · have := ih h; omega
theorem m_ist {ns : List Str} (hns : nsOk ns) : ∀ (r k : Nat) (t : Tr) (rm : Int) (G : GH), r ≤ k → okT ns r t → (r : Int) ≤ rm → szT t < 4000 → F_ist k [encT t, .int rm] G = .ok (.bl true) G
  | 0, _, _, _, _, _, h, _, _ => h.elim
  | r + 1, 0, _, _, _, h, _, _, _ => by omega
  | r + 1, k + 1, t, rm, G, hk, ok, hr, hl => by
    refine m_is_tree m_intOk (fun n hn => (hns n hn).2) r t rm G ok (by omega) (fun m ps e => ?_) hl
    subst e
    obtain ⟨nd, inN, srt, sub⟩ := ok
    rw [szT_node] at hl
    refine m_pairs m_name ps (rm - 1) G nd (fun n hn => (hns n (inN n hn)).1) (fun p hp => ?_) (by have := len_sz ps; omega)
    exact m_ist hns r k p.2 (rm - 1) G (by omega) (sub p hp) (by omega) (by have := sz_mem hp; omega)
/-! ### count_of -/
abbrev N_cnt : List Str := ["tree", "name", "node"]
noncomputable def F_cnt : Nat → List D → GH → R D
  | 0 => fNo
  | k + 1 => defF N_cnt (b_count_of (F_cnt k))
theorem ix_tup0 (a b : D) (δ : DEnv) (G : GH) : eOp dIx (eVar 0) (eC (.int 0)) (some (.tup [a, b]) :: δ) G = .ok a G := by simp
theorem ix_tup1 (a b : D) (δ : DEnv) (G : GH) : eOp dIx (eVar 0) (eC (.int 1)) (some (.tup [a, b]) :: δ) G = .ok b G := by simp
theorem is_value (x : Str) (b : D) (δ : DEnv) (G : GH) (hx : PyData.strOk x = true) : asB (eOp dEq (eOp dIx (eVar 0) (eC (.int 0))) (eC (.str "value"))) (some (.tup [.str x, b]) :: δ) G = .ok (x == "value") G := by
  simp only [ap_asB, ap_eOp (f := dEq), ix_tup0, R.bind_ok, ap_eC, dEq_str G hx ok_value]
theorem m_cnt {ns : List Str} : ∀ (r k : Nat) (t : Tr) (G : GH), r ≤ k → okT ns r t → szT t < 4000 → F_cnt k [encT t] G = .ok (.int (szT t)) G
  | 0, _, _, _, _, h, _ => h.elim
  | r + 1, 0, _, _, h, _, _ => by omega
  | r + 1, k + 1, t, G, hk, ok, hl => by
    have st : ∀ a : D, startD N_cnt [a] = [some a, none, none] := fun _ => rfl
    show defF N_cnt (b_count_of (F_cnt k)) [encT t] G = _
    have z : ∀ b : D, sRet (eC (.int 0)) [some (.tup [.str "value", b]), none, none] G = .rt (.int 0) G := fun _ => rfl
    cases t with
    | val i =>
      rw [encT_val, defF_ap, st]
      unfold b_count_of
      simp only [ap_sSeq, ap_sIf, is_value _ _ _ _ ok_value, R.thn_ok, vv, if_true, z, RS.seq_rt, szT]
      rfl
    | txt i =>
      rw [encT_txt, defF_ap, st]
      unfold b_count_of
      simp only [ap_sSeq, ap_sIf, is_value _ _ _ _ ok_value, R.thn_ok, vv, if_true, z, RS.seq_rt, szT]
      rfl
    | node m ps =>
      obtain ⟨nd, inN, srt, sub⟩ := ok
      rw [szT_node] at hl
      have pl : ps.length < 4000 := by have := len_sz ps; omega
      rw [encT_node, defF_ap, st, szT_node]
      unfold b_count_of
      have l1 : lcL (fun _ => true) (gTp 2 (gsCons (gNm 1) (gsCons (gNm 2) gsNil))) tYesD (eOp (dAdd mkF) (eC (.int 1)) (eCall 1 (F_cnt k) [] (aCons (eVar 2) aNil))) [some (.tup [.str (kindS m), .pt (ps.map encPr)]), none, none] (ps.map encPr) [] G = .ok ([] ++ ps.map fun p => D.int ((1 + szT p.2 : Nat) : Int)) G := by
        clear nd inN srt
        have key : ∀ (qs : List (Str × Tr)) (acc : List D), (∀ p ∈ qs, p ∈ ps) → acc.length + qs.length < 4000 → lcL (fun _ => true) (gTp 2 (gsCons (gNm 1) (gsCons (gNm 2) gsNil))) tYesD (eOp (dAdd mkF) (eC (.int 1)) (eCall 1 (F_cnt k) [] (aCons (eVar 2) aNil))) [some (.tup [.str (kindS m), .pt (ps.map encPr)]), none, none] (qs.map encPr) acc G = .ok (acc ++ qs.map fun p => D.int ((1 + szT p.2 : Nat) : Int)) G := by
          intro qs
          induction qs with
          | nil => intro acc _ _; simp [lcL]
          | cons q qs ih =>
            intro acc hm hz
            rw [List.length_cons] at hz
            have sz1 : acc.length < sizeLine := Nat.lt_of_lt_of_le (by omega : acc.length < 4000) (by decide)
            have e := m_cnt r k q.2 G (by omega) (sub q (hm q (.head _))) (by have := sz_mem (hm q (.head _)); omega)
            have ih := ih (acc ++ [D.int ((1 + szT q.2 : Nat) : Int)]) (fun p hp => hm p (.tail _ hp)) (by simp; omega)
            rw [List.map_cons]
            unfold lcL
            have ev : gTp 2 (gsCons (gNm 1) (gsCons (gNm 2) gsNil)) (encPr q) [some (.tup [.str (kindS m), .pt (ps.map encPr)]), none, none] G = .nx [some (.tup [.str (kindS m), .pt (ps.map encPr)]), some (.str q.1), some (encT q.2)] G := by simp [encPr]
            have ef : eOp (dAdd mkF) (eC (.int 1)) (eCall 1 (F_cnt k) [] (aCons (eVar 2) aNil)) [some (.tup [.str (kindS m), .pt (ps.map encPr)]), some (.str q.1), some (encT q.2)] G = .ok (.int ((1 + szT q.2 : Nat) : Int)) G := by
              simp [e]
            rw [ev]
            dsimp only
            rw [ap_tYes, R.nox_ok, R.bind_ok, if_pos rfl, ef, R.nox_ok, R.bind_ok]
            rw [if_pos (by simp [sz1]), ih]
            simp
        exact key ps [] (fun p hp => hp) (by simpa using pl)
      have s2 : sRet (eCB (one dSum) (aCons (eLc mkF (iSeq (eOp dIx (eVar 0) (eC (.int 1)))) (gTp 2 (gsCons (gNm 1) (gsCons (gNm 2) gsNil))) tYesD (eOp (dAdd mkF) (eC (.int 1)) (eCall 1 (F_cnt k) [] (aCons (eVar 2) aNil))) [1, 2]) aNil)) [some (.tup [.str (kindS m), .pt (ps.map encPr)]), none, none] G = .rt (.int ((ps.map fun p => 1 + szT p.2).sum : Nat)) G := by
        have it : iSeq (eOp dIx (eVar 0) (eC (.int 1))) [some (.tup [.str (kindS m), .pt (ps.map encPr)]), none, none] G = .ok ⟨ps.map encPr, fun _ => true⟩ G := by simp only [ap_iSeq, ix_tup1, R.bind_ok, itsD_pt]
        have wd : wipeD [some (D.tup [.str (kindS m), .pt (ps.map encPr)]), none, none] [1, 2] = [some (.tup [.str (kindS m), .pt (ps.map encPr)]), none, none] := rfl
        have su := dSum_ints G (ps.map fun p => ((1 + szT p.2 : Nat) : Int))
        rw [List.map_map] at su
        have sm : ∀ qs : List (Str × Tr), (qs.map fun p => ((1 + szT p.2 : Nat) : Int)).sum = (((qs.map fun p => 1 + szT p.2).sum : Nat) : Int) := by
          intro qs
          induction qs with
          | nil => rfl
          | cons q qs ih => simp only [List.map_cons, List.sum_cons, ih]; omega
        rw [sm] at su
        simp only [ap_sRet, ap_eCB, ap_aCons, ap_eLc, it, R.bind_ok, wd, if_true, l1, ap_mkF, ap_aNil, ap_one, List.nil_append]
        rw [show (fun p : Str × Tr => D.int ((1 + szT p.2 : Nat) : Int)) = D.int ∘ (fun p => ((1 + szT p.2 : Nat) : Int)) from rfl, su]
        rfl
      simp only [ap_sSeq, ap_sIf, is_value _ _ _ _ (ok_kind m), R.thn_ok, ne_value, if_false, Bool.false_eq_true, ap_sNext, RS.seq_nx, s2]
end K03
end CF
end
section
set_option maxRecDepth 100000
set_option maxHeartbeats 4000000
namespace CF
namespace K03
open PySem PySem.Spec PyProof.Rows L2
noncomputable def F_chk (k : Nat) : List D → GH → R D := defF ["tree"] (b_check_tree (F_ist k) (F_cnt k))
theorem m_chk {ns : List Str} (hns : nsOk ns) {k : Nat} (t : Tr) (G : GH) (ok : okT ns 6 t) (hk : 6 ≤ k) (hl : szT t ≤ 320) : F_chk k [encT t] G = .ok .non G := by
  have e1 := m_ist hns 6 k t 6 G hk ok (by decide) (by omega)
  have e2 := m_cnt 6 k t G hk ok (by omega)
  have st : startD ["tree"] [encT t] = [some (encT t)] := rfl
  have q : ¬ (320 : Int) < (szT t : Int) := by omega
  unfold F_chk b_check_tree
  rw [defF_ap, st]
  have s1 : (tNotD (eTru (eCall 2 (F_ist k) (.int 6 :: []) (aCons (eVar 0) aNil)))) [some (encT t)] G = .ok false G := by
    have a : aCons (eVar 0) aNil [some (encT t)] G = .ok [encT t] G := rfl
    simp only [ap_tNot, ap_eTru, ap_eCall, a, R.bind_ok, List.cons_append, List.nil_append, List.length_cons, List.length_nil, Nat.zero_add, Nat.reduceAdd, if_true, e1, truD_bl, Bool.not_true]
  have s2 : asB (eOp dGt (eCall 1 (F_cnt k) [] (aCons (eVar 0) aNil)) (eC (.int (320)))) [some (encT t)] G = .ok false G := by
    have a : aCons (eVar 0) aNil [some (encT t)] G = .ok [encT t] G := rfl
    simp only [ap_asB, ap_eOp, ap_eCall, a, R.bind_ok, List.append_nil, List.length_cons, List.length_nil, Nat.zero_add, if_true, e2, ap_eC, dIB_ap, q, decide_false]
  simp only [ap_sSeq, ap_sIf, s1, R.thn_ok, if_false, Bool.false_eq_true, ap_sNext, RS.seq_nx, s2]
/-! ### sorted_lists -/
def leK (a b : Str × Tr) : Bool := leS a.1 b.1
mutual
def canT : Tr → Tr
  | .val i => .val i
  | .txt x => .txt x
  | .node m ps => .node m ((canP ps).mergeSort leK)
def canP : List (Str × Tr) → List (Str × Tr)
  | [] => []
  | (n, t) :: r => (n, canT t) :: canP r
end
theorem canP_map : ∀ ps : List (Str × Tr), canP ps = ps.map fun p => (p.1, canT p.2)
  | [] => by rw [canP]; rfl
  | (n, t) :: r => by rw [canP, canP_map r]; rfl
theorem canT_node (m : Bool) (ps : List (Str × Tr)) : canT (.node m ps) = .node m ((ps.map fun p => (p.1, canT p.2)).mergeSort leK) := by rw [canT, canP_map]
theorem sort_names (l : List (Str × Tr)) : (l.mergeSort leK).map (·.1) = sortS (l.map (·.1)) := PySem.W.sort_maps (r := leK) (s := leS) (·.1) fun _ _ _ _ => rfl
theorem pairsD_enc : ∀ ps : List (Str × Tr), pairsD (ps.map encPr) = some (ps.map fun p => ((Sum.inr p.1 : Key), encT p.2))
  | [] => rfl
  | p :: ps => by
    rw [List.map_cons, pairsD, pairsD_enc ps]
    rfl
theorem putD_new {κ : Type} [DecidableEq κ] {kds : List (κ × D)} {k : κ} {d : D} (h : k ∉ kds.map (·.1)) : putD kds k d = kds ++ [(k, d)] := by
  unfold putD
  rw [if_neg]
  intro q
  obtain ⟨p, hp, e⟩ := List.any_eq_true.mp q
  exact h (List.mem_map.mpr ⟨p, hp, of_decide_eq_true e⟩)
theorem mergeD_new {κ : Type} [DecidableEq κ] : ∀ {more kds : List (κ × D)}, ((kds ++ more).map (·.1)).Nodup → mergeD kds more = kds ++ more
  | [], kds, _ => by simp [mergeD]
  | p :: more, kds, h => by
    have hp : p.1 ∉ kds.map (·.1) := fun q => by
      rw [List.map_append, List.map_cons] at h
      exact (List.nodup_append.mp h).2.2 _ q _ (.head _) rfl
    show mergeD (putD kds p.1 p.2) more = _
    rw [putD_new hp, mergeD_new (by simpa using h)]
    simp
theorem dict_enc {ps : List (Str × Tr)} (nd : (ps.map (·.1)).Nodup) (G : GH) : dDict mkKF (.pt (ps.map encPr)) G = .ok (.dK (ps.map fun p => ((Sum.inr p.1 : Key), encT p.2))) G := by
  show (match pairsD (ps.map encPr) with | some kds => mkKF (mergeD [] kds) G | none => .no) = _
  rw [pairsD_enc]
  dsimp only
  rw [mergeD_new]
  · rfl
  · rw [List.nil_append, List.map_map]
    have : (Prod.fst ∘ fun p : Str × Tr => ((Sum.inr p.1 : Key), encT p.2)) = (Sum.inr : Str → Key) ∘ (·.1) := rfl
    rw [this, ← List.map_map]
    exact List.pairwise_map.mpr (nd.imp fun h e => h (Sum.inr.inj e))
theorem inr_mapM : ∀ ps : List (Str × Tr), ((ps.map fun p => ((Sum.inr p.1 : Key), encT p.2)).mapM fun kd => match kd.1 with | .inr k => some k | .inl _ => none) = some (ps.map (·.1))
  | [] => rfl
  | p :: ps => by
    rw [List.map_cons, List.mapM_cons, inr_mapM ps]
    rfl
theorem sorted_enc (ps : List (Str × Tr)) (G : GH) : dSorted2 mkF (.dK (ps.map fun p => ((Sum.inr p.1 : Key), encT p.2))) G = .ok (.lst ((sortS (ps.map (·.1))).map D.str)) G := by
  unfold dSorted2
  rw [dKOf_dK]
  dsimp only
  erw [inr_mapM]
  rfl
theorem look_enc : ∀ {ps : List (Str × Tr)} {p : Str × Tr}, (ps.map (·.1)).Nodup → p ∈ ps → lookK (ps.map fun p => ((Sum.inr p.1 : Key), encT p.2)) (.inr p.1) = some (encT p.2)
  | q :: ps, p, nd, h => by
    rw [List.map_cons, List.nodup_cons] at nd
    by_cases e : q.1 = p.1
    · have : q = p := by
        rcases List.mem_cons.mp h with rfl | h
        · rfl
        · exact absurd (List.mem_map.mpr ⟨p, h, e.symm⟩) nd.1
      subst this
      simp [lookK]
    · have hp : p ∈ ps := (List.mem_cons.mp h).resolve_left fun z => e (by rw [z])
      have ih := look_enc nd.2 hp
      have ne : ¬ (Sum.inr q.1 : Key) = Sum.inr p.1 := fun z => e (Sum.inr.inj z)
      simp only [lookK, List.map_cons, List.find?_cons, ne, decide_false] at ih ⊢
      exact ih
theorem ix_enc {ps : List (Str × Tr)} {p : Str × Tr} (nd : (ps.map (·.1)).Nodup) (h : p ∈ ps) (G : GH) : dIx (.dK (ps.map fun p => ((Sum.inr p.1 : Key), encT p.2))) (.str p.1) G = .ok (encT p.2) G := by
  show (match dGetO G (.dK (ps.map fun p => ((Sum.inr p.1 : Key), encT p.2))) (.str p.1) with | some (some d) => R.ok d G | _ => .no) = _
  unfold dGetO
  rw [dKOf_dK, keyD_str]
  dsimp only
  rw [look_enc nd h]
abbrev N_sl : List Str := ["tree", "names", "name"]
noncomputable def F_sl : Nat → List D → GH → R D
  | 0 => fNo
  | k + 1 => defF N_sl (b_sorted_lists (F_sl k))
theorem m_sl {ns : List Str} : ∀ (r k : Nat) (t : Tr) (G : GH), r ≤ k → okT ns r t → szT t < 4000 → F_sl k [encT t] G = .ok (encT (canT t)) G
  | 0, _, _, _, _, h, _ => h.elim
  | r + 1, 0, _, _, h, _, _ => by omega
  | r + 1, k + 1, t, G, hk, ok, hl => by
    have st : ∀ a : D, startD N_sl [a] = [some a, none, none] := fun _ => rfl
    show defF N_sl (b_sorted_lists (F_sl k)) [encT t] G = _
    have z : ∀ b : D, sRet (eVar 0) [some b, none, none] G = .rt b G := fun _ => rfl
    cases t with
    | val i =>
      rw [encT_val, defF_ap, st]
      unfold b_sorted_lists
      simp only [ap_sSeq, ap_sIf, is_value _ _ _ _ ok_value, R.thn_ok, vv, if_true, z, RS.seq_rt, canT, encT_val]
    | txt i =>
      rw [encT_txt, defF_ap, st]
      unfold b_sorted_lists
      simp only [ap_sSeq, ap_sIf, is_value _ _ _ _ ok_value, R.thn_ok, vv, if_true, z, RS.seq_rt, canT, encT_txt]
    | node m ps =>
      obtain ⟨nd, inN, srt, sub⟩ := ok
      rw [szT_node] at hl
      have pl : ps.length < 4000 := by have := len_sz ps; omega
      rw [encT_node, defF_ap, st, canT_node, encT_node]
      unfold b_sorted_lists
      have sz2 : (2 : Nat) ≤ sizeLine := by decide
      have dd : ∀ a b : Option D, eCB (one (dDict mkKF)) (aCons (eOp dIx (eVar 0) (eC (.int 1))) aNil) [some (.tup [.str (kindS m), .pt (ps.map encPr)]), a, b] G = .ok (.dK (ps.map fun p => ((Sum.inr p.1 : Key), encT p.2))) G := fun a b => by
        simp only [ap_eCB, ap_aCons, ix_tup1, R.bind_ok, ap_aNil, ap_one, dict_enc nd]
      have s1 : sSet 1 (eCB (one (dSorted2 mkF)) (aCons (eCB (one (dDict mkKF)) (aCons (eOp dIx (eVar 0) (eC (.int 1))) aNil)) aNil)) [some (.tup [.str (kindS m), .pt (ps.map encPr)]), none, none] G = .nx [some (.tup [.str (kindS m), .pt (ps.map encPr)]), some (.lst ((sortS (ps.map (·.1))).map D.str)), none] G := by
        simp only [ap_sSet, ap_eCB (f := one (dSorted2 mkF)), ap_aCons (f := eCB (one (dDict mkKF)) (aCons (eOp dIx (eVar 0) (eC (.int 1))) aNil)), dd, R.bind_ok, ap_aNil, ap_one, sorted_enc, R.thn_ok]
        rfl
      obtain ⟨qs, eq⟩ : ∃ qs, qs = (ps.map fun p => (p.1, canT p.2)).mergeSort leK := ⟨_, rfl⟩
      have nq : sortS (ps.map (·.1)) = qs.map (·.1) := by
        rw [eq, sort_names, List.map_map]; rfl
      have mq : ∀ q ∈ qs, ∃ p ∈ ps, q = (p.1, canT p.2) := fun q hq => by
        rw [eq] at hq
        obtain ⟨p, hp, e⟩ := List.mem_map.mp (List.mem_mergeSort.mp hq)
        exact ⟨p, hp, e.symm⟩
      have lq : qs.length = ps.length := by rw [eq, List.length_mergeSort, List.length_map]
      have key : ∀ (us : List (Str × Tr)) (acc : List D), (∀ q ∈ us, q ∈ qs) → acc.length + us.length < 4000 → lcL (fun _ => true) (gNm 2) tYesD (eTup (aCons (eVar 2) (aCons (eCall 1 (F_sl k) [] (aCons (eOp dIx (eCB (one (dDict mkKF)) (aCons (eOp dIx (eVar 0) (eC (.int 1))) aNil)) (eVar 2)) aNil)) aNil)))
          [some (.tup [.str (kindS m), .pt (ps.map encPr)]), some (.lst ((qs.map (·.1)).map D.str)), none] ((us.map (·.1)).map D.str) acc G = .ok (acc ++ us.map encPr) G := by
        intro us
        induction us with
        | nil => intro acc _ _; simp [lcL]
        | cons u us ih =>
          intro acc hm hz
          rw [List.length_cons] at hz
          obtain ⟨p, hp, eu⟩ := mq u (hm u (.head _))
          have sz1 : acc.length < sizeLine := Nat.lt_of_lt_of_le (by omega : acc.length < 4000) (by decide)
          have e := m_sl r k p.2 G (by omega) (sub p hp) (by have := sz_mem hp; omega)
          have ih := ih (acc ++ [encPr u]) (fun p hp => hm p (.tail _ hp)) (by simp; omega)
          rw [List.map_cons, List.map_cons]
          unfold lcL
          have ef : eTup (aCons (eVar 2) (aCons (eCall 1 (F_sl k) [] (aCons (eOp dIx (eCB (one (dDict mkKF)) (aCons (eOp dIx (eVar 0) (eC (.int 1))) aNil)) (eVar 2)) aNil)) aNil)) [some (.tup [.str (kindS m), .pt (ps.map encPr)]), some (.lst ((qs.map (·.1)).map D.str)), some (.str u.1)] G = .ok (encPr u) G := by
            have v2 : eVar 2 [some (D.tup [.str (kindS m), .pt (ps.map encPr)]), some (.lst ((qs.map (·.1)).map D.str)), some (.str u.1)] G = .ok (.str u.1) G := rfl
            subst eu
            have ix := ix_enc nd hp G
            have dx : eOp dIx (eCB (one (dDict mkKF)) (aCons (eOp dIx (eVar 0) (eC (.int 1))) aNil)) (eVar 2) [some (.tup [.str (kindS m), .pt (ps.map encPr)]), some (.lst ((qs.map (·.1)).map D.str)), some (.str p.1)] G = .ok (encT p.2) G := by
              rw [ap_eOp, dd, R.bind_ok, v2, R.bind_ok, ix]
            simp only [ap_eTup, ap_aCons, v2, R.bind_ok, ap_eCall, dx, ap_aNil, List.append_nil, List.length_cons, List.length_nil, Nat.zero_add, if_true, e, Nat.reduceAdd, sz2]
            rfl
          have eg : gNm 2 (D.str u.1) [some (D.tup [.str (kindS m), .pt (ps.map encPr)]), some (.lst ((qs.map (·.1)).map D.str)), none] G = .nx [some (.tup [.str (kindS m), .pt (ps.map encPr)]), some (.lst ((qs.map (·.1)).map D.str)), some (.str u.1)] G := rfl
          rw [eg]
          dsimp only
          rw [ap_tYes, R.nox_ok, R.bind_ok, if_pos rfl, ef, R.nox_ok, R.bind_ok]
          rw [if_pos (by simp [sz1]), ih]
          simp
      have l1 := key qs [] (fun q h => h) (by simp; omega)
      rw [List.nil_append] at l1
      have s2 : sRet (eTup (aCons (eOp dIx (eVar 0) (eC (.int 0))) (aCons (eCB (one dTupP) (aCons (eLc mkF (iSeq (eVar 1)) (gNm 2) tYesD (eTup (aCons (eVar 2) (aCons (eCall 1 (F_sl k) [] (aCons (eOp dIx (eCB (one (dDict mkKF)) (aCons (eOp dIx (eVar 0) (eC (.int 1))) aNil)) (eVar 2)) aNil)) aNil))) [2]) aNil)) aNil))) [some (.tup [.str (kindS m), .pt (ps.map encPr)]), some (.lst ((qs.map (·.1)).map D.str)), none] G = .rt (.tup [.str (kindS m), .pt (qs.map encPr)]) G := by
        have it : iSeq (eVar 1) [some (.tup [.str (kindS m), .pt (ps.map encPr)]), some (.lst ((qs.map (·.1)).map D.str)), none] G = .ok ⟨(qs.map (·.1)).map D.str, fun _ => true⟩ G := rfl
        have wd : wipeD [some (D.tup [.str (kindS m), .pt (ps.map encPr)]), some (.lst ((qs.map (·.1)).map D.str)), none] [2] = [some (.tup [.str (kindS m), .pt (ps.map encPr)]), some (.lst ((qs.map (·.1)).map D.str)), none] := rfl
        have lc : eCB (one dTupP) (aCons (eLc mkF (iSeq (eVar 1)) (gNm 2) tYesD (eTup (aCons (eVar 2) (aCons (eCall 1 (F_sl k) [] (aCons (eOp dIx (eCB (one (dDict mkKF)) (aCons (eOp dIx (eVar 0) (eC (.int 1))) aNil)) (eVar 2)) aNil)) aNil))) [2]) aNil) [some (.tup [.str (kindS m), .pt (ps.map encPr)]), some (.lst ((qs.map (·.1)).map D.str)), none] G = .ok (.pt (qs.map encPr)) G := by
          rw [ap_eCB, ap_aCons, ap_eLc, it, R.bind_ok, if_pos rfl, wd, l1, R.bind_ok, ap_mkF, R.bind_ok, ap_aNil, R.bind_ok, R.bind_ok, ap_one, dTupP_lst]
        rw [ap_sRet, ap_eTup, ap_aCons, ix_tup0, R.bind_ok, ap_aCons, lc, R.bind_ok, ap_aNil, R.bind_ok, R.bind_ok, R.bind_ok, if_pos (show [D.str (kindS m), D.pt (qs.map encPr)].length ≤ sizeLine from sz2), R.thn_ok]
      rw [nq] at s1
      rw [← eq]
      simp only [ap_sSeq, ap_sIf, is_value _ _ _ _ (ok_kind m), R.thn_ok, ne_value, if_false, Bool.false_eq_true, ap_sNext, RS.seq_nx, s1, s2]
end K03
end CF
end
section
set_option maxRecDepth 100000
set_option maxHeartbeats 4000000
namespace CF
namespace K03
open PySem PySem.Spec PyProof.Rows L2
mutual
def pyT : Tr → PyData
  | .val i => .tuple [.str "value", .int i]
  | .txt x => .tuple [.str "value", .str x]
  | .node m ps => .tuple [.str (kindS m), .tuple (pyP ps)]
def pyP : List (Str × Tr) → List PyData
  | [] => []
  | (n, t) :: r => .tuple [.str n, pyT t] :: pyP r
end
theorem txt_ok {x : Str} (h : okS x = true) : PyData.strOk x = true := (Bool.and_eq_true_iff.mp (Bool.and_eq_true_iff.mp h).1).1
theorem py_enc {ns : List Str} (hns : ∀ n ∈ ns, PyData.strOk n = true) : ∀ (r : Nat) (t : Tr), okT ns r t → (encT t).py = some (pyT t) ∧ (pyT t).depth ≤ 3 * r
  | 0, _, h => h.elim
  | r + 1, .val i, h => by
    rw [encT_val, pyT]
    simp [D.py, D.pyAll, ok_value, PyData.depth, PyData.depthAll]
    omega
  | r + 1, .txt x, h => by
    have hx := txt_ok (show okS x = true from h)
    rw [encT_txt, pyT]
    simp [D.py, D.pyAll, ok_value, hx, PyData.depth, PyData.depthAll]
    omega
  | r + 1, .node m ps, ⟨nd, inN, srt, sub⟩ => by
    have key : ∀ qs : List (Str × Tr), (∀ q ∈ qs, q.1 ∈ ns ∧ okT ns r q.2) → D.pyAll (qs.map encPr) = some (pyP qs) ∧ PyData.depthAll (pyP qs) ≤ 3 * r + 1 := by
      intro qs
      induction qs with
      | nil => intro _; rw [pyP]; simp [D.pyAll, PyData.depthAll]
      | cons q qs ih =>
        intro hq
        obtain ⟨h1, h2⟩ := hq q (.head _)
        obtain ⟨e1, d1⟩ := py_enc hns r q.2 h2
        obtain ⟨e2, d2⟩ := ih fun q hq' => hq q (.tail _ hq')
        obtain ⟨n, t⟩ := q
        rw [pyP, List.map_cons, D.pyAll, e2]
        have e3 : (encPr (n, t)).py = some (.tuple [.str n, pyT t]) := by
          simp [encPr, D.py, D.pyAll, hns n h1, e1]
        rw [e3]
        refine ⟨rfl, ?_⟩
        simp only [PyData.depthAll, PyData.depth]
        have d1' : (pyT t).depth ≤ 3 * r := d1
        omega
    obtain ⟨e, d⟩ := key ps fun q hq => ⟨inN _ (List.mem_map.mpr ⟨q, hq, rfl⟩), sub q hq⟩
    rw [encT_node, pyT]
    refine ⟨by simp [D.py, D.pyAll, ok_kind, e], ?_⟩
    simp only [PyData.depth, PyData.depthAll]
    omega
theorem kind_inj {a b : Bool} (h : kindS a = kindS b) : a = b := by
  cases a <;> cases b <;> first | rfl | exact absurd h (by decide +kernel)
theorem value_ne (m : Bool) : (("value" : Str) == kindS m) = false := by cases m <;> decide +kernel
mutual
theorem eqvT : ∀ a b : Tr, PyData.eqv (pyT a) (pyT b) = true ↔ a = b
  | .val i, .val j => by rw [pyT, pyT]; simp [PyData.eqv, PyData.eqvAll]
  | .val i, .txt j => by rw [pyT, pyT]; simp [PyData.eqv, PyData.eqvAll]
  | .val i, .node m ps => by rw [pyT, pyT]; simp only [PyData.eqv, PyData.eqvAll, value_ne, Bool.false_and]; simp
  | .txt i, .val j => by rw [pyT, pyT]; simp [PyData.eqv, PyData.eqvAll]
  | .txt i, .txt j => by rw [pyT, pyT]; simp [PyData.eqv, PyData.eqvAll]
  | .txt i, .node m ps => by rw [pyT, pyT]; simp only [PyData.eqv, PyData.eqvAll, value_ne, Bool.false_and]; simp
  | .node m ps, .val j => by rw [pyT, pyT]; simp only [PyData.eqv, PyData.eqvAll, ne_value, Bool.false_and]; simp
  | .node m ps, .txt j => by rw [pyT, pyT]; simp only [PyData.eqv, PyData.eqvAll, ne_value, Bool.false_and]; simp
  | .node m ps, .node m' qs => by
    rw [pyT, pyT]
    simp only [PyData.eqv, PyData.eqvAll, Bool.and_true, Bool.and_eq_true, eqvP ps qs, Tr.node.injEq]
    exact ⟨fun ⟨h1, h2⟩ => ⟨kind_inj (eq_of_beq h1), h2⟩, fun ⟨h1, h2⟩ => ⟨by rw [h1]; exact beq_self_eq_true _, h2⟩⟩
theorem eqvP : ∀ ps qs : List (Str × Tr), PyData.eqvAll (pyP ps) (pyP qs) = true ↔ ps = qs
  | [], [] => by rw [pyP]; simp [PyData.eqvAll]
  | [], (n, t) :: r => by rw [pyP, pyP]; simp [PyData.eqvAll]
  | (n, t) :: r, [] => by rw [pyP, pyP]; simp [PyData.eqvAll]
  | (n, t) :: r, (n', t') :: r' => by
    rw [pyP, pyP]
    simp only [PyData.eqv, PyData.eqvAll, Bool.and_true, Bool.and_eq_true, eqvP r r', eqvT t t', List.cons.injEq, Prod.mk.injEq]
    exact ⟨fun ⟨⟨h1, h2⟩, h3⟩ => ⟨⟨eq_of_beq h1, h2⟩, h3⟩, fun ⟨⟨h1, h2⟩, h3⟩ => ⟨⟨by rw [h1]; exact beq_self_eq_true _, h2⟩, h3⟩⟩
end
theorem dEq_trees {ns : List Str} (hns : ∀ n ∈ ns, PyData.strOk n = true) {r : Nat} (hr : r ≤ 20) (a b : Tr) (ha : okT ns r a) (hb : okT ns r b) (G : GH) : ∃ v : Bool, dEq (encT a) (encT b) G = .ok (.bl v) G ∧ (v = true ↔ a = b) := by
  obtain ⟨e1, d1⟩ := py_enc hns r a ha
  obtain ⟨e2, d2⟩ := py_enc hns r b hb
  have rs : ∀ t, res G (encT t) = encT t := fun t => by cases t <;> first | (rw [encT_val]; rfl) | (rw [encT_txt]; rfl) | (rw [encT_node]; rfl)
  refine ⟨PyData.eqv (pyT a) (pyT b), ?_, eqvT a b⟩
  unfold dEq pyEq
  rw [rs, rs, e1, e2]
  dsimp only
  rw [if_pos ⟨by omega, by omega⟩]
theorem okT_can {ns : List Str} : ∀ (r : Nat) (t : Tr), okT ns r t → okT ns r (canT t)
  | 0, _, h => h.elim
  | _ + 1, .val _, h => by rw [canT]; exact h
  | _ + 1, .txt _, h => by rw [canT]; exact h
  | r + 1, .node m ps, ⟨nd, inN, srt, sub⟩ => by
    rw [canT_node]
    have nm : (((ps.map fun p => (p.1, canT p.2)).mergeSort leK)).map (·.1) = sortS (ps.map (·.1)) := by
      rw [sort_names, List.map_map]; rfl
    refine ⟨by rw [nm]; exact (sortS_perm _).nodup_iff.mpr nd, by rw [nm]; exact fun n hn => inN n ((sortS_perm _).mem_iff.mp hn), fun _ => by rw [nm]; exact sortS_sorted _, fun q hq => ?_⟩
    obtain ⟨p, hp, rfl⟩ := List.mem_map.mp (List.mem_mergeSort.mp hq)
    exact okT_can r p.2 (sub p hp)
noncomputable def F_same (k : Nat) : List D → GH → R D := defF ["one", "other"] (b_same_but_orders (F_chk k) (F_sl k))
theorem m_same {ns : List Str} (hns : nsOk ns) {k : Nat} (a b : Tr) (G : GH) (ha : okT ns 6 a) (hb : okT ns 6 b) (hk : 6 ≤ k) (la : szT a ≤ 320) (lb : szT b ≤ 320) : ∃ v : Bool, F_same k [encT a, encT b] G = .ok (.bl v) G ∧ (v = true ↔ canT a = canT b) := by
  obtain ⟨v, e, hv⟩ := dEq_trees (fun n hn => (hns n hn).2) (by decide : 6 ≤ 20) (canT a) (canT b) (okT_can 6 a ha) (okT_can 6 b hb) G
  refine ⟨v, ?_, hv⟩
  have c1 := m_chk hns a G ha hk la
  have c2 := m_chk hns b G hb hk lb
  have s1 := m_sl 6 k a G hk ha (by omega)
  have s2 := m_sl 6 k b G hk hb (by omega)
  have st : startD ["one", "other"] [encT a, encT b] = [some (encT a), some (encT b)] := rfl
  have a0 : aCons (eVar 0) aNil [some (encT a), some (encT b)] G = .ok [encT a] G := rfl
  have a1 : aCons (eVar 1) aNil [some (encT a), some (encT b)] G = .ok [encT b] G := rfl
  unfold F_same b_same_but_orders
  rw [defF_ap, st]
  simp only [ap_sSeq, ap_sDrop, ap_eCall, a0, a1, R.bind_ok, List.append_nil, List.length_cons, List.length_nil, Nat.zero_add, if_true, c1, c2, R.thn_ok, RS.seq_nx, ap_sRet, ap_eOp, s1, s2, e]
end K03
end CF
end
section
set_option maxRecDepth 100000
set_option maxHeartbeats 4000000
namespace CF
namespace K03
open PySem PySem.Spec PyProof.Rows L2
def encW (p : List Str) : D := .tup (p.map D.str)
def encN (q : List Str × Tr) : D := .tup [encW q.1, encT q.2]
mutual
/-- the nodes with their paths -/
def ndT (p : List Str) : Tr → List (List Str × Tr)
  | .val i => [(p, .val i)]
  | .txt x => [(p, .txt x)]
  | .node m ps => (p, .node m ps) :: ndP p ps
def ndP (p : List Str) : List (Str × Tr) → List (List Str × Tr)
  | [] => []
  | (n, t) :: r => ndT (p ++ [n]) t ++ ndP p r
end
theorem ndT_len : ∀ (p : List Str) (t : Tr), (ndT p t).length = 1 + szT t := by
  have key : ∀ (s : Nat) (p : List Str) (t : Tr), szT t ≤ s → (ndT p t).length = 1 + szT t := by
    intro s
    induction s with
    | zero =>
      intro p t h
      cases t with
      | val i => rw [ndT, szT]; rfl
      | txt i => rw [ndT, szT]; rfl
      | node m ps =>
        rw [szT] at h ⊢
        cases ps with
        | nil => rw [ndT, ndP, szP]; rfl
        | cons q r => obtain ⟨n, t⟩ := q; rw [szP] at h; omega
    | succ s ih =>
      intro p t h
      cases t with
      | val i => rw [ndT, szT]; rfl
      | txt i => rw [ndT, szT]; rfl
      | node m ps =>
        rw [szT] at h
        rw [ndT, szT]
        have go : ∀ qs : List (Str × Tr), szP qs ≤ s + 1 → (ndP p qs).length = szP qs := by
          intro qs
          induction qs with
          | nil => intro _; rw [ndP, szP]; rfl
          | cons q qs ihq =>
            intro hq
            obtain ⟨n, t⟩ := q
            rw [szP] at hq
            rw [ndP, szP, List.length_append, ih (p ++ [n]) t (by omega), ihq (by omega)]
        rw [List.length_cons, go ps h]
        omega
  exact fun p t => key _ p t (Nat.le_refl _)
theorem ndP_len (p : List Str) : ∀ ps : List (Str × Tr), (ndP p ps).length = szP ps
  | [] => by rw [ndP, szP]; rfl
  | (n, t) :: r => by rw [ndP, szP, List.length_append, ndT_len, ndP_len p r]
abbrev N_nd : List Str := ["_law_tree_here", "_law_path", "_law_found", "_law_name", "_law_node"]
noncomputable def F_nd : Nat → List D → GH → R D
  | 0 => fNo
  | k + 1 => defF N_nd (b__law_nodes (F_nd k))
theorem not_value (x : Str) (b : D) (δ : DEnv) (G : GH) (hx : PyData.strOk x = true) : asB (eOp dNe (eOp dIx (eVar 0) (eC (.int 0))) (eC (.str "value"))) (some (.tup [.str x, b]) :: δ) G = .ok (!(x == "value")) G := by
  simp only [ap_asB, ap_eOp (f := dNe), ix_tup0, R.bind_ok, ap_eC, dNe_str G hx ok_value]
theorem m_nd {ns : List Str} : ∀ (r k : Nat) (t : Tr) (p : List Str) (G : GH), r ≤ k → okT ns r t → szT t < 4000 → p.length + r < 1000 → F_nd k [encT t, encW p] G = .ok (.lst ((ndT p t).map encN)) G
  | 0, _, _, _, _, _, h, _, _ => h.elim
  | r + 1, 0, _, _, _, h, _, _, _ => by omega
  | r + 1, k + 1, t, p, G, hk, ok, hl, hp => by
    have st : ∀ a b : D, startD N_nd [a, b] = [some a, some b, none, none, none] := fun _ _ => rfl
    show defF N_nd (b__law_nodes (F_nd k)) [encT t, encW p] G = _
    have sz1 : (1 : Nat) ≤ sizeLine := by decide
    have sz2 : (2 : Nat) ≤ sizeLine := by decide
    have s1 : ∀ a : D, sSet 2 (eLst (aCons (eTup (aCons (eVar 1) (aCons (eVar 0) aNil))) aNil)) [some a, some (encW p), none, none, none] G = .nx [some a, some (encW p), some (.lst [.tup [encW p, a]]), none, none] G := fun a => by
      simp [sz1, sz2]
    have s3 : ∀ a b c d e : Option D, ∀ x : D, sRet (eVar 2) [a, b, some x, d, e] G = .rt x G := fun _ _ _ _ _ _ => rfl
    cases t with
    | val i =>
      rw [encT_val, defF_ap, st]
      unfold b__law_nodes
      simp only [ap_sSeq, s1, RS.seq_nx, ap_sIf, not_value _ _ _ _ ok_value, R.thn_ok, vv, Bool.not_true, if_false, Bool.false_eq_true, ap_sNext]
      rw [ndT]
      simp [encN, encT_val]
    | txt i =>
      rw [encT_txt, defF_ap, st]
      unfold b__law_nodes
      simp only [ap_sSeq, s1, RS.seq_nx, ap_sIf, not_value _ _ _ _ ok_value, R.thn_ok, vv, Bool.not_true, if_false, Bool.false_eq_true, ap_sNext]
      rw [ndT]
      simp [encN, encT_txt]
    | node m ps =>
      obtain ⟨nd, inN, srt, sub⟩ := ok
      have hl' : szP ps < 4000 := by rw [szT] at hl; exact hl
      rw [szT_node] at hl
      rw [encT_node, defF_ap, st]
      unfold b__law_nodes
      have key : ∀ (us : List (Str × Tr)) (acc : List D) (x y : Option D), (∀ u ∈ us, u ∈ ps) → acc.length + szP us < 5000 → ∃ x' y', sForL (fun _ => true) (gTp 2 (gsCons (gNm 3) (gsCons (gNm 4) gsNil))) (sSet 2 (eOp (dAdd mkF) (eVar 2) (eCall 2 (F_nd k) [] (aCons (eVar 4) (aCons (eOp (dAdd mkF) (eVar 1) (eTup (aCons (eVar 3) aNil))) aNil)))))
          (us.map encPr) [some (.tup [.str (kindS m), .pt (ps.map encPr)]), some (encW p), some (.lst acc), x, y] G = .nx [some (.tup [.str (kindS m), .pt (ps.map encPr)]), some (encW p), some (.lst (acc ++ (ndP p us).map encN)), x', y'] G := by
        intro us
        induction us with
        | nil => intro acc x y _ _; exact ⟨x, y, by rw [ndP]; simp [sForL]⟩
        | cons u us ih =>
          intro acc x y hm hz
          obtain ⟨n, t⟩ := u
          rw [szP] at hz
          have hu := hm _ (.head _)
          have e := m_nd r k t (p ++ [n]) G (by omega) (sub _ hu) (by have := sz_mem hu; simp only at this; omega) (by rw [List.length_append, List.length_singleton]; omega)
          obtain ⟨x', y', ih⟩ := ih (acc ++ (ndT (p ++ [n]) t).map encN) (some (.str n)) (some (encT t)) (fun u hu => hm u (.tail _ hu)) (by rw [List.length_append, List.length_map, ndT_len]; omega)
          refine ⟨x', y', ?_⟩
          rw [List.map_cons]
          unfold sForL
          have eg : gTp 2 (gsCons (gNm 3) (gsCons (gNm 4) gsNil)) (encPr (n, t)) [some (.tup [.str (kindS m), .pt (ps.map encPr)]), some (encW p), some (.lst acc), x, y] G = .nx [some (.tup [.str (kindS m), .pt (ps.map encPr)]), some (encW p), some (.lst acc), some (.str n), some (encT t)] G := by simp [encPr]
          have pw : eOp (dAdd mkF) (eVar 1) (eTup (aCons (eVar 3) aNil)) [some (.tup [.str (kindS m), .pt (ps.map encPr)]), some (encW p), some (.lst acc), some (.str n), some (encT t)] G = .ok (encW (p ++ [n])) G := by
            have szp : p.length + 1 ≤ sizeLine := Nat.le_trans (by omega : p.length + 1 ≤ 1001) (by decide)
            simp [encW, sz1, szp]
          have es : sSet 2 (eOp (dAdd mkF) (eVar 2) (eCall 2 (F_nd k) [] (aCons (eVar 4) (aCons (eOp (dAdd mkF) (eVar 1) (eTup (aCons (eVar 3) aNil))) aNil)))) [some (.tup [.str (kindS m), .pt (ps.map encPr)]), some (encW p), some (.lst acc), some (.str n), some (encT t)] G = .nx [some (.tup [.str (kindS m), .pt (ps.map encPr)]), some (encW p), some (.lst (acc ++ (ndT (p ++ [n]) t).map encN)), some (.str n), some (encT t)] G := by
            have v2 : eVar 2 [some (D.tup [.str (kindS m), .pt (ps.map encPr)]), some (encW p), some (.lst acc), some (.str n), some (encT t)] G = .ok (.lst acc) G := rfl
            have v4 : eVar 4 [some (D.tup [.str (kindS m), .pt (ps.map encPr)]), some (encW p), some (.lst acc), some (.str n), some (encT t)] G = .ok (encT t) G := rfl
            have cl : eCall 2 (F_nd k) [] (aCons (eVar 4) (aCons (eOp (dAdd mkF) (eVar 1) (eTup (aCons (eVar 3) aNil))) aNil)) [some (D.tup [.str (kindS m), .pt (ps.map encPr)]), some (encW p), some (.lst acc), some (.str n), some (encT t)] G = .ok (.lst ((ndT (p ++ [n]) t).map encN)) G := by
              rw [ap_eCall, ap_aCons, v4, R.bind_ok, ap_aCons, pw, R.bind_ok, ap_aNil, R.bind_ok, R.bind_ok, R.bind_ok, List.append_nil, if_pos (show [encT t, encW (p ++ [n])].length = 2 from rfl), e]
            have szl : acc.length + ((ndT (p ++ [n]) t).map encN).length ≤ sizeLine := by
              rw [List.length_map, ndT_len]
              exact Nat.le_trans (by omega : acc.length + (1 + szT t) ≤ 5000) (by decide)
            rw [ap_sSet, ap_eOp, v2, R.bind_ok, cl, R.bind_ok, dAdd_lst, if_pos szl, ap_mkF, R.thn_ok]
            rfl
          rw [eg]
          dsimp only
          rw [es]
          dsimp only
          rw [if_pos rfl, ih, ndP]
          simp
      obtain ⟨x', y', l1⟩ := key ps [.tup [encW p, .tup [.str (kindS m), .pt (ps.map encPr)]]] none none (fun u h => h) (by simp; omega)
      have s2 : sFor (iSeq (eOp dIx (eVar 0) (eC (.int 1)))) (gTp 2 (gsCons (gNm 3) (gsCons (gNm 4) gsNil))) (sSet 2 (eOp (dAdd mkF) (eVar 2) (eCall 2 (F_nd k) [] (aCons (eVar 4) (aCons (eOp (dAdd mkF) (eVar 1) (eTup (aCons (eVar 3) aNil))) aNil))))) [some (.tup [.str (kindS m), .pt (ps.map encPr)]), some (encW p), some (.lst [.tup [encW p, .tup [.str (kindS m), .pt (ps.map encPr)]]]), none, none] G =
          .nx [some (.tup [.str (kindS m), .pt (ps.map encPr)]), some (encW p), some (.lst ([.tup [encW p, .tup [.str (kindS m), .pt (ps.map encPr)]]] ++ (ndP p ps).map encN)), x', y'] G := by
        have it : iSeq (eOp dIx (eVar 0) (eC (.int 1))) [some (.tup [.str (kindS m), .pt (ps.map encPr)]), some (encW p), some (.lst [.tup [encW p, .tup [.str (kindS m), .pt (ps.map encPr)]]]), none, none] G = .ok ⟨ps.map encPr, fun _ => true⟩ G := by simp only [ap_iSeq, ix_tup1, R.bind_ok, itsD_pt]
        rw [ap_sFor, it, R.thn_ok, if_pos rfl, l1]
      simp only [ap_sSeq, s1, RS.seq_nx, ap_sIf, not_value _ _ _ _ (ok_kind m), R.thn_ok, ne_value, Bool.not_false, if_true, s2, s3]
      rw [ndT]
      simp [encN, encT_node]
end K03
end CF
end
section
set_option maxRecDepth 100000
set_option maxHeartbeats 4000000
namespace CF
namespace K03
open PySem PySem.Spec PyProof.Rows L2
def kdT : Tr → Str
  | .val _ => "value"
  | .txt _ => "value"
  | .node m _ => kindS m
def rpT : Tr → Str
  | .val i => PyData.shown (.int i)
  | .txt x => PyData.shown (.str x)
  | .node _ _ => ""
abbrev Bq := List Str × Str × Str
def encB (b : Bq) : D := .tup [encW b.1, .str b.2.1, .str b.2.2]
def bareQ (q : List Str × Tr) : Bq := (q.1, kdT q.2, rpT q.2)
def bareL (t : Tr) : List Bq := (ndT [] t).map bareQ
/-- the leaves are in their bounds -/
def leafOk : Tr → Prop
  | .val i => -(10 ^ 30) < i ∧ i < 10 ^ 30
  | .txt x => okS x = true
  | .node _ _ => True
theorem ndT_ok {ns : List Str} : ∀ (r : Nat) (t : Tr) (p : List Str), okT ns r t → ∀ q ∈ ndT p t, leafOk q.2 ∧ (∀ n ∈ q.1, n ∈ p ∨ n ∈ ns)
  | 0, _, _, h, _, _ => h.elim
  | r + 1, .val i, p, h, q, hq => by
    rw [ndT] at hq
    simp at hq
    subst hq
    exact ⟨h, fun n hn => .inl hn⟩
  | r + 1, .txt i, p, h, q, hq => by
    rw [ndT] at hq
    simp at hq
    subst hq
    exact ⟨h, fun n hn => .inl hn⟩
  | r + 1, .node m ps, p, ⟨nd, inN, srt, sub⟩, q, hq => by
    rw [ndT] at hq
    rcases List.mem_cons.mp hq with rfl | hq
    · exact ⟨True.intro, fun n hn => .inl hn⟩
    · clear nd srt
      induction ps with
      | nil => rw [ndP] at hq; cases hq
      | cons u us ih =>
        obtain ⟨n, t⟩ := u
        rw [ndP] at hq
        rcases List.mem_append.mp hq with hq | hq
        · obtain ⟨h1, h2⟩ := ndT_ok r t (p ++ [n]) (sub _ (.head _)) q hq
          refine ⟨h1, fun x hx => ?_⟩
          rcases h2 x hx with h2 | h2
          · rcases List.mem_append.mp h2 with h2 | h2
            · exact .inl h2
            · rw [List.mem_singleton.mp h2]; exact .inr (inN n (by simp))
          · exact .inr h2
        · exact ih (fun x hx => inN x (by simp only [List.map_cons]; exact .tail _ hx)) (fun u hu => sub u (.tail _ hu)) (.tail _ hq) hq
theorem log_small {i : Int} (h : -(10 ^ 30) < i ∧ i < 10 ^ 30) : i.natAbs.log2 < 1920 := by
  by_cases hz : i.natAbs = 0
  · rw [hz]; decide
  · have h1 : i.natAbs < 2 ^ 100 := by
      have e : (2 : Nat) ^ 100 = 1267650600228229401496703205376 := by decide
      rw [e]; omega
    exact Nat.lt_trans ((Nat.log2_lt hz).mpr h1) (by decide)
theorem repr_fit {t : Tr} (h : leafOk t) : (rpT t).length ≤ sizeLine := by
  cases t with
  | val i =>
    show (PyData.shown (.int i)).length ≤ sizeLine
    rw [PyData.shown]
    exact int_text_fits (log_small h)
  | txt x =>
    show (PyData.shown (.str x)).length ≤ sizeLine
    rw [PyData.shown]
    have h : okS x = true := h
    have h1 := Bool.and_eq_true_iff.mp h
    have h2 := Bool.and_eq_true_iff.mp h1.1
    have h3 := of_decide_eq_true h2.2
    refine Nat.le_trans (PySem.StrLaws.reprText_len x fun c hc => ?_) (Nat.le_trans (by omega : 10 * x.length + 2 ≤ 10002) (by decide))
    have := List.all_eq_true.mp h1.2 c hc
    unfold plainC at this
    simp only [Bool.and_eq_true, decide_eq_true_eq] at this
    omega
  | node m ps => exact Nat.zero_le _
abbrev N_ba : List Str := ["_law_tree_here", "_law_found", "_law_path", "_law_node"]
noncomputable def F_ba0 (k : Nat) : List D → GH → R D := defF N_ba (b__law_bare (F_nd k))
/-- one turn's entry -/
theorem turn_b {q : List Str × Tr} (h : leafOk q.2) (a b c : Option D) (G : GH) :
    eTup (aCons (eVar 2) (aCons (eOp dIx (eVar 3) (eC (.int 0))) (aCons (eIf (asB (eOp dEq (eOp dIx (eVar 3) (eC (.int 0))) (eC (.str "value")))) (eCB (one dRepr) (aCons (eOp dIx (eVar 3) (eC (.int 1))) aNil)) (eC (.str ""))) aNil))) [a, b, some (encW q.1), some (encT q.2)] G = .ok (encB (bareQ q)) G := by
  obtain ⟨p, t⟩ := q
  have sz3 : (3 : Nat) ≤ sizeLine := by decide
  have v2 : eVar 2 [a, b, some (encW p), some (encT t)] G = .ok (encW p) G := rfl
  have rest : ∀ (x y : D) (kd rp : Str), encT t = .tup [x, y] → x = .str kd → PyData.strOk kd = true → ((kd == ("value" : Str)) = true → dRepr y G = .ok (.str rp) G) → ((kd == ("value" : Str)) = false → rp = "") → kd = kdT t → rp = rpT t →
      eTup (aCons (eVar 2) (aCons (eOp dIx (eVar 3) (eC (.int 0))) (aCons (eIf (asB (eOp dEq (eOp dIx (eVar 3) (eC (.int 0))) (eC (.str "value")))) (eCB (one dRepr) (aCons (eOp dIx (eVar 3) (eC (.int 1))) aNil)) (eC (.str ""))) aNil))) [a, b, some (encW p), some (encT t)] G = .ok (encB (bareQ (p, t))) G := by
    intro x y kd rp et ex ok h1 h2 ek er
    have i0 : eOp dIx (eVar 3) (eC (.int 0)) [a, b, some (encW p), some (encT t)] G = .ok (.str kd) G := by rw [et, ex]; simp
    have i1 : eOp dIx (eVar 3) (eC (.int 1)) [a, b, some (encW p), some (encT t)] G = .ok y G := by rw [et, ex]; simp
    have te : asB (eOp dEq (eOp dIx (eVar 3) (eC (.int 0))) (eC (.str "value"))) [a, b, some (encW p), some (encT t)] G = .ok (kd == ("value" : Str)) G := by
      simp only [ap_asB, ap_eOp (f := dEq), i0, R.bind_ok, ap_eC, dEq_str G ok ok_value]
    have ei : eIf (asB (eOp dEq (eOp dIx (eVar 3) (eC (.int 0))) (eC (.str "value")))) (eCB (one dRepr) (aCons (eOp dIx (eVar 3) (eC (.int 1))) aNil)) (eC (.str "")) [a, b, some (encW p), some (encT t)] G = .ok (.str rp) G := by
      rw [ap_eIf, te, R.bind_ok]
      cases e : kd == ("value" : Str) with
      | true => rw [if_pos rfl, ap_eCB, ap_aCons, i1, R.bind_ok, ap_aNil, R.bind_ok, R.bind_ok, ap_one, h1 e]
      | false => rw [if_neg Bool.false_ne_true, h2 e]; rfl
    rw [ap_eTup, ap_aCons, v2, R.bind_ok, ap_aCons, i0, R.bind_ok, ap_aCons, ei, R.bind_ok, ap_aNil, R.bind_ok, R.bind_ok, R.bind_ok, R.bind_ok, if_pos (show [encW p, D.str kd, D.str rp].length ≤ sizeLine from sz3)]
    rw [ek, er]
    rfl
  have fit := repr_fit h
  cases t with
  | val i =>
    refine rest (.str "value") (.int i) "value" (rpT (.val i)) (encT_val i) rfl ok_value (fun _ => ?_) (fun e => by rw [vv] at e; cases e) rfl rfl
    show (match (res G (D.int i)).py with | some q => if q.showable = true ∧ q.depth ≤ 60 ∧ q.shown.length ≤ sizeLine then R.ok (D.str q.shown) G else R.no | none => R.no) = _
    rw [res_int, D.py]
    dsimp only
    rw [if_pos ⟨by simpa [PyData.showable] using log_small h, by simp [PyData.depth], fit⟩]
    rfl
  | txt x =>
    refine rest (.str "value") (.str x) "value" (rpT (.txt x)) (encT_txt x) rfl ok_value (fun _ => ?_) (fun e => by rw [vv] at e; cases e) rfl rfl
    show (match (res G (D.str x)).py with | some q => if q.showable = true ∧ q.depth ≤ 60 ∧ q.shown.length ≤ sizeLine then R.ok (D.str q.shown) G else R.no | none => R.no) = _
    rw [res_str, D.py, if_pos (txt_ok h)]
    dsimp only
    rw [if_pos ⟨by simp [PyData.showable], by simp [PyData.depth], fit⟩]
    rfl
  | node m ps => exact rest (.str (kindS m)) (.pt (ps.map encPr)) (kindS m) "" (encT_node m ps) rfl (ok_kind m) (fun e => by rw [ne_value] at e; cases e) (fun _ => rfl) rfl rfl
end K03
end CF
end
section
set_option maxRecDepth 100000
set_option maxHeartbeats 4000000
namespace CF
namespace K03
open PySem PySem.Spec PyProof.Rows L2
/-! ### rows of (path, kind, repr) sorted -/
def pyB (b : Bq) : PyData := .tuple [.tuple (b.1.map .str), .str b.2.1, .str b.2.2]
def okB (b : Bq) : Prop := (∀ n ∈ b.1, PyData.strOk n = true) ∧ PyData.strOk b.2.1 = true ∧ PyData.strOk b.2.2 = true
theorem py_encB {b : Bq} (h : okB b) : (encB b).py = some (pyB b) := by
  obtain ⟨p, k, s⟩ := b
  obtain ⟨h1, h2, h3⟩ := h
  simp only at h1 h2 h3
  simp [encB, encW, D.py, D.pyAll, pyAll_strs h1, h2, h3, pyB]
theorem pyB_depth (b : Bq) : (pyB b).depth ≤ 60 := by
  obtain ⟨p, k, s⟩ := b
  simp [pyB, PyData.depth, PyData.depthAll, depth_strs]
theorem alike_strs : ∀ xs ys : List Str, PySem.W.alikeAll (xs.map .str) (ys.map .str) = true
  | [], _ => by simp [PySem.W.alikeAll]
  | _ :: _, [] => by simp [PySem.W.alikeAll]
  | x :: xs, y :: ys => by
    rw [List.map_cons, List.map_cons, PySem.W.alikeAll, alike_strs xs ys]
    simp [PySem.W.alike]
theorem alikeB (a b : Bq) : PySem.W.alike (pyB a) (pyB b) = true := by
  simp [pyB, PySem.W.alike, PySem.W.alikeAll, alike_strs]
theorem eqvB (a b : Bq) : PyData.eqv (pyB a) (pyB b) = true ↔ a = b := by
  obtain ⟨p, k, s⟩ := a
  obtain ⟨p', k', s'⟩ := b
  simp only [pyB, PyData.eqv, PyData.eqvAll, eqvAll_strs, Bool.and_true, Bool.and_eq_true, decide_eq_true_eq, Prod.mk.injEq]
  exact ⟨fun ⟨h1, h2, h3⟩ => ⟨h1, eq_of_beq h2, eq_of_beq h3⟩, fun ⟨h1, h2, h3⟩ => ⟨h1, by rw [h2]; exact beq_self_eq_true _, by rw [h3]; exact beq_self_eq_true _⟩⟩
/-- data of which neither is less are equal -/
theorem eqv_of_le {x y : PyData} (h : PySem.W.alike x y = true) (h1 : PySem.W.dataLt x y = false) (h2 : PySem.W.dataLt y x = false) : PyData.eqv x y = true := by
  have e : PySem.W.keyToks x = PySem.W.keyToks y := (PyProof.Rows.listOrd itemOrd).total _ _ h1 h2
  cases q : PyData.eqv x y with
  | true => rfl
  | false =>
    have z := (PySem.W.toks_eqv x y h).2 q [] [.inl 0]
    rw [← e, PySem.W.lex_pre] at z
    have irr : PyProof.Rows.lexLt itemOrd (PySem.W.keyToks x) (PySem.W.keyToks x) = false := (PyProof.Rows.listOrd itemOrd).irrefl _
    rw [irr] at z
    exact absurd z (by decide)
def leB (a b : Bq) : Bool := PySem.W.dataLe false pyB a b
theorem leB_total : PySem.W.TotalLe leB := by
  show PySem.W.TotalLe (PySem.W.dataLe false pyB)
  unfold PySem.W.dataLe
  exact PySem.W.sortLe_total _ _ _
theorem leB_anti {a b : Bq} (h1 : leB a b = true) (h2 : leB b a = true) : a = b := by
  unfold leB at h1 h2
  rw [PySem.W.dataLe_eq] at h1 h2
  simp only [cond_false, Bool.not_eq_true'] at h1 h2
  exact (eqvB a b).mp (eqv_of_le (alikeB a b) h2 h1)
def sortB (l : List Bq) : List Bq := l.mergeSort leB
theorem filt_rep (c : Bq) : ∀ l : List Bq, l.filter (PySem.W.sameRank leB c) = List.replicate (l.count c) c
  | [] => rfl
  | x :: l => by
    rw [List.filter_cons, List.count_cons, filt_rep c l]
    by_cases h : x = c
    · subst h
      rw [if_pos (PySem.W.sameRank_self leB_total x)]
      simp [List.replicate_succ]
    · have n : ¬ PySem.W.sameRank leB c x = true := fun q => by
        unfold PySem.W.sameRank at q
        obtain ⟨q1, q2⟩ := Bool.and_eq_true_iff.mp q
        exact h (leB_anti q2 q1)
      rw [if_neg n]
      have : (x == c) = false := by simpa using h
      simp [this]
theorem sortB_iff (l m : List Bq) : sortB l = sortB m ↔ l.Perm m := by
  constructor
  · intro e
    have e' : l.mergeSort leB = m.mergeSort leB := e
    exact (List.mergeSort_perm l leB).symm.trans (by rw [e']; exact List.mergeSort_perm m leB)
  · intro p
    refine PySem.W.sort_unique leB_total (PySem.W.sort_pairwise leB_total l) fun c => ?_
    rw [filt_rep, filt_rep]
    congr 1
    exact ((List.mergeSort_perm l leB).trans p).count_eq c
end K03
end CF
end
section
set_option maxRecDepth 100000
set_option maxHeartbeats 4000000
namespace CF
namespace K03
open PySem PySem.Spec PyProof.Rows L2
theorem prn : ∀ c : Nat, c < 127 → 32 ≤ c → Unicode.isPrintable c = true := by decide +kernel
theorem char_lt (c : Char) : c.toNat < 0x110000 := by
  have := c.valid
  rcases this with h | h
  · show c.val.toNat < _
    omega
  · show c.val.toNat < _
    omega
theorem signs_of (s : String) : (Str.ofString s).cps.toList = s.toList.map Char.toNat := by
  simp [PySem.Str.ofString_eq_toList]
theorem strOk_of (s : String) : PyData.strOk (Str.ofString s) = true := by
  unfold PyData.strOk
  rw [← Array.all_toList, signs_of, List.all_eq_true]
  intro c hc
  obtain ⟨ch, _, rfl⟩ := List.mem_map.mp hc
  exact decide_eq_true (char_lt ch)
theorem quote_plain {x : Str} (h : ∀ c ∈ x.cps.toList, plainC c = true) : reprQuote x = 39 := by
  unfold reprQuote
  have : x.cps.contains 39 = false := by
    rw [Bool.eq_false_iff]
    intro hc
    have := Array.contains_iff_mem.mp hc
    have := h 39 (by simpa using this)
    exact absurd this (by decide)
  rw [this]
  rfl
theorem reprChar_plain {c : Nat} (h : plainC c = true) : PySem.Builtin.Str.reprChar 39 c = [c] := by
  unfold plainC at h
  simp only [Bool.and_eq_true, decide_eq_true_eq, Bool.not_eq_true', beq_eq_false_iff_ne] at h
  unfold PySem.Builtin.Str.reprChar
  have e := prn c h.1.1.2 h.1.1.1
  have n1 : c ≠ 39 := h.1.2
  have n2 : c ≠ 92 := h.2
  have n3 : c ≠ 10 := by omega
  have n4 : c ≠ 13 := by omega
  have n5 : c ≠ 9 := by omega
  simp [n1, n2, n3, n4, n5, e]
theorem fold_plain : ∀ (l : List Nat) (acc : Array Nat), (∀ c ∈ l, plainC c = true) → (l.foldl (fun out c => out ++ (PySem.Builtin.Str.reprChar 39 c).toArray) acc).toList = acc.toList ++ l
  | [], acc, _ => by simp
  | c :: r, acc, h => by
    rw [List.foldl_cons, fold_plain r _ fun d hd => h d (.tail _ hd), reprChar_plain (h c (.head _))]
    simp
theorem repr_plain {x : Str} (h : ∀ c ∈ x.cps.toList, plainC c = true) : (reprText x).cps.toList = 39 :: (x.cps.toList ++ [39]) := by
  unfold reprText
  show ((x.cps.foldl (fun out c => out ++ (PySem.Builtin.Str.reprChar (reprQuote x) c).toArray) #[reprQuote x]).push (reprQuote x)).toList = _
  rw [quote_plain h, Array.toList_push, ← Array.foldl_toList, fold_plain _ _ h]
  rfl
theorem plain_okS {x : Str} (h : okS x = true) : ∀ c ∈ x.cps.toList, plainC c = true := by
  unfold okS at h
  exact List.all_eq_true.mp (Bool.and_eq_true_iff.mp h).2
theorem plain_lt {c : Nat} (h : plainC c = true) : c < 0x110000 := by
  unfold plainC at h
  simp only [Bool.and_eq_true, decide_eq_true_eq] at h
  omega
theorem strOk_repr {t : Tr} (h : leafOk t) : PyData.strOk (rpT t) = true := by
  cases t with
  | val i =>
    show PyData.strOk (PyData.shown (.int i)) = true
    rw [PyData.shown]
    exact strOk_of _
  | txt x =>
    show PyData.strOk (PyData.shown (.str x)) = true
    rw [PyData.shown]
    unfold PyData.strOk
    rw [← Array.all_toList, repr_plain (plain_okS h), List.all_eq_true]
    intro c hc
    refine decide_eq_true ?_
    rcases List.mem_cons.mp hc with rfl | hc
    · decide
    · rcases List.mem_append.mp hc with hc | hc
      · exact plain_lt (plain_okS h c hc)
      · rw [List.mem_singleton.mp hc]; decide
  | node m ps => exact strOk_of ""
theorem toDig_dig : ∀ (m : Nat), ∀ c ∈ Nat.toDigits 10 m, c.isDigit = true := fun m c hc => Nat.isDigit_of_mem_toDigits (by decide) (by decide) hc
theorem nat_repr_inj {n m : Nat} (h : Nat.repr n = Nat.repr m) : n = m := by
  have h := congrArg String.toList h
  rw [Nat.toList_repr, Nat.toList_repr] at h
  have := congrArg (Nat.ofDigitChars 10 · 0) h
  simpa using this
theorem nat_repr_head {n : Nat} : ∀ r, (Nat.repr n).toList ≠ '-' :: r := by
  intro r h
  rw [Nat.toList_repr] at h
  have := toDig_dig n '-' (by rw [h]; exact .head _)
  exact absurd this (by decide)
theorem int_repr_nn (n : Nat) : toString ((n : Nat) : Int) = Nat.repr n := rfl
theorem int_repr_neg (n : Nat) : toString (Int.negSucc n) = "-" ++ Nat.repr (n + 1) := rfl
theorem str_int_inj {i j : Int} (h : (toString i : String) = toString j) : i = j := by
  match i, j with
  | .ofNat n, .ofNat m =>
    have h : Nat.repr n = Nat.repr m := h
    rw [nat_repr_inj h]
  | .ofNat n, .negSucc m =>
    have h : Nat.repr n = "-" ++ Nat.repr (m + 1) := h
    have h := congrArg String.toList h
    rw [String.toList_append] at h
    exact absurd h (nat_repr_head _)
  | .negSucc n, .ofNat m =>
    have h : "-" ++ Nat.repr (n + 1) = Nat.repr m := h
    have h := congrArg String.toList h
    rw [String.toList_append] at h
    exact absurd h.symm (nat_repr_head _)
  | .negSucc n, .negSucc m =>
    have h : "-" ++ Nat.repr (n + 1) = "-" ++ Nat.repr (m + 1) := h
    have h := congrArg String.toList h
    rw [String.toList_append, String.toList_append] at h
    have h := List.append_cancel_left h
    have := nat_repr_inj (String.toList_inj.mp h)
    simp at this
    rw [this]
theorem char_inj : ∀ {l m : List Char}, l.map Char.toNat = m.map Char.toNat → l = m
  | [], [], _ => rfl
  | [], _ :: _, h => by simp at h
  | _ :: _, [], h => by simp at h
  | a :: l, b :: m, h => by
    simp only [List.map_cons, List.cons.injEq] at h
    rw [char_inj h.2, Char.ext (UInt32.toNat_inj.mp h.1)]
theorem of_inj {a b : String} (h : Str.ofString a = Str.ofString b) : a = b := by
  have h := congrArg (fun x : Str => x.cps.toList) h
  simp only [signs_of] at h
  exact String.toList_inj.mp (char_inj h)
theorem int_no39 (i : Int) : ∀ r, (Str.ofString (toString i)).cps.toList ≠ 39 :: r := by
  intro r h
  rw [signs_of] at h
  have dig : ∀ n : Nat, ∀ r, (Nat.repr n).toList.map Char.toNat ≠ 39 :: r := by
    intro n r h
    rw [Nat.toList_repr] at h
    match hd : Nat.toDigits 10 n with
    | [] => rw [hd] at h; simp at h
    | c :: t =>
      rw [hd] at h
      simp only [List.map_cons, List.cons.injEq] at h
      have := toDig_dig n c (by rw [hd]; exact .head _)
      have e : c = Char.ofNat 39 := Char.ext (UInt32.toNat_inj.mp h.1)
      rw [e] at this
      exact absurd this (by decide)
  match i with
  | .ofNat n => exact dig n r h
  | .negSucc n =>
    have h : ("-" ++ Nat.repr (n + 1)).toList.map Char.toNat = 39 :: r := h
    rw [String.toList_append] at h
    simp at h
theorem ext_cps {x y : Str} (h : x.cps.toList = y.cps.toList) : x = y := by
  cases x; cases y
  congr 1
  exact Array.toList_inj.mp h
theorem kind_ne : ∀ m : Bool, kindS m ≠ ("value" : Str) := by decide +kernel
/-- two leaves of one print are one leaf -/
theorem rp_inj {s t : Tr} (hs : leafOk s) (ht : leafOk t) (h : rpT s = rpT t) (ks : kdT s = "value") (kt : kdT t = "value") : s = t := by
  cases s with
  | node m ps => exact absurd ks (kind_ne m)
  | val i =>
    cases t with
    | node m ps => exact absurd kt (kind_ne m)
    | val j =>
      have h : PyData.shown (.int i) = PyData.shown (.int j) := h
      rw [PyData.shown, PyData.shown] at h
      rw [str_int_inj (of_inj h)]
    | txt y =>
      have h : PyData.shown (.int i) = PyData.shown (.str y) := h
      rw [PyData.shown, PyData.shown] at h
      have e := repr_plain (plain_okS ht)
      rw [← h] at e
      exact absurd e (int_no39 _ _)
  | txt x =>
    cases t with
    | node m ps => exact absurd kt (kind_ne m)
    | val j =>
      have h : PyData.shown (.str x) = PyData.shown (.int j) := h
      rw [PyData.shown, PyData.shown] at h
      have e := repr_plain (plain_okS hs)
      rw [h] at e
      exact absurd e (int_no39 _ _)
    | txt y =>
      have h : PyData.shown (.str x) = PyData.shown (.str y) := h
      rw [PyData.shown, PyData.shown] at h
      have e := congrArg (fun x : Str => x.cps.toList) h
      simp only [repr_plain (plain_okS hs), repr_plain (plain_okS ht), List.cons.injEq, true_and] at e
      rw [ext_cps (List.append_cancel_right e)]
end K03
end CF
end
section
set_option maxRecDepth 100000
set_option maxHeartbeats 4000000
namespace CF
namespace K03
open PySem PySem.Spec PyProof.Rows L2
theorem pyAll_B : ∀ {l : List Bq}, (∀ b ∈ l, okB b) → D.pyAll (l.map encB) = some (l.map pyB)
  | [], _ => by simp [D.pyAll]
  | b :: l, h => by
    rw [List.map_cons, D.pyAll, py_encB (h b (.head _)), pyAll_B fun b hb => h b (.tail _ hb)]
    rfl
theorem sortOk_B (l : List Bq) : SortOk (l.map pyB) := by
  refine ⟨.of alikeB, .inl (.tuples fun b => ⟨_, _, rfl⟩), fun d hd => ?_⟩
  obtain ⟨b, _, rfl⟩ := List.mem_map.mp hd
  exact pyB_depth b
theorem pyd_B {b : Bq} (h : okB b) : pyd (encB b) = pyB b := by unfold pyd; rw [py_encB h]; rfl
theorem sortD_B {l : List Bq} (h : ∀ b ∈ l, okB b) : sortD (l.map encB) = (sortB l).map encB := by
  unfold sortD sortB
  rw [sort_fst encB pyd l]
  congr 1
  exact PySem.W.sort_congr fun a ha b hb => by
    show PySem.W.dataLe false (fun b => pyd (encB b)) a b = PySem.W.dataLe false pyB a b
    rw [PySem.W.dataLe_eq, PySem.W.dataLe_eq]
    simp [pyd_B (h a ha), pyd_B (h b hb)]
theorem dSorted2_cell {l : List Bq} (h : ∀ b ∈ l, okB b) {G : GH} {n : Nat} (g : G[n]? = some (.lst (l.map encB))) : dSorted2 mkF (.ref n) G = .ok (.lst ((sortB l).map encB)) G := by
  have e1 : dKOf G (.ref n) = none := by rw [dKOf_ref, g]
  have e2 : lstOf G (.ref n) = some (l.map encB) := by rw [lstOf_ref, g]
  unfold dSorted2
  rw [e1]
  show dSorted mkF (.ref n) G = _
  unfold dSorted
  rw [e2]
  dsimp only
  rw [pyAll_B h]
  dsimp only
  rw [if_pos (sortOk_B l), sortD_B h]
  rfl
theorem eqvAll_B : ∀ l m : List Bq, PyData.eqvAll (l.map pyB) (m.map pyB) = true ↔ l = m
  | [], [] => by simp [PyData.eqvAll]
  | [], _ :: _ => by simp [PyData.eqvAll]
  | _ :: _, [] => by simp [PyData.eqvAll]
  | a :: l, b :: m => by
    rw [List.map_cons, List.map_cons, PyData.eqvAll, Bool.and_eq_true, eqvB, eqvAll_B l m, List.cons.injEq]
theorem depth_B : ∀ l : List Bq, PyData.depthAll (l.map pyB) ≤ 60
  | [] => by simp [PyData.depthAll]
  | b :: l => by
    rw [List.map_cons, PyData.depthAll]
    have h1 := pyB_depth b
    have h2 := depth_B l
    omega
theorem dEq_B {l m : List Bq} (hl : ∀ b ∈ l, okB b) (hm : ∀ b ∈ m, okB b) (G : GH) : ∃ v : Bool, dEq (.lst (l.map encB)) (.lst (m.map encB)) G = .ok (.bl v) G ∧ (v = true ↔ l = m) := by
  refine ⟨PyData.eqvAll (l.map pyB) (m.map pyB), ?_, eqvAll_B l m⟩
  have d1 := depth_B l
  have d2 := depth_B m
  unfold dEq pyEq
  rw [res_lst, res_lst, D.py, D.py, pyAll_B hl, pyAll_B hm]
  dsimp only
  rw [if_pos ⟨by simp only [PyData.depth]; omega, by simp only [PyData.depth]; omega⟩, PyData.eqv]
theorem bare_ok {ns : List Str} (hns : ∀ n ∈ ns, PyData.strOk n = true) {r : Nat} {t : Tr} (h : okT ns r t) : ∀ b ∈ bareL t, okB b := by
  intro b hb
  obtain ⟨q, hq, rfl⟩ := List.mem_map.mp hb
  obtain ⟨h1, h2⟩ := ndT_ok r t [] h q hq
  refine ⟨fun n hn => (h2 n hn).elim (fun z => nomatch z) (hns n), ?_, strOk_repr h1⟩
  show PyData.strOk (kdT q.2) = true
  obtain ⟨p, t⟩ := q
  cases t with
  | val i => exact ok_value
  | txt i => exact ok_value
  | node m ps => exact ok_kind m
theorem fzW_strs (rf : Nat → Option D) (p : List Str) : fzW rf (encW p) = some (encW p) := pure0_tup (pures0_map pure0_str p) rf
theorem fz_rows (rf : Nat → Option D) (l : List Bq) : fzW rf (.lst (l.map encB)) = some (.lst (l.map encB)) :=
  pure0_lst (pures0_map (fun b => pure0_tup (pures0_cons (fun rf => fzW_strs rf b.1) (pures0_cons (pure0_str _) (pures0_cons (pure0_str _) pures0_nil)))) l) rf
noncomputable def F_ba (k : Nat) : List D → GH → R D := fun ds G => fzR G (F_ba0 k ds G)
theorem m_ba {ns : List Str} (hns : ∀ n ∈ ns, PyData.strOk n = true) {k : Nat} (t : Tr) (G : GH) (ok : okT ns 6 t) (hk : 6 ≤ k) (hl : szT t ≤ 320) : F_ba k [encT t] G = .ok (.lst ((sortB (bareL t)).map encB)) G := by
  have st : startD N_ba [encT t] = [some (encT t), none, none, none] := rfl
  have sz0 : (0 : Nat) ≤ sizeLine := Nat.zero_le _
  have nodes := m_nd 6 k t [] (G ++ [Cell.lst []]) hk ok (by omega) (by decide)
  have s1 : sSet 1 (eLstM aNil) [some (encT t), none, none, none] G = .nx [some (encT t), some (.ref G.length), none, none] (G ++ [Cell.lst []]) := rfl
  have key : ∀ (us : List (List Str × Tr)) (acc : List Bq) (x y : Option D), (∀ u ∈ us, u ∈ ndT [] t) → acc.length + us.length < 4000 → ∃ x' y', sForL (fun _ => true) (gTp 2 (gsCons (gNm 2) (gsCons (gNm 3) gsNil))) (sDrop (eMt "list" mAppend (eVar 1) (aCons (eTup (aCons (eVar 2) (aCons (eOp dIx (eVar 3) (eC (.int 0))) (aCons (eIf (asB (eOp dEq (eOp dIx (eVar 3) (eC (.int 0))) (eC (.str "value")))) (eCB (one dRepr) (aCons (eOp dIx (eVar 3) (eC (.int 1))) aNil)) (eC (.str ""))) aNil)))) aNil)))
      (us.map encN) [some (encT t), some (.ref G.length), x, y] (G ++ [Cell.lst (acc.map encB)]) = .nx [some (encT t), some (.ref G.length), x', y'] (G ++ [Cell.lst ((acc ++ us.map bareQ).map encB)]) := by
    intro us
    induction us with
    | nil => intro acc x y _ _; exact ⟨x, y, by simp [sForL]⟩
    | cons u us ih =>
      intro acc x y hm hz
      rw [List.length_cons] at hz
      obtain ⟨lf, _⟩ := ndT_ok 6 t [] ok u (hm u (.head _))
      obtain ⟨x', y', ih⟩ := ih (acc ++ [bareQ u]) (some (encW u.1)) (some (encT u.2)) (fun u hu => hm u (.tail _ hu)) (by rw [List.length_append, List.length_singleton]; omega)
      refine ⟨x', y', ?_⟩
      rw [List.map_cons]
      unfold sForL
      have eg : gTp 2 (gsCons (gNm 2) (gsCons (gNm 3) gsNil)) (encN u) [some (encT t), some (.ref G.length), x, y] (G ++ [Cell.lst (acc.map encB)]) = .nx [some (encT t), some (.ref G.length), some (encW u.1), some (encT u.2)] (G ++ [Cell.lst (acc.map encB)]) := by simp [encN]
      have tb := turn_b lf (some (encT t)) (some (.ref G.length)) (none : Option D) (G ++ [Cell.lst (acc.map encB)])
      have gl : (G ++ [Cell.lst (acc.map encB)])[G.length]? = some (.lst (acc.map encB)) := snoc_last _ _
      have ap := mAppend_ap (y := encB (bareQ u)) gl (by rw [List.length_map]; exact Nat.lt_of_lt_of_le (by omega : acc.length < 4000) (by decide))
      rw [snoc_setl] at ap
      have es : sDrop (eMt "list" mAppend (eVar 1) (aCons (eTup (aCons (eVar 2) (aCons (eOp dIx (eVar 3) (eC (.int 0))) (aCons (eIf (asB (eOp dEq (eOp dIx (eVar 3) (eC (.int 0))) (eC (.str "value")))) (eCB (one dRepr) (aCons (eOp dIx (eVar 3) (eC (.int 1))) aNil)) (eC (.str ""))) aNil)))) aNil)) [some (encT t), some (.ref G.length), some (encW u.1), some (encT u.2)] (G ++ [Cell.lst (acc.map encB)]) = .nx [some (encT t), some (.ref G.length), some (encW u.1), some (encT u.2)] (G ++ [Cell.lst ((acc ++ [bareQ u]).map encB)]) := by
        have v1 : eVar 1 [some (encT t), some (.ref G.length), some (encW u.1), some (encT u.2)] (G ++ [Cell.lst (acc.map encB)]) = .ok (.ref G.length) (G ++ [Cell.lst (acc.map encB)]) := rfl
        rw [ap_sDrop, ap_eMt, v1, R.bind_ok, if_pos (tyM_list gl), ap_aCons, tb, R.bind_ok, ap_aNil, R.bind_ok, R.bind_ok, ap, R.thn_ok]
        simp
      rw [eg]
      dsimp only
      rw [es]
      dsimp only
      rw [if_pos rfl, ih]
      simp
  obtain ⟨x', y', l1⟩ := key (ndT [] t) [] none none (fun u h => h) (by rw [ndT_len]; simp; omega)
  rw [List.nil_append] at l1
  have s2 : sFor (iSeq (eCall 2 (F_nd k) [] (aCons (eVar 0) (aCons (eTup aNil) aNil)))) (gTp 2 (gsCons (gNm 2) (gsCons (gNm 3) gsNil))) (sDrop (eMt "list" mAppend (eVar 1) (aCons (eTup (aCons (eVar 2) (aCons (eOp dIx (eVar 3) (eC (.int 0))) (aCons (eIf (asB (eOp dEq (eOp dIx (eVar 3) (eC (.int 0))) (eC (.str "value")))) (eCB (one dRepr) (aCons (eOp dIx (eVar 3) (eC (.int 1))) aNil)) (eC (.str ""))) aNil)))) aNil))) [some (encT t), some (.ref G.length), none, none] (G ++ [Cell.lst []]) = .nx [some (encT t), some (.ref G.length), x', y'] (G ++ [Cell.lst ((bareL t).map encB)]) := by
    have v0 : eVar 0 [some (encT t), some (.ref G.length), none, none] (G ++ [Cell.lst []]) = .ok (encT t) (G ++ [Cell.lst []]) := rfl
    have te : eTup aNil [some (encT t), some (.ref G.length), none, none] (G ++ [Cell.lst []]) = .ok (encW []) (G ++ [Cell.lst []]) := by
      rw [ap_eTup, ap_aNil, R.bind_ok, if_pos (show ([] : List D).length ≤ sizeLine from sz0)]; rfl
    have it : iSeq (eCall 2 (F_nd k) [] (aCons (eVar 0) (aCons (eTup aNil) aNil))) [some (encT t), some (.ref G.length), none, none] (G ++ [Cell.lst []]) = .ok ⟨(ndT [] t).map encN, fun _ => true⟩ (G ++ [Cell.lst []]) := by
      rw [ap_iSeq, ap_eCall, ap_aCons, v0, R.bind_ok, ap_aCons, te, R.bind_ok, ap_aNil, R.bind_ok, R.bind_ok, R.bind_ok, List.append_nil, if_pos (show [encT t, encW []].length = 2 from rfl), nodes, R.bind_ok]
      rfl
    rw [ap_sFor, it, R.thn_ok, if_pos rfl]
    exact l1
  have s3 : sRet (eCB (one (dSorted2 mkF)) (aCons (eVar 1) aNil)) [some (encT t), some (.ref G.length), x', y'] (G ++ [Cell.lst ((bareL t).map encB)]) = .rt (.lst ((sortB (bareL t)).map encB)) (G ++ [Cell.lst ((bareL t).map encB)]) := by
    have v1 : eVar 1 [some (encT t), some (.ref G.length), x', y'] (G ++ [Cell.lst ((bareL t).map encB)]) = .ok (.ref G.length) (G ++ [Cell.lst ((bareL t).map encB)]) := rfl
    rw [ap_sRet, ap_eCB, ap_aCons, v1, R.bind_ok, ap_aNil, R.bind_ok, R.bind_ok, ap_one, dSorted2_cell (bare_ok hns ok) (snoc_last _ _), R.thn_ok]
  have run : F_ba0 k [encT t] G = .ok (.lst ((sortB (bareL t)).map encB)) (G ++ [Cell.lst ((bareL t).map encB)]) := by
    unfold F_ba0 b__law_bare
    rw [defF_ap, st]
    simp only [ap_sSeq, s1, RS.seq_nx, s2, s3]
  unfold F_ba
  rw [run]
  exact fzR_ok (fz_rows _ _)
end K03
end CF
end
section
set_option maxRecDepth 100000
set_option maxHeartbeats 4000000
namespace CF
namespace K03
open PySem PySem.Spec PyProof.Rows L2
/-! ### plain Lean: one sorting of the lists, one bag of nodes -/
def bq (p : List Str) (t : Tr) : List Bq := (ndT p t).map bareQ
def bp (p : List Str) (ps : List (Str × Tr)) : List Bq := (ndP p ps).map bareQ
theorem bq_node (p : List Str) (m : Bool) (ps : List (Str × Tr)) : bq p (.node m ps) = (p, kindS m, ("" : Str)) :: bp p ps := by
  unfold bq bp; rw [ndT]; rfl
theorem bq_val (p : List Str) (i : Int) : bq p (.val i) = [(p, ("value" : Str), rpT (.val i))] := by
  unfold bq; rw [ndT]; rfl
theorem bq_txt (p : List Str) (i : Str) : bq p (.txt i) = [(p, ("value" : Str), rpT (.txt i))] := by
  unfold bq; rw [ndT]; rfl
theorem bp_nil (p : List Str) : bp p [] = [] := by unfold bp; rw [ndP]; rfl
theorem bp_cons (p : List Str) (u : Str × Tr) (r : List (Str × Tr)) : bp p (u :: r) = bq (p ++ [u.1]) u.2 ++ bp p r := by
  obtain ⟨n, t⟩ := u
  unfold bp bq; rw [ndP, List.map_append]
theorem bp_perm (p : List Str) {l m : List (Str × Tr)} (h : l.Perm m) : (bp p l).Perm (bp p m) := by
  induction h with
  | nil => exact .refl _
  | cons x _ ih => rw [bp_cons, bp_cons]; exact ih.append_left _
  | swap x y l =>
    rw [bp_cons, bp_cons, bp_cons, bp_cons, ← List.append_assoc, ← List.append_assoc]
    exact List.perm_append_comm.append_right _
  | trans _ _ a b => exact a.trans b
theorem bq_can {ns : List Str} : ∀ (r : Nat) (t : Tr) (p : List Str), okT ns r t → (bq p t).Perm (bq p (canT t))
  | 0, _, _, h => h.elim
  | _ + 1, .val _, _, _ => by rw [canT]
  | _ + 1, .txt _, _, _ => by rw [canT]
  | r + 1, .node m ps, p, ⟨nd, inN, srt, sub⟩ => by
    rw [canT_node, bq_node, bq_node]
    refine List.Perm.cons _ (.trans ?_ (bp_perm p (List.mergeSort_perm _ _).symm))
    clear nd inN srt
    induction ps with
    | nil => exact .refl _
    | cons u us ih =>
      rw [List.map_cons, bp_cons, bp_cons]
      exact (bq_can r u.2 _ (sub u (.head _))).append (ih fun q hq => sub q (.tail _ hq))
theorem bq_pre {ns : List Str} : ∀ (r : Nat) (t : Tr) (p : List Str), okT ns r t → ∀ b ∈ bq p t, ∃ s, b.1 = p ++ s
  | 0, _, _, h, _, _ => h.elim
  | _ + 1, .val _, p, _, b, hb => by
    rw [bq_val, List.mem_singleton] at hb
    exact ⟨[], by rw [hb, List.append_nil]⟩
  | _ + 1, .txt _, p, _, b, hb => by
    rw [bq_txt, List.mem_singleton] at hb
    exact ⟨[], by rw [hb, List.append_nil]⟩
  | r + 1, .node m ps, p, ⟨nd, inN, srt, sub⟩, b, hb => by
    rw [bq_node] at hb
    rcases List.mem_cons.mp hb with rfl | hb
    · exact ⟨[], by rw [List.append_nil]⟩
    · clear nd inN srt
      induction ps with
      | nil => rw [bp_nil] at hb; cases hb
      | cons u us ih =>
        rw [bp_cons] at hb
        rcases List.mem_append.mp hb with hb | hb
        · obtain ⟨s, e⟩ := bq_pre r u.2 _ (sub u (.head _)) b hb
          exact ⟨u.1 :: s, by rw [e, List.append_assoc]; rfl⟩
        · exact ih (fun q hq => sub q (.tail _ hq)) (.tail _ hb) hb
/-- the path goes on with this name -/
def onN (p : List Str) (n : Str) (b : Bq) : Bool := decide (b.1.take (p.length + 1) = p ++ [n])
theorem onN_bq {ns : List Str} {r : Nat} {t : Tr} {p : List Str} {n m : Str} (h : okT ns r t) {b : Bq} (hb : b ∈ bq (p ++ [m]) t) : onN p n b = decide (m = n) := by
  obtain ⟨s, e⟩ := bq_pre r t _ h b hb
  unfold onN
  have : b.1.take (p.length + 1) = p ++ [m] := by
    rw [e, List.take_append_of_le_length (by simp), List.take_of_length_le (by simp)]
  rw [this]
  congr 1
  simp
theorem filt_all {α} {f : α → Bool} : ∀ {l : List α}, (∀ x ∈ l, f x = true) → l.filter f = l := fun h => List.filter_eq_self.mpr h
theorem filt_none {α} {f : α → Bool} : ∀ {l : List α}, (∀ x ∈ l, f x = false) → l.filter f = [] := fun h => List.filter_eq_nil_iff.mpr fun a ha => by rw [h a ha]; decide
theorem filt_out {ns : List Str} {r : Nat} {p : List Str} {n : Str} : ∀ {ps : List (Str × Tr)}, (∀ q ∈ ps, okT ns r q.2) → n ∉ ps.map (·.1) → (bp p ps).filter (onN p n) = []
  | [], _, _ => by rw [bp_nil]; rfl
  | u :: us, h, hn => by
    rw [List.map_cons, List.mem_cons, not_or] at hn
    rw [bp_cons, List.filter_append, filt_out (fun q hq => h q (.tail _ hq)) hn.2, List.append_nil]
    exact filt_none fun b hb => by rw [onN_bq (h u (.head _)) hb]; exact decide_eq_false fun e => hn.1 e.symm
theorem filt_in {ns : List Str} {r : Nat} {p : List Str} {n : Str} {t : Tr} : ∀ {ps : List (Str × Tr)}, (∀ q ∈ ps, okT ns r q.2) → (ps.map (·.1)).Nodup → (n, t) ∈ ps → (bp p ps).filter (onN p n) = bq (p ++ [n]) t
  | u :: us, h, nd, hm => by
    rw [List.map_cons, List.nodup_cons] at nd
    rw [bp_cons, List.filter_append]
    rcases List.mem_cons.mp hm with e | hm
    · subst e
      rw [filt_out (fun q hq => h q (.tail _ hq)) nd.1, List.append_nil]
      exact filt_all fun b hb => by rw [onN_bq (h _ (.head _)) hb]; exact decide_eq_true rfl
    · have ne : u.1 ≠ n := fun e => nd.1 (by rw [e]; exact List.mem_map.mpr ⟨_, hm, rfl⟩)
      rw [filt_in (fun q hq => h q (.tail _ hq)) nd.2 hm, filt_none fun b hb => by rw [onN_bq (h u (.head _)) hb]; exact decide_eq_false ne]
      rfl
theorem bq_ne (p : List Str) (t : Tr) : bq p t ≠ [] := by
  cases t with
  | val i => rw [bq_val]; simp
  | txt i => rw [bq_txt]; simp
  | node m ps => rw [bq_node]; simp
theorem bp_long {ns : List Str} {r : Nat} {p : List Str} : ∀ {ps : List (Str × Tr)}, (∀ q ∈ ps, okT ns r q.2) → ∀ b ∈ bp p ps, b.1 ≠ p
  | [], _, b, hb => by rw [bp_nil] at hb; cases hb
  | u :: us, h, b, hb => by
    rw [bp_cons] at hb
    rcases List.mem_append.mp hb with hb | hb
    · obtain ⟨s, e⟩ := bq_pre r u.2 _ (h u (.head _)) b hb
      intro e2
      rw [e] at e2
      have := congrArg List.length e2
      simp at this
    · exact bp_long (fun q hq => h q (.tail _ hq)) b hb
theorem kids {ns : List Str} {r : Nat} {p : List Str} {ps qs : List (Str × Tr)} (hp : ∀ q ∈ ps, okT ns r q.2) (hq : ∀ q ∈ qs, okT ns r q.2) (np : (ps.map (·.1)).Nodup) (nq : (qs.map (·.1)).Nodup)
    (h : (bp p ps).Perm (bp p qs)) {n : Str} {t : Tr} (hm : (n, t) ∈ ps) : ∃ t', (n, t') ∈ qs ∧ (bq (p ++ [n]) t).Perm (bq (p ++ [n]) t') := by
  have h1 := h.filter (onN p n)
  rw [filt_in hp np hm] at h1
  by_cases hn : n ∈ qs.map (·.1)
  · obtain ⟨⟨n', t'⟩, h2, e⟩ := List.mem_map.mp hn
    have e : n' = n := e
    subst e
    rw [filt_in hq nq h2] at h1
    exact ⟨t', h2, h1⟩
  · rw [filt_out hq hn] at h1
    exact absurd h1.eq_nil (bq_ne _ _)
theorem leK_total : PySem.W.TotalLe leK := ⟨fun a b c h1 h2 => leS_total.trans a.1 b.1 c.1 h1 h2, fun a b => leS_total.total a.1 b.1⟩
theorem leS_anti {a b : Str} (h1 : leS a b = true) (h2 : leS b a = true) : a = b := by
  rw [leS_def, decide_eq_true_eq] at h1 h2
  exact ext_cps (List.le_antisymm h1 h2)
theorem key_uniq {ps : List (Str × Tr)} (nd : (ps.map (·.1)).Nodup) {n : Str} {t u : Tr} (h1 : (n, t) ∈ ps) (h2 : (n, u) ∈ ps) : t = u := by
  induction ps with
  | nil => cases h1
  | cons q qs ih =>
    rw [List.map_cons, List.nodup_cons] at nd
    rcases List.mem_cons.mp h1 with e1 | k1 <;> rcases List.mem_cons.mp h2 with e2 | k2
    · rw [← e1] at e2; exact ((Prod.mk.injEq ..).mp e2).2.symm
    · subst e1; exact absurd (List.mem_map_of_mem (f := fun x => x.1) k2) nd.1
    · subst e2; exact absurd (List.mem_map_of_mem (f := fun x => x.1) k1) nd.1
    · exact ih nd.2 k1 k2
theorem nodup_of_map {α β} {f : α → β} : ∀ {l : List α}, (l.map f).Nodup → l.Nodup
  | [], _ => List.nodup_nil
  | a :: l, h => by
    rw [List.map_cons, List.nodup_cons] at h
    exact List.nodup_cons.mpr ⟨fun m => h.1 (List.mem_map.mpr ⟨_, m, rfl⟩), nodup_of_map h.2⟩
theorem sortK_eq {l m : List (Str × Tr)} (nd : (l.map (·.1)).Nodup) (p : l.Perm m) : l.mergeSort leK = m.mergeSort leK := by
  refine List.Perm.eq_of_pairwise (le := fun a b => leK a b = true) ?_ (PySem.W.sort_pairwise leK_total l) (PySem.W.sort_pairwise leK_total m) (((List.mergeSort_perm l leK).trans p).trans (List.mergeSort_perm m leK).symm)
  rintro ⟨n, t⟩ ⟨o, u⟩ ha hb h1 h2
  have e : n = o := leS_anti h1 h2
  subst e
  rw [key_uniq nd (List.mem_mergeSort.mp ha) (p.mem_iff.mpr (List.mem_mergeSort.mp hb))]
theorem bq_back {ns : List Str} : ∀ (r : Nat) (a b : Tr) (p : List Str), okT ns r a → okT ns r b → (bq p a).Perm (bq p b) → canT a = canT b
  | 0, _, _, _, h, _, _ => h.elim
  | r + 1, .val i, b, p, ha, hb, h => by
    rw [bq_val] at h
    have e := List.perm_singleton.mp h.symm
    cases b with
    | val j =>
      rw [bq_val] at e
      simp only [List.cons.injEq, Prod.mk.injEq, true_and, and_true] at e
      rw [rp_inj (s := .val i) (t := .val j) ha hb e.symm rfl rfl]
    | txt j =>
      rw [bq_txt] at e
      simp only [List.cons.injEq, Prod.mk.injEq, true_and, and_true] at e
      exact nomatch rp_inj (s := .val i) (t := .txt j) ha hb e.symm rfl rfl
    | node m qs =>
      rw [bq_node] at e
      simp only [List.cons.injEq, Prod.mk.injEq, true_and, and_true] at e
      exact absurd e.1.1 (kind_ne m)
  | r + 1, .txt i, b, p, ha, hb, h => by
    rw [bq_txt] at h
    have e := List.perm_singleton.mp h.symm
    cases b with
    | val j =>
      rw [bq_val] at e
      simp only [List.cons.injEq, Prod.mk.injEq, true_and, and_true] at e
      exact nomatch rp_inj (s := .txt i) (t := .val j) ha hb e.symm rfl rfl
    | txt j =>
      rw [bq_txt] at e
      simp only [List.cons.injEq, Prod.mk.injEq, true_and, and_true] at e
      rw [rp_inj (s := .txt i) (t := .txt j) ha hb e.symm rfl rfl]
    | node m qs =>
      rw [bq_node] at e
      simp only [List.cons.injEq, Prod.mk.injEq, true_and, and_true] at e
      exact absurd e.1.1 (kind_ne m)
  | r + 1, .node m ps, b, p, ⟨nd, inN, srt, sub⟩, hb, h => by
    cases b with
    | val j =>
      rw [bq_val] at h
      have e := List.perm_singleton.mp h
      rw [bq_node] at e
      simp only [List.cons.injEq, Prod.mk.injEq, true_and, and_true] at e
      exact absurd e.1.1 (kind_ne m)
    | txt j =>
      rw [bq_txt] at h
      have e := List.perm_singleton.mp h
      rw [bq_node] at e
      simp only [List.cons.injEq, Prod.mk.injEq, true_and, and_true] at e
      exact absurd e.1.1 (kind_ne m)
    | node o qs =>
      obtain ⟨nd', inN', srt', sub'⟩ := hb
      rw [bq_node, bq_node] at h
      have hm : (p, kindS m, ("" : Str)) ∈ (p, kindS o, ("" : Str)) :: bp p qs := h.mem_iff.mp (.head _)
      have em : m = o := by
        rcases List.mem_cons.mp hm with e | hm
        · simp only [Prod.mk.injEq, true_and, and_true] at e
          exact kind_inj e
        · exact absurd rfl (bp_long sub' _ hm)
      subst em
      have h := List.Perm.cons_inv h
      rw [canT_node, canT_node]
      congr 1
      have one : ∀ (xs ys : List (Str × Tr)), (xs.map (·.1)).Nodup → (ys.map (·.1)).Nodup → (∀ q ∈ xs, okT ns r q.2) → (∀ q ∈ ys, okT ns r q.2) → (bp p xs).Perm (bp p ys) → ∀ z, z ∈ xs.map (fun p => (p.1, canT p.2)) → z ∈ ys.map (fun p => (p.1, canT p.2)) := by
        intro xs ys n1 n2 s1 s2 h z hz
        obtain ⟨⟨n, t⟩, hq, rfl⟩ := List.mem_map.mp hz
        obtain ⟨t', h1, h2⟩ := kids s1 s2 n1 n2 h hq
        refine List.mem_map.mpr ⟨(n, t'), h1, ?_⟩
        have := bq_back r t t' _ (s1 _ hq) (s2 _ h1) h2
        rw [this]
      have mm : ∀ xs : List (Str × Tr), (xs.map fun p => (p.1, canT p.2)).map (·.1) = xs.map (·.1) := fun xs => by rw [List.map_map]; rfl
      have d1 : ((ps.map fun p => (p.1, canT p.2)).map (·.1)).Nodup := by rw [mm]; exact nd
      have d2 : ((qs.map fun p => (p.1, canT p.2)).map (·.1)).Nodup := by rw [mm]; exact nd'
      refine sortK_eq d1 ?_
      rw [List.perm_ext_iff_of_nodup (nodup_of_map d1) (nodup_of_map d2)]
      exact fun z => ⟨one ps qs nd nd' sub sub' h z, one qs ps nd' nd sub' sub h.symm z⟩
/-- ONE TREE BUT FOR ORDERS: the same bag -/
theorem can_iff {ns : List Str} {r : Nat} {a b : Tr} (ha : okT ns r a) (hb : okT ns r b) : canT a = canT b ↔ sortB (bareL a) = sortB (bareL b) := by
  rw [sortB_iff]
  constructor
  · intro e
    have h1 := bq_can r a [] ha
    have h2 := bq_can r b [] hb
    rw [e] at h1
    exact h1.trans h2.symm
  · exact bq_back r a b [] ha hb
end K03
end CF
end
section
set_option maxRecDepth 100000
set_option maxHeartbeats 4000000
namespace CF
namespace K03
open PySem PySem.Spec PyProof.Rows L2
mutual
theorem pure0_T : ∀ t : Tr, pure0 (encT t)
  | .val i => by rw [encT]; exact pure0_tup (pures0_cons (pure0_str _) (pures0_cons (pure0_int _) pures0_nil))
  | .txt i => by rw [encT]; exact pure0_tup (pures0_cons (pure0_str _) (pures0_cons (pure0_str _) pures0_nil))
  | .node m ps => by rw [encT]; exact pure0_tup (pures0_cons (pure0_str _) (pures0_cons (pure0_pt (pures0_P ps)) pures0_nil))
theorem pures0_P : ∀ ps : List (Str × Tr), pures0 (encP ps)
  | [] => by rw [encP]; exact pures0_nil
  | (n, t) :: r => by rw [encP]; exact pures0_cons (pure0_tup (pures0_cons (pure0_str _) (pures0_cons (pure0_T t) pures0_nil))) (pures0_P r)
end
/-! ### the tree by its depth -/
noncomputable def F_tree : Nat → List D → GH → R D
  | 0 => fNo
  | d + 1 => defF N_tree (b__law_tree F_draw (F_one F_draw) (F_names F_draw) (F_tree d))
theorem m_tree : ∀ d : Nat, TreeOk (F_tree (d + 1)) (d + 1)
  | 0 => m_tree_step m_draw (m_one m_draw) (m_names m_draw) 0 (.inl rfl)
  | d + 1 => m_tree_step m_draw (m_one m_draw) (m_names m_draw) (d + 1) (.inr (m_tree d))
/-! ### shuffled -/
abbrev N_sh : List Str := ["_law_well_here", "_law_tree_here", "_law_pairs", "_law_name", "_law_node", "_law_k"]
noncomputable def F_sh : Nat → List D → GH → R D
  | 0 => fNo
  | k + 1 => fun ds G => fzR G (defF N_sh (b__law_shuffled (F_sh k) F_draw) ds G)
def ShOk (ns : List Str) (f : List D → GH → R D) (r : Nat) : Prop := ∀ (w : Well) (t : Tr) (n : Nat) (G : GH), G[n]? = some w.cell → okT ns r t → szT t < 4000 → 0 ≤ w.c → w.c + szT t < 100000000 →
  ∃ (t' : Tr) (w' : Well), f [.ref n, encT t] G = .ok (encT t') (G.set n w'.cell) ∧ okT ns r t' ∧ szT t' = szT t ∧ w.c ≤ w'.c ∧ w'.c ≤ w.c + szT t
theorem sh_loop {ns : List Str} {f : List D → GH → R D} {r : Nat} (hf : ShOk ns f r) (n : Nat) (G : GH) (lt : n < G.length) (x p q : Option D) : ∀ (ps : List (Str × Tr)) (w : Well) (acc : List D) (y z : Option D), (∀ u ∈ ps, okT ns r u.2) → acc.length + ps.length < 4000 → (ps.map fun p => 1 + szT p.2).sum < 4000 → 0 ≤ w.c → w.c + (ps.map fun p => 1 + szT p.2).sum < 100000000 →
    ∃ (qs : List (Str × Tr)) (w' : Well), lcL (fun _ => true) (gTp 2 (gsCons (gNm 3) (gsCons (gNm 4) gsNil))) tYesD (eTup (aCons (eVar 3) (aCons (eCall 2 f [] (aCons (eVar 0) (aCons (eVar 4) aNil))) aNil)))
      [some (.ref n), x, p, y, z, q] (ps.map encPr) acc (G.set n w.cell) = .ok (acc ++ qs.map encPr) (G.set n w'.cell) ∧ qs.map (·.1) = ps.map (·.1) ∧ (∀ u ∈ qs, okT ns r u.2) ∧ (qs.map fun p => 1 + szT p.2).sum = (ps.map fun p => 1 + szT p.2).sum ∧ w.c ≤ w'.c ∧ w'.c + ps.length ≤ w.c + (ps.map fun p => 1 + szT p.2).sum
  | [], w, acc, y, z, _, _, _, _, _ => ⟨[], w, by simp [lcL], rfl, (fun _ h => nomatch h), rfl, Int.le_refl _, by simp⟩
  | u :: ps, w, acc, y, z, ok, hl, hs, h2, h3 => by
    have g1 : (G.set n w.cell)[n]? = some w.cell := by simp [lt]
    simp only [List.map_cons, List.sum_cons, List.length_cons] at hl hs h3
    obtain ⟨t, w1, e, ot, et, c0, c1⟩ := hf w u.2 n _ g1 (ok _ (.head _)) (by omega) h2 (by omega)
    rw [List.set_set] at e
    obtain ⟨qs, w2, e2, n2, p2, z2, c2, c3⟩ := sh_loop hf n G lt x p q ps w1 (acc ++ [encPr (u.1, t)]) y z (fun u h => ok u (.tail _ h)) (by simp; omega) (by omega) (by omega) (by omega)
    refine ⟨(u.1, t) :: qs, w2, ?_, by simp [n2], fun v hv => ?_, by simp [et, z2], by omega, by simp only [List.length_cons, List.map_cons, List.sum_cons]; omega⟩
    · have sz1 : acc.length < sizeLine := Nat.lt_of_lt_of_le (by omega : acc.length < 4000) (by decide)
      have sz2 : (2 : Nat) ≤ sizeLine := by decide
      have eg : gTp 2 (gsCons (gNm 3) (gsCons (gNm 4) gsNil)) (encPr u) [some (.ref n), x, p, y, z, q] (G.set n w.cell) = .nx [some (.ref n), x, p, some (.str u.1), some (encT u.2), q] (G.set n w.cell) := by simp [encPr]
      have ef : eTup (aCons (eVar 3) (aCons (eCall 2 f [] (aCons (eVar 0) (aCons (eVar 4) aNil))) aNil)) [some (.ref n), x, p, some (.str u.1), some (encT u.2), q] (G.set n w.cell) = .ok (encPr (u.1, t)) (G.set n w1.cell) := by simp [encPr, e, sz2]
      rw [List.map_cons]
      unfold lcL
      rw [show encPr (u.1, t) = D.tup [.str u.1, encT t] from rfl] at e2
      simp [eg, e, sz1, sz2, e2]
      rfl
    · rcases List.mem_cons.mp hv with rfl | hv
      · exact ot
      · exact p2 v hv
theorem pop_loop {f : List D → GH → R D} (hf : DrawOk f) (δ : DEnv) (hδ : δ.length = 6) (n m : Nat) (G : GH) (lt : n < G.length) (hm : m = G.length) (d0 : δ[0]? = some (some (.ref n))) (d2 : δ[2]? = some (some (.ref m))) : ∀ (items : List D) (left : List D) (w : Well) (acc : List D), items.length ≤ left.length → left.length < 4000 → acc.length + items.length < 4000 → 0 ≤ w.c → w.c + items.length < 1000000000 →
    ∃ (picked left' : List D) (w' : Well), lcL (fun _ => true) (gNm 5) tYesD (eMt "list" mPopAt (eVar 2) (aCons (eCall 2 f [] (aCons (eVar 0) (aCons (eCB (one dLen) (aCons (eVar 2) aNil)) aNil))) aNil)) δ items acc (G.set n w.cell ++ [.lst left]) =
      .ok (acc ++ picked) (G.set n w'.cell ++ [.lst left']) ∧ (picked ++ left').Perm left ∧ picked.length = items.length ∧ w.c ≤ w'.c ∧ w'.c ≤ w.c + items.length
  | [], left, w, acc, _, _, _, _, _ => ⟨[], left, w, by simp [lcL], by simp, rfl, Int.le_refl _, by simp⟩
  | x :: items, left, w, acc, h1, h2, h3, h4, h5 => by
    subst hm
    have l1 : 0 < left.length := by simp at h1; omega
    have lg : (G.set n w.cell).length = G.length := by simp
    have g1 : (G.set n w.cell ++ [Cell.lst left])[n]? = some w.cell := by rw [snoc_get (by rw [lg]; exact lt)]; simp [lt]
    have g2 : ∀ w : Well, (G.set n w.cell ++ [Cell.lst left])[G.length]? = some (.lst left) := fun w => by
      have := snoc_last (G.set n w.cell) (Cell.lst left)
      rwa [show (G.set n w.cell).length = G.length by simp] at this
    simp only [List.length_cons] at h1 h3 h5
    obtain ⟨r, w', e, r0, r1, c0, c1⟩ := hf w left.length n _ g1 (by omega) (by omega) h4 (by omega)
    rw [snoc_set (by rw [lg]; exact lt), List.set_set] at e
    have hj : r.toNat < left.length := by omega
    have er : r = ((r.toNat : Nat) : Int) := by omega
    have sl := snoc_setl (G.set n w'.cell) (Cell.lst left) (Cell.lst (left.eraseIdx r.toNat))
    rw [show (G.set n w'.cell).length = G.length by simp] at sl
    have pp := mPopAt_ap (G := G.set n w'.cell ++ [Cell.lst left]) (n := G.length) (xs := left) (j := r.toNat) (r := r) (g2 w') er hj (by omega)
    rw [sl] at pp
    obtain ⟨picked, left', w2, e2, p2, q2, c2, c3⟩ := pop_loop hf δ hδ n G.length G lt rfl d0 d2 items (left.eraseIdx r.toNat) w' (acc ++ [left[r.toNat]]) (by rw [List.length_eraseIdx_of_lt hj]; omega) (by rw [List.length_eraseIdx_of_lt hj]; omega) (by simp; omega) (by omega) (by omega)
    have perm : (left[r.toNat] :: left.eraseIdx r.toNat).Perm left := erase_perm left _ hj
    refine ⟨left[r.toNat] :: picked, left', w2, ?_, (List.Perm.cons _ p2).trans perm, by simp [q2], by omega, by simp; omega⟩
    have d0' : (δ.set 5 (some x))[0]? = some (some (D.ref n)) := by rw [List.getElem?_set_ne (by decide)]; exact d0
    have d2' : (δ.set 5 (some x))[2]? = some (some (D.ref G.length)) := by rw [List.getElem?_set_ne (by decide)]; exact d2
    have szl : acc.length < sizeLine := Nat.lt_of_lt_of_le (by omega : acc.length < 4000) (by decide)
    unfold lcL
    simp [d0', d2', tyM_list (g2 w), dLen_ref _ _ (g2 w), e, pp, szl, e2]
end K03
end CF
end
section
set_option maxRecDepth 100000
set_option maxHeartbeats 4000000
namespace CF
namespace K03
open PySem PySem.Spec PyProof.Rows L2
theorem encPr_inj_perm : ∀ {l : List (Str × Tr)} {m : List D}, m.Perm (l.map encPr) → ∃ k : List (Str × Tr), m = k.map encPr ∧ k.Perm l := by
  intro l m h
  generalize e : l.map encPr = x at h
  induction h generalizing l with
  | nil => exact ⟨[], rfl, by rw [List.map_eq_nil_iff.mp e]⟩
  | @cons a s t _ ih =>
    match l, e with
    | u :: us, e =>
      rw [List.map_cons, List.cons.injEq] at e
      obtain ⟨k, e1, p⟩ := ih e.2
      exact ⟨u :: k, by rw [List.map_cons, e.1, e1], .cons _ p⟩
  | swap a b s =>
    match l, e with
    | u :: v :: us, e =>
      simp only [List.map_cons, List.cons.injEq] at e
      exact ⟨v :: u :: us, by simp [e.1, e.2.1, e.2.2], .swap _ _ _⟩
  | trans _ _ i1 i2 =>
    obtain ⟨k, e1, p1⟩ := i2 e
    obtain ⟨k2, e2, p2⟩ := i1 e1.symm
    exact ⟨k2, e2, p2.trans p1⟩
theorem len_sum (ps : List (Str × Tr)) : ps.length ≤ (ps.map fun p => 1 + szT p.2).sum := by
  induction ps with
  | nil => simp
  | cons u us ih => simp only [List.map_cons, List.sum_cons, List.length_cons]; omega
theorem is_value1 (x : Str) (b a : D) (δ : DEnv) (G : GH) (hx : PyData.strOk x = true) : asB (eOp dEq (eOp dIx (eVar 1) (eC (.int 0))) (eC (.str "value"))) (some a :: some (.tup [.str x, b]) :: δ) G = .ok (x == "value") G := by
  have v1 : eVar 1 (some a :: some (D.tup [.str x, b]) :: δ) G = .ok (.tup [.str x, b]) G := rfl
  simp only [ap_asB, ap_eOp (f := dEq), ap_eOp (f := dIx), v1, dIx_tup, atI_0, R.bind_ok, ap_eC, dEq_str G hx ok_value]
theorem is_list1 (x : Str) (b a : D) (δ : DEnv) (G : GH) (hx : PyData.strOk x = true) : asB (eOp dEq (eOp dIx (eVar 1) (eC (.int 0))) (eC (.str "list"))) (some a :: some (.tup [.str x, b]) :: δ) G = .ok (x == "list") G := by
  have v1 : eVar 1 (some a :: some (D.tup [.str x, b]) :: δ) G = .ok (.tup [.str x, b]) G := rfl
  have ol : PyData.strOk ("list" : Str) = true := by decide +kernel
  simp only [ap_asB, ap_eOp (f := dEq), ap_eOp (f := dIx), v1, dIx_tup, atI_0, R.bind_ok, ap_eC, dEq_str G hx ol]
theorem m_sh {ns : List Str} : ∀ (r k : Nat), r ≤ k → ShOk ns (F_sh k) r
  | 0, _, _ => fun _ _ _ _ _ h => h.elim
  | r + 1, 0, h => by omega
  | r + 1, k + 1, hk => by
    intro w t n G h ok hl h0 hc
    have lt := lt_of_get h
    have gs : G.set n w.cell = G := by
      apply List.ext_getElem?
      intro i
      by_cases hi : n = i
      · subst hi; rw [List.getElem?_set_self lt, h]
      · rw [List.getElem?_set_ne hi]
    have st : ∀ a : D, startD N_sh [.ref n, a] = [some (.ref n), some a, none, none, none, none] := fun _ => rfl
    have z : ∀ b : D, sRet (eVar 1) [some (.ref n), some b, none, none, none, none] G = .rt b G := fun _ => rfl
    show ∃ (t' : Tr) (w' : Well), fzR G (defF N_sh (b__law_shuffled (F_sh k) F_draw) [.ref n, encT t] G) = _ ∧ _
    cases t with
    | val i =>
      refine ⟨.val i, w, ?_, ok, rfl, Int.le_refl _, by omega⟩
      rw [gs, encT_val, defF_ap, st]
      unfold b__law_shuffled
      simp only [ap_sSeq, ap_sIf, is_value1 _ _ _ _ _ ok_value, R.thn_ok, vv, if_true, z, RS.seq_rt]
      rw [← encT_val]
      exact fzR_ok0 (pure0_T _ _)
    | txt i =>
      refine ⟨.txt i, w, ?_, ok, rfl, Int.le_refl _, by omega⟩
      rw [gs, encT_txt, defF_ap, st]
      unfold b__law_shuffled
      simp only [ap_sSeq, ap_sIf, is_value1 _ _ _ _ _ ok_value, R.thn_ok, vv, if_true, z, RS.seq_rt]
      rw [← encT_txt]
      exact fzR_ok0 (pure0_T _ _)
    | node m ps =>
      obtain ⟨nd, inN, srt, sub⟩ := ok
      rw [szT_node] at hl hc ⊢
      have ln := len_sum ps
      obtain ⟨qs, w1, e1, n1, o1, z1, c0, c1⟩ := sh_loop (m_sh r k (by omega)) n G lt (some (.tup [.str (kindS m), .pt (ps.map encPr)])) none none ps w [] none none sub (by simp; omega) hl h0 hc
      rw [List.nil_append, gs] at e1
      have ql : qs.length = ps.length := by have := congrArg List.length n1; simpa using this
      have sz2 : (2 : Nat) ≤ sizeLine := by decide
      have it : ∀ (δ : DEnv) (G : GH), iSeq (eOp dIx (eVar 1) (eC (.int 1))) (some (.ref n) :: some (.tup [.str (kindS m), .pt (ps.map encPr)]) :: δ) G = .ok ⟨ps.map encPr, fun _ => true⟩ G := by
        intro δ G
        simp
      have s1 : sSet 2 (eLc mkM (iSeq (eOp dIx (eVar 1) (eC (.int 1)))) (gTp 2 (gsCons (gNm 3) (gsCons (gNm 4) gsNil))) tYesD (eTup (aCons (eVar 3) (aCons (eCall 2 (F_sh k) [] (aCons (eVar 0) (aCons (eVar 4) aNil))) aNil))) [3, 4]) [some (.ref n), some (.tup [.str (kindS m), .pt (ps.map encPr)]), none, none, none, none] G =
          .nx [some (.ref n), some (.tup [.str (kindS m), .pt (ps.map encPr)]), some (.ref G.length), none, none, none] (G.set n w1.cell ++ [.lst (qs.map encPr)]) := by
        have wd : wipeD [some (.ref n), some (D.tup [.str (kindS m), .pt (ps.map encPr)]), none, none, none, none] [3, 4] = [some (.ref n), some (D.tup [.str (kindS m), .pt (ps.map encPr)]), none, none, none, none] := rfl
        rw [ap_sSet, ap_eLc, it, R.bind_ok, if_pos rfl, wd, e1, R.bind_ok]
        simp [mkM]
      have s3 : ∀ (a : Nat) (J : GH) (L : List D) (x : Option D), J[a]? = some (.lst L) → sRet (eTup (aCons (eOp dIx (eVar 1) (eC (.int 0))) (aCons (eCB (one dTupP) (aCons (eVar 2) aNil)) aNil))) [some (.ref n), some (.tup [.str (kindS m), .pt (ps.map encPr)]), some (.ref a), none, none, x] J = .rt (.tup [.str (kindS m), .pt L]) J := by
        intro a J L x hJ
        have v1 : eVar 1 [some (D.ref n), some (.tup [.str (kindS m), .pt (ps.map encPr)]), some (.ref a), none, none, x] J = .ok (.tup [.str (kindS m), .pt (ps.map encPr)]) J := rfl
        have v2 : eVar 2 [some (D.ref n), some (.tup [.str (kindS m), .pt (ps.map encPr)]), some (.ref a), none, none, x] J = .ok (.ref a) J := rfl
        have tp : dTupP (.ref a) J = .ok (.pt L) J := by unfold dTupP; rw [lstOf_ref, hJ]
        simp only [ap_sRet, ap_eTup, ap_aCons, ap_eOp (f := dIx), v1, v2, R.bind_ok, ap_eC, dIx_tup, atI_0, ap_eCB, ap_aNil, ap_one, tp, List.length_cons, List.length_nil, Nat.zero_add, Nat.reduceAdd, sz2, if_true, R.thn_ok]
      have lG : (G.set n w1.cell).length = G.length := by simp
      have g1 : (G.set n w1.cell ++ [Cell.lst (qs.map encPr)])[G.length]? = some (.lst (qs.map encPr)) := by
        have := snoc_last (G.set n w1.cell) (Cell.lst (qs.map encPr))
        rwa [lG] at this
      cases m with
      | true =>
        refine ⟨.node true qs, w1, ?_, ⟨by rw [n1]; exact nd, by rw [n1]; exact inN, fun h => by rw [n1]; exact srt h, o1⟩, by rw [szT_node, z1], c0, by omega⟩
        have run : defF N_sh (b__law_shuffled (F_sh k) F_draw) [.ref n, encT (.node true ps)] G = .ok (encT (.node true qs)) (G.set n w1.cell ++ [.lst (qs.map encPr)]) := by
          rw [encT_node, defF_ap, st, encT_node]
          unfold b__law_shuffled
          simp only [ap_sSeq, ap_sIf, is_value1 _ _ _ _ _ (ok_kind true), ne_value, R.thn_ok, if_false, Bool.false_eq_true, ap_sNext, RS.seq_nx, s1, is_list1 _ _ _ _ _ (ok_kind true), eq_list, Bool.not_true, s3 _ _ _ _ g1]
        rw [run]
        exact fz_well lt (pure0_T _ _)
      | false =>
        obtain ⟨picked, left', w2, e2, p2, q2, c2, c3⟩ := pop_loop m_draw [some (.ref n), some (.tup [.str (kindS false), .pt (ps.map encPr)]), some (.ref G.length), none, none, none] rfl n G.length G lt rfl rfl rfl ((List.range qs.length).map fun i => .int (i : Nat)) (qs.map encPr) w1 [] (by simp) (by simp; omega) (by simp; omega) (by omega) (by simp; omega)
        simp only [List.length_map, List.length_range, List.nil_append] at q2 c3 e2
        have l0 : left' = [] := by
          have := p2.length_eq
          simp only [List.length_append, List.length_map] at this
          exact List.eq_nil_of_length_eq_zero (by omega)
        subst l0
        rw [List.append_nil] at p2
        obtain ⟨us, rfl, pu⟩ := encPr_inj_perm p2
        have nmp : (us.map (·.1)).Perm (ps.map (·.1)) := by rw [← n1]; exact pu.map _
        refine ⟨.node false us, w2, ?_, ⟨nmp.nodup_iff.mpr nd, fun x hx => inN x (nmp.mem_iff.mp hx), (fun h => by cases h), fun u hu => o1 u (pu.mem_iff.mp hu)⟩, by rw [szT_node, ← z1]; exact (pu.map _).sum_nat, by omega, by omega⟩
        have k1 : ∀ G, rng1K [.int qs.length] G = .ok (rngIts 0 qs.length) G := fun G => rng1K_nat (by omega)
        have s2 : sSet 2 (eLc mkM (iRg1 (aCons (eCB (one dLen) (aCons (eVar 2) aNil)) aNil)) (gNm 5) tYesD (eMt "list" mPopAt (eVar 2) (aCons (eCall 2 F_draw [] (aCons (eVar 0) (aCons (eCB (one dLen) (aCons (eVar 2) aNil)) aNil))) aNil)) [5]) [some (.ref n), some (.tup [.str (kindS false), .pt (ps.map encPr)]), some (.ref G.length), none, none, none] (G.set n w1.cell ++ [.lst (qs.map encPr)]) =
            .nx [some (.ref n), some (.tup [.str (kindS false), .pt (ps.map encPr)]), some (.ref (G.length + 1)), none, none, none] (G.set n w2.cell ++ [.lst [], .lst (us.map encPr)]) := by
          have wd : wipeD [some (.ref n), some (D.tup [.str (kindS false), .pt (ps.map encPr)]), some (.ref G.length), none, none, none] [5] = [some (.ref n), some (D.tup [.str (kindS false), .pt (ps.map encPr)]), some (.ref G.length), none, none, none] := rfl
          have la : aCons (eCB (one dLen) (aCons (eVar 2) aNil)) aNil [some (.ref n), some (.tup [.str (kindS false), .pt (ps.map encPr)]), some (.ref G.length), none, none, none] (G.set n w1.cell ++ [.lst (qs.map encPr)]) = .ok [.int qs.length] (G.set n w1.cell ++ [.lst (qs.map encPr)]) := by
            simp [dLen_ref _ _ g1]
          rw [ap_sSet, ap_eLc, ap_iRg1, la, R.bind_ok, k1, R.bind_ok, rngIts_chk, if_pos rfl, rngIts_items, wd]
          simp only [Int.zero_add]
          rw [e2, R.bind_ok]
          simp [mkM]
        have g2 : (G.set n w2.cell ++ [Cell.lst [], Cell.lst (us.map encPr)])[G.length + 1]? = some (.lst (us.map encPr)) := by
          rw [List.getElem?_append_right (by simp)]
          simp
        have run : defF N_sh (b__law_shuffled (F_sh k) F_draw) [.ref n, encT (.node false ps)] G = .ok (encT (.node false us)) (G.set n w2.cell ++ [.lst [], .lst (us.map encPr)]) := by
          rw [encT_node, defF_ap, st, encT_node]
          unfold b__law_shuffled
          simp only [ap_sSeq, ap_sIf, is_value1 _ _ _ _ _ (ok_kind false), ne_value, R.thn_ok, if_false, if_true, Bool.false_eq_true, ap_sNext, RS.seq_nx, s1, is_list1 _ _ _ _ _ (ok_kind false), eq_list, Bool.not_false, s2, s3 _ _ _ _ g2]
        rw [run]
        exact fz_well lt (pure0_T _ _)
end K03
end CF
end
section
set_option maxRecDepth 100000
set_option maxHeartbeats 4000000
namespace CF
namespace K03
open PySem PySem.Spec PyProof.Rows L2
noncomputable def F_well : List D → GH → R D := defF ["_law_cell"] b__law_well
theorem m_well (c : Int) (G : GH) : ∃ w : Well, F_well [.int c] G = .ok (.ref G.length) (G ++ [w.cell]) ∧ w.c = 0 := by
  refine ⟨⟨if c ≥ 10 ^ 18 then c else 0, c, 0⟩, ?_, rfl⟩
  have p18 : dPow (.int 10) (.int 18) G = .ok (.int (10 ^ 18)) G := by simp
  have st : startD ["_law_cell"] [D.int c] = [some (.int c)] := rfl
  unfold F_well b__law_well
  rw [defF_ap, st]
  have sz3 : (3 : Nat) ≤ sizeLine := by decide
  have sz2 : (2 : Nat) ≤ sizeLine := by decide
  by_cases h : (1000000000000000000 : Int) ≤ c
  · simp [Well.cell, h, sz2, sz3, atI, ixN]
  · simp [Well.cell, h, sz2, sz3, atI, ixN]
/-! ### a part by its name -/
noncomputable def F_part : List D → GH → R D := defF ["_law_tree_here", "_law_name", "_law_one_here", "_law_node"] b__law_part
theorem part_loop {ns : List Str} (hns : ∀ n ∈ ns, PyData.strOk n = true) {nm : Str} (hnm : nm ∈ ns) (x : Option D) (G : GH) : ∀ (ps : List (Str × Tr)) (acc : List D), (∀ u ∈ ps, u.1 ∈ ns) → acc.length + ps.length < 4000 →
    lcL (fun _ => true) (gTp 2 (gsCons (gNm 2) (gsCons (gNm 3) gsNil))) (asB (eOp dEq (eVar 2) (eVar 1))) (eVar 3) [x, some (.str nm), none, none] (ps.map encPr) acc G = .ok (acc ++ (ps.filter fun u => u.1 == nm).map fun u => encT u.2) G
  | [], acc, _, _ => by simp [lcL]
  | u :: ps, acc, hm, hl => by
    rw [List.length_cons] at hl
    have eg : gTp 2 (gsCons (gNm 2) (gsCons (gNm 3) gsNil)) (encPr u) [x, some (.str nm), none, none] G = .nx [x, some (.str nm), some (.str u.1), some (encT u.2)] G := by simp [encPr]
    have et : asB (eOp dEq (eVar 2) (eVar 1)) [x, some (.str nm), some (.str u.1), some (encT u.2)] G = .ok (u.1 == nm) G := by
      have v2 : eVar 2 [x, some (D.str nm), some (.str u.1), some (encT u.2)] G = .ok (.str u.1) G := rfl
      have v1 : eVar 1 [x, some (D.str nm), some (.str u.1), some (encT u.2)] G = .ok (.str nm) G := rfl
      simp only [ap_asB, ap_eOp (f := dEq), v1, v2, R.bind_ok, dEq_str G (hns _ (hm u (.head _))) (hns _ hnm)]
    have v3 : eVar 3 [x, some (D.str nm), some (.str u.1), some (encT u.2)] G = .ok (encT u.2) G := rfl
    have sz1 : acc.length < sizeLine := Nat.lt_of_lt_of_le (by omega : acc.length < 4000) (by decide)
    have ih := part_loop hns hnm x G ps
    rw [List.map_cons]
    unfold lcL
    rw [eg]
    dsimp only
    rw [et]
    cases hb : (u.1 == nm) with
    | true =>
      have ih := ih (acc ++ [encT u.2]) (fun v hv => hm v (.tail _ hv)) (by simp; omega)
      simp [v3, sz1, ih, hb]
    | false =>
      have ih := ih acc (fun v hv => hm v (.tail _ hv)) (by omega)
      simp [ih, hb]
theorem filt_key {ps : List (Str × Tr)} (nd : (ps.map (·.1)).Nodup) {u : Str × Tr} (hu : u ∈ ps) : ps.filter (fun v => v.1 == u.1) = [u] := by
  induction ps with
  | nil => cases hu
  | cons v vs ih =>
    rw [List.map_cons, List.nodup_cons] at nd
    rcases List.mem_cons.mp hu with e | hu
    · subst e
      rw [List.filter_cons, if_pos (by simp), filt_none fun w hw => ?_]
      have : w.1 ≠ u.1 := fun e => nd.1 (by rw [← e]; exact List.mem_map_of_mem (f := fun x => x.1) hw)
      simpa using this
    · have : v.1 ≠ u.1 := fun e => nd.1 (by rw [e]; exact List.mem_map_of_mem (f := fun x => x.1) hu)
      rw [List.filter_cons, if_neg (by simpa using this), ih nd.2 hu]
theorem m_part {ns : List Str} (hns : ∀ n ∈ ns, PyData.strOk n = true) {m : Bool} {ps : List (Str × Tr)} (nd : (ps.map (·.1)).Nodup) (hm : ∀ u ∈ ps, u.1 ∈ ns) (hl : ps.length < 4000) {u : Str × Tr} (hu : u ∈ ps) (G : GH) :
    F_part [encT (.node m ps), .str u.1] G = .ok (encT u.2) G := by
  have lp := part_loop hns (hm u hu) (some (encT (.node m ps))) G ps [] hm (by simpa using hl)
  rw [filt_key nd hu, List.nil_append] at lp
  have st : startD ["_law_tree_here", "_law_name", "_law_one_here", "_law_node"] [encT (.node m ps), D.str u.1] = [some (encT (.node m ps)), some (.str u.1), none, none] := rfl
  have it : iSeq (eOp dIx (eVar 0) (eC (.int 1))) [some (encT (.node m ps)), some (.str u.1), none, none] G = .ok ⟨ps.map encPr, fun _ => true⟩ G := by
    rw [encT_node]; simp
  have wd : wipeD [some (encT (.node m ps)), some (D.str u.1), none, none] [2, 3] = [some (encT (.node m ps)), some (D.str u.1), none, none] := rfl
  unfold F_part b__law_part
  rw [defF_ap, st, ap_sRet, ap_eOp, ap_eLc, it, R.bind_ok, if_pos rfl, wd, lp]
  simp
end K03
end CF
end
section
set_option maxRecDepth 100000
set_option maxHeartbeats 4000000
namespace CF
namespace K03
open PySem PySem.Spec PyProof.Rows L2
/-- a leaf put at a path -/
def withT : List Str → Tr → Tr → Tr
  | [], _, v => v
  | n :: s, .node m ps, v => .node m (ps.map fun u => if u.1 == n then (u.1, withT s u.2 v) else u)
  | _ :: _, t, _ => t
/-- the path goes through nodes -/
def vp : List Str → Tr → Prop
  | [], _ => True
  | n :: s, .node _ ps => ∀ u ∈ ps, u.1 = n → vp s u.2
  | _ :: _, _ => False
theorem with_names (n : Str) (s : List Str) (v : Tr) (ps : List (Str × Tr)) : (ps.map fun u => if u.1 == n then (u.1, withT s u.2 v) else u).map (·.1) = ps.map (·.1) := by
  rw [List.map_map]
  refine List.map_congr_left fun u _ => ?_
  show (if u.1 == n then (u.1, withT s u.2 v) else u).1 = u.1
  split <;> rfl
theorem okT_with {ns : List Str} {v : Tr} (hv : ∀ r, okT ns (r + 1) v) : ∀ (p : List Str) (r : Nat) (t : Tr), okT ns r t → okT ns r (withT p t v)
  | _, 0, _, h => h.elim
  | [], r + 1, _, _ => by rw [withT]; exact hv r
  | n :: s, r + 1, .val _, h => by rw [withT]; exact h; intros; contradiction
  | n :: s, r + 1, .txt _, h => by rw [withT]; exact h; intros; contradiction
  | n :: s, r + 1, .node m ps, ⟨nd, inN, srt, sub⟩ => by
    rw [withT]
    refine ⟨by rw [with_names]; exact nd, by rw [with_names]; exact inN, by rw [with_names]; exact srt, fun q hq => ?_⟩
    obtain ⟨u, hu, rfl⟩ := List.mem_map.mp hq
    split
    · exact okT_with hv s r u.2 (sub u hu)
    · exact sub u hu
theorem sz_with {v : Tr} (hv : szT v = 0) : ∀ (p : List Str) (t : Tr), szT (withT p t v) ≤ szT t
  | [], t => by rw [withT, hv]; exact Nat.zero_le _
  | n :: s, .val _ => by rw [withT]; exact Nat.le_refl _; intros; contradiction
  | n :: s, .txt _ => by rw [withT]; exact Nat.le_refl _; intros; contradiction
  | n :: s, .node m ps => by
    rw [withT, szT_node, szT_node, List.map_map]
    induction ps with
    | nil => exact Nat.le_refl _
    | cons u us ih =>
      simp only [List.map_cons, List.sum_cons]
      refine Nat.add_le_add ?_ ih
      show 1 + szT (if u.1 == n then (u.1, withT s u.2 v) else u).2 ≤ _
      split
      · exact Nat.add_le_add_left (sz_with hv s u.2) 1
      · exact Nat.le_refl _
theorem nd_pre {ns : List Str} {r : Nat} {t : Tr} {p : List Str} (h : okT ns r t) {q : List Str × Tr} (hq : q ∈ ndT p t) : ∃ s, q.1 = p ++ s :=
  bq_pre r t p h (bareQ q) (List.mem_map_of_mem hq)
theorem vp_nd {ns : List Str} : ∀ (r : Nat) (t : Tr) (p s : List Str) (q : Tr), okT ns r t → (p ++ s, q) ∈ ndT p t → vp s t
  | 0, _, _, _, _, h, _ => h.elim
  | _ + 1, t, _, [], _, _, _ => by rw [vp]; exact True.intro
  | r + 1, .val _, p, n :: s, q, _, h => by
    rw [ndT] at h
    simp at h
  | r + 1, .txt _, p, n :: s, q, _, h => by
    rw [ndT] at h
    simp at h
  | r + 1, .node m ps, p, n :: s, q, ⟨nd, inN, srt, sub⟩, h => by
    rw [ndT] at h
    rcases List.mem_cons.mp h with e | h
    · simp at e
    · rw [vp]
      clear inN srt
      induction ps with
      | nil => intro u hu; cases hu
      | cons w ws ih =>
        obtain ⟨o, t⟩ := w
        rw [List.map_cons, List.nodup_cons] at nd
        rw [ndP] at h
        intro u hu eu
        rcases List.mem_append.mp h with h | h
        · obtain ⟨s', e⟩ := nd_pre (sub _ (.head _)) h
          have e : p ++ n :: s = p ++ [o] ++ s' := e
          rw [List.append_assoc] at e
          have e := List.append_cancel_left e
          simp only [List.singleton_append, List.cons.injEq] at e
          obtain ⟨rfl, rfl⟩ := e
          rcases List.mem_cons.mp hu with rfl | hu
          · exact vp_nd r t (p ++ [n]) s q (sub _ (.head _)) (by rw [List.append_assoc]; exact h)
          · exact absurd (by rw [← eu]; exact List.mem_map_of_mem (f := fun x => x.1) hu) nd.1
        · rcases List.mem_cons.mp hu with rfl | hu
          · have hb : bareQ (p ++ n :: s, q) ∈ bp p ws := List.mem_map_of_mem h
            have on : onN p n (bareQ (p ++ n :: s, q)) = true := by
              unfold onN bareQ
              refine decide_eq_true ?_
              show (p ++ n :: s).take (p.length + 1) = p ++ [n]
              rw [List.take_append]
              simp
              exact List.take_of_length_le (Nat.le_succ _)
            have := filt_out (p := p) (n := n) (fun q hq => sub q (.tail _ hq)) (by rw [← eu]; exact nd.1)
            have hf := List.mem_filter.mpr ⟨hb, on⟩
            rw [this] at hf
            cases hf
          · exact ih nd.2 (fun q hq => sub q (.tail _ hq)) (.tail _ h) h u hu eu
end K03
end CF
end
section
set_option maxRecDepth 100000
set_option maxHeartbeats 4000000
namespace CF
namespace K03
open PySem PySem.Spec PyProof.Rows L2
abbrev N_wi : List Str := ["_law_tree_here", "_law_path", "_law_value", "_law_parts", "_law_name", "_law_node"]
noncomputable def F_wi : Nat → List D → GH → R D
  | 0 => fNo
  | k + 1 => fun ds G => fzR G (defF N_wi (b__law_with (F_wi k)) ds G)
theorem path_nil {p : List Str} (h : ∀ x ∈ p, PyData.strOk x = true) (G : GH) : dEq (encW p) (encW []) G = .ok (.bl (decide (p = []))) G := by
  have hp := pyAll_strs h
  have hd := depth_strs p
  unfold dEq pyEq encW
  rw [res_tup, res_tup, D.py, D.py, hp]
  simp only [List.map_nil, D.pyAll]
  rw [if_pos ⟨by simp only [PyData.depth]; omega, by simp [PyData.depth, PyData.depthAll]⟩, PyData.eqv]
  cases p with
  | nil => simp [PyData.eqvAll]
  | cons a l => simp [PyData.eqvAll]
theorem cut_tail (x : D) (l : List D) : cutD (x :: l) (some 1) none = l := by
  unfold cutD HT.sIx
  simp
theorem m_wi {ns : List Str} (hns : ∀ n ∈ ns, PyData.strOk n = true) {v : Tr} {y : D} (hv : encT v = .tup [.str "value", y]) : ∀ (p : List Str) (r k : Nat) (t : Tr) (G : GH), p.length < k → p.length < 1000 → (∀ x ∈ p, PyData.strOk x = true) → okT ns r t → szT t < 4000 → vp p t → F_wi k [encT t, encW p, y] G = .ok (encT (withT p t v)) G
  | p, _, 0, _, _, hk, _, _, _, _, _ => by omega
  | [], r, k + 1, t, G, _, _, _, _, _, _ => by
    have st : startD N_wi [encT t, encW [], y] = [some (encT t), some (encW []), some y, none, none, none] := rfl
    have sz2 : (2 : Nat) ≤ sizeLine := by decide
    have sz0 : (0 : Nat) ≤ sizeLine := by decide
    have t1 : asB (eOp dEq (eVar 1) (eTup aNil)) [some (encT t), some (encW []), some y, none, none, none] G = .ok true G := by
      have v1 : eVar 1 [some (encT t), some (encW []), some y, none, none, none] G = .ok (encW []) G := rfl
      have te : eTup aNil [some (encT t), some (encW []), some y, none, none, none] G = .ok (encW []) G := by
        rw [ap_eTup, ap_aNil, R.bind_ok, if_pos (show ([] : List D).length ≤ sizeLine from sz0)]; rfl
      rw [ap_asB, ap_eOp, v1, R.bind_ok, te, R.bind_ok, path_nil (p := []) (fun x h => nomatch h)]
      simp
    have s2 : sRet (eTup (aCons (eC (.str "value")) (aCons (eVar 2) aNil))) [some (encT t), some (encW []), some y, none, none, none] G = .rt (encT v) G := by
      rw [hv]
      simp [sz2]
    show fzR G (defF N_wi (b__law_with (F_wi k)) [encT t, encW [], y] G) = _
    rw [withT, defF_ap, st]
    unfold b__law_with
    simp only [ap_sSeq, ap_sIf, t1, R.thn_ok, if_true, s2, RS.seq_rt]
    exact fzR_ok0 (pure0_T _ _)
  | n :: s, 0, k + 1, _, _, _, _, _, h, _, _ => h.elim
  | n :: s, r + 1, k + 1, .val _, _, _, _, _, _, _, h => by rw [vp] at h; exact h.elim; intros; contradiction
  | n :: s, r + 1, k + 1, .txt _, _, _, _, _, _, _, h => by rw [vp] at h; exact h.elim; intros; contradiction
  | n :: s, r + 1, k + 1, .node m ps, G, hk, hk2, hp, ⟨nd, inN, srt, sub⟩, hl, h => by
    rw [vp] at h
    rw [szT_node] at hl
    have ln := len_sum ps
    have sz2 : (2 : Nat) ≤ sizeLine := by decide
    have sz0 : (0 : Nat) ≤ sizeLine := by decide
    let f : Str × Tr → Str × Tr := fun u => if u.1 == n then (u.1, withT s u.2 v) else u
    have st : startD N_wi [encT (.node m ps), encW (n :: s), y] = [some (encT (.node m ps)), some (encW (n :: s)), some y, none, none, none] := rfl
    have t1 : asB (eOp dEq (eVar 1) (eTup aNil)) [some (encT (.node m ps)), some (encW (n :: s)), some y, none, none, none] G = .ok false G := by
      have v1 : eVar 1 [some (encT (.node m ps)), some (encW (n :: s)), some y, none, none, none] G = .ok (encW (n :: s)) G := rfl
      have te : eTup aNil [some (encT (.node m ps)), some (encW (n :: s)), some y, none, none, none] G = .ok (encW []) G := by
        rw [ap_eTup, ap_aNil, R.bind_ok, if_pos (show ([] : List D).length ≤ sizeLine from sz0)]; rfl
      rw [ap_asB, ap_eOp, v1, R.bind_ok, te, R.bind_ok, path_nil hp]
      simp
    have s1 : sSet 3 (eLstM aNil) [some (encT (.node m ps)), some (encW (n :: s)), some y, none, none, none] G = .nx [some (encT (.node m ps)), some (encW (n :: s)), some y, some (.ref G.length), none, none] (G ++ [Cell.lst []]) := rfl
    have key : ∀ (us : List (Str × Tr)) (acc : List (Str × Tr)) (a b : Option D), (∀ u ∈ us, u ∈ ps) → acc.length + us.length < 4000 → ∃ a' b', sForL (fun _ => true) (gTp 2 (gsCons (gNm 4) (gsCons (gNm 5) gsNil))) (sDrop (eMt "list" mAppend (eVar 3) (aCons (eTup (aCons (eVar 4) (aCons (eIf (asB (eOp dEq (eVar 4) (eOp dIx (eVar 1) (eC (.int 0))))) (eCall 3 (F_wi k) [] (aCons (eVar 5) (aCons (eSl mkF (eVar 1) (some (eC (.int 1))) none) (aCons (eVar 2) aNil)))) (eVar 5)) aNil))) aNil)))
        (us.map encPr) [some (encT (.node m ps)), some (encW (n :: s)), some y, some (.ref G.length), a, b] (G ++ [Cell.lst (acc.map encPr)]) = .nx [some (encT (.node m ps)), some (encW (n :: s)), some y, some (.ref G.length), a', b'] (G ++ [Cell.lst ((acc ++ us.map f).map encPr)]) := by
      intro us
      induction us with
      | nil => intro acc a b _ _; exact ⟨a, b, by simp [sForL]⟩
      | cons u us ih =>
        intro acc a b hm hz
        rw [List.length_cons] at hz
        obtain ⟨a', b', ih⟩ := ih (acc ++ [f u]) (some (.str u.1)) (some (encT u.2)) (fun u hu => hm u (.tail _ hu)) (by rw [List.length_append, List.length_singleton]; omega)
        refine ⟨a', b', ?_⟩
        have hu := hm u (.head _)
        have okn : PyData.strOk u.1 = true := hns _ (inN _ (List.mem_map_of_mem (f := fun x => x.1) hu))
        have szu := sz_mem hu
        rw [List.map_cons]
        unfold sForL
        have eg : gTp 2 (gsCons (gNm 4) (gsCons (gNm 5) gsNil)) (encPr u) [some (encT (.node m ps)), some (encW (n :: s)), some y, some (.ref G.length), a, b] (G ++ [Cell.lst (acc.map encPr)]) = .nx [some (encT (.node m ps)), some (encW (n :: s)), some y, some (.ref G.length), some (.str u.1), some (encT u.2)] (G ++ [Cell.lst (acc.map encPr)]) := by simp [encPr]
        have gl : (G ++ [Cell.lst (acc.map encPr)])[G.length]? = some (.lst (acc.map encPr)) := snoc_last _ _
        have ap := mAppend_ap (y := encPr (f u)) gl (by rw [List.length_map]; exact Nat.lt_of_lt_of_le (by omega : acc.length < 4000) (by decide))
        rw [snoc_setl] at ap
        generalize hJ : G ++ [Cell.lst (acc.map encPr)] = J at eg gl ap ⊢
        generalize hT : encT (.node m ps) = T at eg ih ⊢
        have v1 : eVar 1 [some T, some (encW (n :: s)), some y, some (.ref G.length), some (.str u.1), some (encT u.2)] J = .ok (encW (n :: s)) J := rfl
        have v2 : eVar 2 [some T, some (encW (n :: s)), some y, some (.ref G.length), some (.str u.1), some (encT u.2)] J = .ok y J := rfl
        have v3 : eVar 3 [some T, some (encW (n :: s)), some y, some (.ref G.length), some (.str u.1), some (encT u.2)] J = .ok (.ref G.length) J := rfl
        have v4 : eVar 4 [some T, some (encW (n :: s)), some y, some (.ref G.length), some (.str u.1), some (encT u.2)] J = .ok (.str u.1) J := rfl
        have v5 : eVar 5 [some T, some (encW (n :: s)), some y, some (.ref G.length), some (.str u.1), some (encT u.2)] J = .ok (encT u.2) J := rfl
        have i0 : eOp dIx (eVar 1) (eC (.int 0)) [some T, some (encW (n :: s)), some y, some (.ref G.length), some (.str u.1), some (encT u.2)] J = .ok (.str n) J := by
          rw [ap_eOp, v1, R.bind_ok]; simp [encW]
        have te : asB (eOp dEq (eVar 4) (eOp dIx (eVar 1) (eC (.int 0)))) [some T, some (encW (n :: s)), some y, some (.ref G.length), some (.str u.1), some (encT u.2)] J = .ok (u.1 == n) J := by
          simp only [ap_asB, ap_eOp (f := dEq), v4, i0, R.bind_ok, dEq_str J okn (hp n (.head _))]
        have sl : eSl mkF (eVar 1) (some (eC (.int 1))) none [some T, some (encW (n :: s)), some y, some (.ref G.length), some (.str u.1), some (encT u.2)] J = .ok (encW s) J := by
          unfold eSl
          rw [v1, R.bind_ok]
          show dSl mkF (encW (n :: s)) (some 1) none J = _
          show R.ok (D.tup (cutD (D.str n :: s.map D.str) (some 1) none)) J = _
          rw [cut_tail]
          rfl
        have ei : eIf (asB (eOp dEq (eVar 4) (eOp dIx (eVar 1) (eC (.int 0))))) (eCall 3 (F_wi k) [] (aCons (eVar 5) (aCons (eSl mkF (eVar 1) (some (eC (.int 1))) none) (aCons (eVar 2) aNil)))) (eVar 5) [some T, some (encW (n :: s)), some y, some (.ref G.length), some (.str u.1), some (encT u.2)] J = .ok (encT (f u).2) J := by
          unfold eIf
          rw [te, R.bind_ok]
          cases hb : (u.1 == n) with
          | false =>
            simp only [Bool.false_eq_true, if_false, v5, f, hb]
          | true =>
            have rc := m_wi hns hv s r k u.2 J (by rw [List.length_cons] at hk; omega) (by rw [List.length_cons] at hk2; omega) (fun x hx => hp x (.tail _ hx)) (sub u hu) (by omega) (h u hu (by simpa using hb))
            rw [if_pos rfl, ap_eCall, ap_aCons, v5, R.bind_ok, ap_aCons, sl, R.bind_ok, ap_aCons, v2, R.bind_ok, ap_aNil, R.bind_ok, R.bind_ok, R.bind_ok, R.bind_ok, List.append_nil, if_pos (show [encT u.2, encW s, y].length = 3 from rfl), rc]
            simp only [f, hb, if_true]
        have f1 : (f u).1 = u.1 := by simp only [f]; split <;> rfl
        have tu : eTup (aCons (eVar 4) (aCons (eIf (asB (eOp dEq (eVar 4) (eOp dIx (eVar 1) (eC (.int 0))))) (eCall 3 (F_wi k) [] (aCons (eVar 5) (aCons (eSl mkF (eVar 1) (some (eC (.int 1))) none) (aCons (eVar 2) aNil)))) (eVar 5)) aNil)) [some T, some (encW (n :: s)), some y, some (.ref G.length), some (.str u.1), some (encT u.2)] J = .ok (encPr (f u)) J := by
          rw [ap_eTup, ap_aCons, v4, R.bind_ok, ap_aCons, ei, R.bind_ok, ap_aNil, R.bind_ok, R.bind_ok, R.bind_ok, if_pos (show [D.str u.1, encT (f u).2].length ≤ sizeLine from sz2)]
          unfold encPr
          rw [f1]
        rw [eg]
        dsimp only
        rw [ap_sDrop, ap_eMt, v3, R.bind_ok, if_pos (tyM_list gl), ap_aCons, tu, R.bind_ok, ap_aNil, R.bind_ok, R.bind_ok, ap, R.thn_ok]
        dsimp only
        rw [if_pos rfl, show (acc.map encPr ++ [encPr (f u)]) = (acc ++ [f u]).map encPr by simp, ih]
        simp
    obtain ⟨a', b', l1⟩ := key ps [] none none (fun u h => h) (by rw [List.length_nil]; omega)
    rw [List.nil_append] at l1
    have it : iSeq (eOp dIx (eVar 0) (eC (.int 1))) [some (encT (.node m ps)), some (encW (n :: s)), some y, some (.ref G.length), none, none] (G ++ [Cell.lst []]) = .ok ⟨ps.map encPr, fun _ => true⟩ (G ++ [Cell.lst []]) := by
      rw [encT_node]; simp
    have g1 : (G ++ [Cell.lst ((ps.map f).map encPr)])[G.length]? = some (.lst ((ps.map f).map encPr)) := snoc_last _ _
    have s3 : sRet (eTup (aCons (eOp dIx (eVar 0) (eC (.int 0))) (aCons (eCB (one dTupP) (aCons (eVar 3) aNil)) aNil))) [some (encT (.node m ps)), some (encW (n :: s)), some y, some (.ref G.length), a', b'] (G ++ [Cell.lst ((ps.map f).map encPr)]) = .rt (encT (.node m (ps.map f))) (G ++ [Cell.lst ((ps.map f).map encPr)]) := by
      rw [encT_node, encT_node]
      have v3 : eVar 3 [some (D.tup [.str (kindS m), .pt (ps.map encPr)]), some (encW (n :: s)), some y, some (.ref G.length), a', b'] (G ++ [Cell.lst ((ps.map f).map encPr)]) = .ok (.ref G.length) (G ++ [Cell.lst ((ps.map f).map encPr)]) := rfl
      have v0 : eVar 0 [some (D.tup [.str (kindS m), .pt (ps.map encPr)]), some (encW (n :: s)), some y, some (.ref G.length), a', b'] (G ++ [Cell.lst ((ps.map f).map encPr)]) = .ok (.tup [.str (kindS m), .pt (ps.map encPr)]) (G ++ [Cell.lst ((ps.map f).map encPr)]) := rfl
      have tp : dTupP (.ref G.length) (G ++ [Cell.lst ((ps.map f).map encPr)]) = .ok (.pt ((ps.map f).map encPr)) (G ++ [Cell.lst ((ps.map f).map encPr)]) := by unfold dTupP; rw [lstOf_ref, g1]
      simp only [ap_sRet, ap_eTup, ap_aCons, ap_eOp (f := dIx), v0, v3, R.bind_ok, ap_eC, dIx_tup, atI_0, ap_eCB, ap_aNil, ap_one, tp, List.length_cons, List.length_nil, Nat.zero_add, Nat.reduceAdd, sz2, if_true, R.thn_ok]
    show fzR G (defF N_wi (b__law_with (F_wi k)) [encT (.node m ps), encW (n :: s), y] G) = _
    have run : defF N_wi (b__law_with (F_wi k)) [encT (.node m ps), encW (n :: s), y] G = .ok (encT (.node m (ps.map f))) (G ++ [Cell.lst ((ps.map f).map encPr)]) := by
      rw [defF_ap, st]
      unfold b__law_with
      simp only [ap_sSeq, ap_sIf, t1, R.thn_ok, Bool.false_eq_true, if_false, ap_sNext, RS.seq_nx, s1, ap_sFor, it, if_true]
      erw [l1]
      simp only [RS.seq_nx, s3]
    rw [run, withT]
    exact fzR_ok (pure0_T _ _)
end K03
end CF
end
section
set_option maxRecDepth 100000
set_option maxHeartbeats 4000000
namespace CF
namespace K03
open PySem PySem.Spec PyProof.Rows L2
/-! ### the values near a value -/
theorem okS_app {a b : Str} {n m : Nat} (ha : a.cps.toList.all plainC = true) (hb : b.cps.toList.all plainC = true) (la : a.length ≤ n) (lb : b.length ≤ m) (h : n + m ≤ 1000) : okS (a ++ b) = true := by
  have e : (a ++ b).cps.toList = a.cps.toList ++ b.cps.toList := by rw [Str.cps_append, Array.toList_append]
  have all : (a ++ b).cps.toList.all plainC = true := by rw [e, List.all_append, ha, hb]; rfl
  unfold okS
  rw [Bool.and_eq_true, Bool.and_eq_true]
  refine ⟨⟨?_, decide_eq_true ?_⟩, all⟩
  · unfold PyData.strOk
    rw [← Array.all_toList, List.all_eq_true]
    exact fun c hc => decide_eq_true (plain_lt (List.all_eq_true.mp all c hc))
  · have l : (a ++ b).length = a.length + b.length := by
      have := congrArg List.length e
      simpa [Str.length] using this
    omega
theorem dig_plain (n : Nat) : ((Nat.repr n).toList.map Char.toNat).all plainC = true := by
  rw [Nat.toList_repr, List.all_eq_true]
  intro c hc
  obtain ⟨ch, hch, rfl⟩ := List.mem_map.mp hc
  have h := toDig_dig n ch hch
  unfold Char.isDigit at h
  simp only [Bool.and_eq_true, decide_eq_true_eq] at h
  have h1 : 48 ≤ ch.toNat := h.1
  have h2 : ch.toNat ≤ 57 := h.2
  unfold plainC
  simp only [Bool.and_eq_true, decide_eq_true_eq, Bool.not_eq_true', beq_eq_false_iff_ne]
  omega
theorem int_plain (i : Int) : (Str.ofString (toString i)).cps.toList.all plainC = true := by
  rw [signs_of]
  match i with
  | .ofNat n => exact dig_plain n
  | .negSucc n =>
    show (("-" ++ Nat.repr (n + 1)).toList.map Char.toNat).all plainC = true
    rw [String.toList_append, List.map_append, List.all_append, dig_plain]
    rfl
theorem repr_short {n : Nat} (h : n ≤ 100000000000000000001) : (Nat.repr n).toList.length ≤ 22 := by
  rw [Nat.toList_repr]
  refine (Nat.length_toDigits_le_iff (by decide) (by decide)).mpr (Nat.lt_of_le_of_lt h ?_)
  decide
theorem int_short {i : Int} (h : -100000000000000000000 ≤ i ∧ i ≤ 100000000000000000000) : (Str.ofString (toString i)).length ≤ 30 := by
  have e : (Str.ofString (toString i)).length = (toString i).toList.length := by
    have := congrArg List.length (signs_of (toString i))
    simpa [Str.length] using this
  rw [e]
  cases i with
  | ofNat n =>
    have := repr_short (n := n) (by have : (n : Int) ≤ 100000000000000000000 := h.2; omega)
    exact Nat.le_trans this (by decide)
  | negSucc n =>
    have := repr_short (n := n + 1) (by have := h.1; omega)
    have e2 : (toString (Int.negSucc n)).toList = "-".toList ++ (Nat.repr (n + 1)).toList := by
      show ("-" ++ Nat.repr (n + 1)).toList = _
      rw [String.toList_append]
    rw [e2, List.length_append]
    have e1 : ("-" : String).toList.length = 1 := rfl
    omega
end K03
end CF
end
section
set_option maxRecDepth 100000
set_option maxHeartbeats 4000000
namespace CF
namespace K03
open PySem PySem.Spec PyProof.Rows L2
/-! ### a near tree -/
local macro_rules
  | `(tactic| exists $es,*) => `(tactic| simp (disch := first | assumption | omega | (simp only [List.length_set, List.length_append, List.length_cons, List.length_nil]; omega)) only [↓wp_ok, ↓wp_ex, ↓wp_bind, ↓wp_guard, ↓wp_nox, ↓sp_nx, ↓sp_rt, ↓sp_bk, ↓sp_ct, ↓sp_ex, ↓sp_seq, ↓sp_thn, ↓sp_guard,
      ↓w_eC, ↓w_eVar, ↓w_aNil, ↓w_aCons, ↓w_eTup, ↓w_eTupP, ↓w_eLst, ↓w_eLstM, ↓w_eOp, ↓w_eChain, ↓w_asB, ↓w_tAnd, ↓w_tOr, ↓w_tNot, ↓w_eTru, ↓w_eIf, ↓w_sNext, ↓w_sSeq, ↓w_sRet, ↓w_sRetN, ↓w_sIf, ↓w_sSet, ↓w_sDrop, ↓w_sBreak, ↓w_sCont, ↓w_gNm, ↓w_gsNil, ↓w_gsCons, ↓w_gTp, ↓w_sAsg, ↓w_eOne, ↓w_eUn, ↓w_eCB, ↓w_one, ↓w_eCall, ↓w_eAnd, ↓w_eOr, ↓w_eNot, ↓w_iSeq, ↓w_eLc, ↓w_sFor, ↓w_mkF, ↓w_mkM, ↓w_tYes, ↓w_eMt, ↓w_eMt0, ↓w_iRg1,
      wipeD_nil, wipeD_cons, List.cons_append, List.nil_append, List.append_nil, ap_setI, eSl_ap, eOpt_none, eOpt_some,
      List.getElem?_cons_zero, List.getElem?_cons_succ, List.set_cons_zero, List.set_cons_succ, List.length_cons, List.length_nil, List.length_set, Nat.zero_add, Nat.reduceAdd, Nat.reduceSub, Nat.add_one_sub_one, List.length_append,
      itsD_tup, itsD_pt, itsD_lst, itsD_scr, dIx_tup, dIx_pt, dIx_lst, dIx_scr, atI_0, atI_1, atI_2, dAdd_int, dAdd_tup, dAdd_pt, dAdd_lst, dAdd_str, dInt_int, dInt_bl, dStr_int, dStr_str, dIsi_ap, dLen_lst, dLen_tup, dLen_pt, dLen_scr, dIsN_non, dNotN_non, dNeg_ap, dIB_ap, dI_ap,
      dEq_int, dNe_int, truD_bl, truD_non, truD_int, dSl_tup, dSl_pt, dSl_lst, dSl_scr, dTupP_lst, decide_true, decide_false, if_true, if_false, Bool.false_eq_true, Bool.not_true, Bool.not_false, eq_self, true_and, and_true, sz_le, sz_lt, rngIts_items, rngIts_chk, beq_self_eq_true, R.bind_ok, R.nox_ok, tyN, List.map_nil, decide_eq_true_eq,
      isi_NoneType_int, isi_NoneType_str, isi_NoneType_bool, isi_NoneType_tuple, isi_NoneType_list, isi_NoneType_dict, isi_bool_int, isi_bool_str, isi_bool_bool, isi_bool_tuple, isi_bool_list, isi_bool_dict, isi_int_int, isi_int_str, isi_int_bool, isi_int_tuple, isi_int_list, isi_int_dict, isi_str_int, isi_str_str, isi_str_bool, isi_str_tuple, isi_str_list, isi_str_dict, isi_tuple_int, isi_tuple_str, isi_tuple_bool, isi_tuple_tuple, isi_tuple_list, isi_tuple_dict, isi_list_int, isi_list_str, isi_list_bool, isi_list_tuple, isi_list_list, isi_list_dict, isi_dict_int, isi_dict_str, isi_dict_bool, isi_dict_tuple, isi_dict_list, isi_dict_dict, $[$es:term],*])
  | `(tactic| and_intros) => `(tactic| (rw [wp_def]; simp only [startD, List.map_cons, List.map_nil, List.length_cons, List.length_nil, Nat.zero_add, Nat.reduceAdd, Nat.reduceSub, List.replicate, List.cons_append, List.nil_append]))
def vD : Tr → D
  | .val i => .int i
  | .txt x => .str x
  | .node _ _ => .non
def isL : Tr → Bool
  | .node _ _ => false
  | _ => true
def encS (u : List Str × Tr) : D := .tup [encW u.1, vD u.2]
/-- a leaf is small -/
def lfS : Tr → Prop
  | .val i => -100000000000000000000 ≤ i ∧ i ≤ 100000000000000000000
  | .txt x => okS x = true ∧ x.length ≤ 30
  | .node _ _ => True
theorem enc_leaf {t : Tr} (h : isL t = true) : encT t = .tup [.str "value", vD t] := by
  cases t with
  | val i => exact encT_val i
  | txt x => exact encT_txt x
  | node m ps => cases h
theorem sm_nd {ns : List Str} : ∀ (r : Nat) (t : Tr) (p : List Str), okT ns r t → smT r t → ∀ q ∈ ndT p t, lfS q.2
  | 0, _, _, h, _, _, _ => h.elim
  | r + 1, .val i, p, h, sm, q, hq => by
    rw [ndT] at hq
    simp at hq
    subst hq
    have sm : -(10 ^ 20) ≤ i ∧ i ≤ 10 ^ 20 := sm
    exact sm
  | r + 1, .txt i, p, h, sm, q, hq => by
    rw [ndT] at hq
    simp at hq
    subst hq
    exact ⟨h, sm⟩
  | r + 1, .node m ps, p, ⟨nd, inN, srt, sub⟩, sm, q, hq => by
    rw [ndT] at hq
    rcases List.mem_cons.mp hq with rfl | hq
    · exact True.intro
    · have sm : ∀ p ∈ ps, smT r p.2 := sm
      clear nd srt inN
      induction ps with
      | nil => rw [ndP] at hq; cases hq
      | cons u us ih =>
        obtain ⟨n, t⟩ := u
        rw [ndP] at hq
        rcases List.mem_append.mp hq with hq | hq
        · exact sm_nd r t (p ++ [n]) (sub _ (.head _)) (sm _ (.head _)) q hq
        · exact ih (fun u hu => sub u (.tail _ hu)) (fun u hu => sm u (List.mem_cons_of_mem _ hu)) (.tail _ hq) hq (fun u hu => sm u (List.mem_cons_of_mem _ hu))
abbrev N_near : List Str := ["_law_well_here", "_law_tree_here", "_law_spots", "_law_path", "_law_node", "_law_value", "_law_near_here"]
theorem kd_enc (t : Tr) : ∃ (k : Str) (z : D), encT t = .tup [.str k, z] ∧ PyData.strOk k = true ∧ (k == ("value" : Str)) = isL t ∧ (isL t = true → z = vD t) := by
  cases t with
  | val i => exact ⟨_, _, encT_val i, ok_value, vv, fun _ => rfl⟩
  | txt i => exact ⟨_, _, encT_txt i, ok_value, vv, fun _ => rfl⟩
  | node m ps => exact ⟨_, _, encT_node m ps, ok_kind m, ne_value m, fun h => by cases h⟩
theorem set_back {G : GH} {n : Nat} {c : Cell} (h : G[n]? = some c) : G.set n c = G := by
  obtain ⟨h1, h2⟩ := List.getElem?_eq_some_iff.mp h
  rw [← h2]; exact List.set_getElem_self h1
theorem py_leaf {t : Tr} (h : isL t = true) (s : lfS t) : ∃ y, (vD t).py = some y ∧ y.depth = 0 := by
  cases t with
  | val i => exact ⟨.int i, by simp [vD, D.py], by simp [PyData.depth]⟩
  | txt x => exact ⟨.str x, by simp [vD, D.py, txt_ok s.1], by simp [PyData.depth]⟩
  | node m ps => cases h
theorem py_spots : ∀ {S : List (List Str × Tr)}, (∀ u ∈ S, isL u.2 = true ∧ lfS u.2 ∧ ∀ x ∈ u.1, PyData.strOk x = true) → ∃ ys, D.pyAll (S.map encS) = some ys ∧ PyData.depthAll ys ≤ 10
  | [], _ => ⟨[], by simp [D.pyAll], by simp [PyData.depthAll]⟩
  | u :: S, h => by
    obtain ⟨ys, e, d⟩ := py_spots (S := S) fun u hu => h u (.tail _ hu)
    obtain ⟨h1, h2, h3⟩ := h u (.head _)
    obtain ⟨y, ey, dy⟩ := py_leaf h1 h2
    have hp := pyAll_strs h3
    have hd := depth_strs u.1
    refine ⟨.tuple [.tuple (u.1.map .str), y] :: ys, ?_, ?_⟩
    · rw [List.map_cons, D.pyAll, e]
      simp [encS, encW, D.py, D.pyAll, hp, ey]
    · simp only [PyData.depthAll, PyData.depth, hd, dy]
      omega
theorem dEq_nil {xs : List D} {ys : List PyData} (h : D.pyAll xs = some ys) (hd : PyData.depthAll ys ≤ 60) (G : GH) : dEq (.lst xs) (.lst []) G = .ok (.bl (decide (xs = []))) G := by
  unfold dEq pyEq
  rw [res_lst, res_lst, D.py, D.py, h]
  simp only [D.pyAll]
  rw [if_pos ⟨by simp only [PyData.depth]; omega, by simp [PyData.depth, PyData.depthAll]⟩, PyData.eqv]
  cases xs with
  | nil => rw [D.pyAll] at h; cases h; simp [PyData.eqvAll]
  | cons a l =>
    rw [D.pyAll] at h
    cases e1 : a.py with
    | none => rw [e1] at h; cases h
    | some y =>
      cases e2 : D.pyAll l with
      | none => rw [e1, e2] at h; cases h
      | some zs => rw [e1, e2] at h; cases h; simp [PyData.eqvAll]
theorem plain_txt {x : Str} (h : okS x = true) : x.cps.toList.all plainC = true := (Bool.and_eq_true_iff.mp h).2
theorem blank_plain : (" " : Str).cps.toList.all plainC = true := by decide +kernel
theorem lf_txt {x : Str} (h : okS x = true) : ∃ v, encT v = .tup [.str "value", .str x] ∧ (∀ r, okT five (r + 1) v) ∧ szT v = 0 := ⟨.txt x, encT_txt x, fun r => h, by rw [szT]⟩
theorem lf_int {i : Int} (h : -(10 ^ 30) < i ∧ i < 10 ^ 30) : ∃ v, encT v = .tup [.str "value", .int i] ∧ (∀ r, okT five (r + 1) v) ∧ szT v = 0 := ⟨.val i, encT_val i, fun r => h, by rw [szT]⟩
theorem near_txt {x : Str} (h : x.cps.toList.all plainC = true) (l : x.length ≤ 30) : ∀ d ∈ [D.str x, .str "", .int 0, .str (x ++ " "), .str (" " ++ x)], ∃ v, encT v = .tup [.str "value", d] ∧ (∀ r, okT five (r + 1) v) ∧ szT v = 0 := by
  have b1 : (" " : Str).length ≤ 1 := by decide +kernel
  have b0 : ("" : Str).length ≤ 1 := by decide +kernel
  have e0 : ("" : Str).cps.toList.all plainC = true := by decide +kernel
  have ex : x ++ "" = x := by
    refine ext_cps ?_
    rw [Str.cps_append, Array.toList_append]
    show _ ++ [] = _
    rw [List.append_nil]
  intro d hd
  simp only [List.mem_cons, List.not_mem_nil, or_false] at hd
  rcases hd with rfl | rfl | rfl | rfl | rfl
  · refine lf_txt ?_
    have := okS_app h e0 l b0 (by omega)
    rwa [ex] at this
  · exact lf_txt (by decide +kernel)
  · exact lf_int (by omega)
  · exact lf_txt (okS_app h blank_plain l b1 (by omega))
  · exact lf_txt (okS_app blank_plain h b1 l (by omega))
theorem m_near {fn fo fs fw : List D → GH → R D} (ho : OneOk fo) (hsh : ShOk five fs 4) {t : Tr} (ok : okT five 4 t) (sm : smT 4 t) (hl : szT t ≤ 320) (hn : ∀ G, fn [encT t, .tup []] G = .ok (.lst ((ndT [] t).map encN)) G)
    (hw : ∀ (p : List Str) (u v : Tr) (y : D) (G : GH), encT v = .tup [.str "value", y] → (p, u) ∈ ndT [] t → fw [encT t, encW p, y] G = .ok (encT (withT p t v)) G)
    (w : Well) (n : Nat) (G : GH) (hg : G[n]? = some w.cell) (c0 : 0 ≤ w.c) (c1 : w.c < 10000000) :
    (defF N_near (b__law_near fn fo fs fw) [.ref n, encT t] G).wp (fun d G' => ∃ (t' : Tr) (w' : Well), d = encT t' ∧ G' = G.set n w'.cell ∧ okT five 4 t' ∧ szT t' ≤ szT t ∧ w.c ≤ w'.c ∧ w'.c ≤ w.c + 330) noX := by
  have hz : (ndT [] t).length < 4000 := by rw [ndT_len]; omega
  unfold b__law_near
  and_intros
  exists hn
  refine lc_pure encN (ndT [] t) (fun u => isL u.2) encS (Nat.le_of_lt (Nat.lt_of_lt_of_le hz (by decide))) rfl (fun u _ => ?_) ?_
  · obtain ⟨k, z, e1, ok, e2, e3⟩ := kd_enc u.2
    unfold encN
    rw [e1]
    exists dEq_str _ ok ok_value, e2
    intro h
    have e3 := e3 h
    subst e3
    rfl
  · have hS : ∀ u ∈ (ndT [] t).filter (fun u => isL u.2), u ∈ ndT [] t ∧ isL u.2 = true ∧ lfS u.2 ∧ ∀ x ∈ u.1, x ∈ five := fun u hu => by
      obtain ⟨h1, h2⟩ := List.mem_filter.mp hu
      exact ⟨h1, h2, sm_nd 4 t [] ok sm u h1, fun x hx => ((ndT_ok 4 t [] ok u h1).2 x hx).resolve_left (by simp)⟩
    generalize hSe : (ndT [] t).filter (fun u => isL u.2) = S at hS ⊢
    have hSl : S.length < 4000 := by
      rw [← hSe]
      exact Nat.lt_of_le_of_lt (List.length_filter_le _ _) hz
    obtain ⟨ys, py, pd⟩ := py_spots (S := S) fun u hu => ⟨(hS u hu).2.1, (hS u hu).2.2.1, fun x hx => five_ok x ((hS u hu).2.2.2 x hx)⟩
    exists dEq_nil py (Nat.le_trans pd (by decide))
    by_cases he : S = []
    · subst he
      exists List.map_nil
      exact ⟨t, w, rfl, (set_back hg).symm, ok, Nat.le_refl _, Int.le_refl _, by omega⟩
    · have he' : ¬ S.map encS = [] := by simpa using he
      obtain ⟨d, w1, e1, a1, a2, hd⟩ := ho w (S.map encS) n G hg (by simpa using List.length_pos_iff.mpr he) (by simp; omega) c0 (by omega)
      obtain ⟨u, hu, rfl⟩ := List.mem_map.mp hd
      obtain ⟨u1, u2, u3, u4⟩ := hS u hu
      have uo : PyData.strOk "value" = true := ok_value
      have hg1 : (G.set n w1.cell)[n]? = some w1.cell := by
        have := lt_of_get hg
        simp [this]
      have fin : ∀ (v : Tr) (y : D) (w2 : Well), encT v = .tup [.str "value", y] → (∀ r, okT five (r + 1) v) → szT v = 0 → w1.c ≤ w2.c → w2.c ≤ w1.c + 1 → ∃ (t' : Tr) (w' : Well), fw [encT t, encW u.1, y] (G.set n w2.cell) = .ok (encT (withT u.1 t v)) (G.set n w2.cell) ∧
          fs [.ref n, encT (withT u.1 t v)] (G.set n w2.cell) = .ok (encT t') (G.set n w'.cell) ∧ okT five 4 t' ∧ szT t' ≤ szT t ∧ w.c ≤ w'.c ∧ w'.c ≤ w.c + 330 := by
        intro v y w2 ev ov zv b1 b2
        have zz := sz_with zv u.1 t
        obtain ⟨t', w', q1, q2, q3, q4, q5⟩ := hsh w2 (withT u.1 t v) n (G.set n w2.cell) (by have := lt_of_get hg; simp [this]) (okT_with ov u.1 4 t ok) (by omega) (by omega) (by omega)
        rw [List.set_set] at q1
        exact ⟨t', w', hw u.1 u.2 v y _ ev u1, q1, q2, by omega, by omega, by omega⟩
      have one : ∀ xs : List D, 0 < xs.length → xs.length < 100 → (∀ d ∈ xs, ∃ v, encT v = .tup [.str "value", d] ∧ (∀ r, okT five (r + 1) v) ∧ szT v = 0) → ∃ (d : D) (w2 : Well) (t' : Tr) (w' : Well) (q : Tr), fo [.ref n, .lst xs] (G.set n w1.cell) = .ok d (G.set n w2.cell) ∧
          fw [encT t, encW u.1, d] (G.set n w2.cell) = .ok (encT q) (G.set n w2.cell) ∧ fs [.ref n, (encT q)] (G.set n w2.cell) = .ok (encT t') (G.set n w'.cell) ∧ okT five 4 t' ∧ szT t' ≤ szT t ∧ w.c ≤ w'.c ∧ w'.c ≤ w.c + 330 := by
        intro xs l1 l2 hx
        obtain ⟨d, w2, f1, b1, b2, hd⟩ := ho w1 xs n _ hg1 l1 (by omega) (by omega) (by omega)
        rw [List.set_set] at f1
        obtain ⟨v, ev, ov, zv⟩ := hx d hd
        obtain ⟨t', w', f2, f3, f4⟩ := fin v d w2 ev ov zv b1 b2
        exact ⟨d, w2, t', w', withT u.1 t v, f1, f2, f3, f4⟩
      exists he', e1, encS
      cases hu2 : u.2 with
      | node m ps => rw [hu2] at u2; cases u2
      | txt x =>
        rw [hu2] at u3
        have lx : x.length ≤ 1000 := by have := u3.2; omega
        have b1 : (" " : Str).length ≤ 1 := by decide +kernel
        obtain ⟨d, w2, t', w', q, f1, f2, f3, f4⟩ := one _ (by simp) (by simp) (near_txt (plain_txt u3.1) u3.2)
        exists vD, f1, f2, f3
        exact ⟨t', w', rfl, rfl, f4⟩
      | val i =>
        rw [hu2] at u3
        have u3 : -100000000000000000000 ≤ i ∧ i ≤ 100000000000000000000 := u3
        have b1 : (" " : Str).length ≤ 1 := by decide +kernel
        have lg : i.natAbs.log2 < 1920 := log_small (by omega)
        have lx := int_short u3
        obtain ⟨d, w2, t', w', q, f1, f2, f3, f4⟩ := one ([.str (toString i), .str "", .int 0, .str ((toString i : String) ++ (" " : Str)), .str ((" " : Str) ++ (toString i : String))] ++ [.int (0 - i), .int (i + 1)]) (by simp) (by simp) (fun d hd => by
          rcases List.mem_append.mp hd with hd | hd
          · exact near_txt (int_plain i) (int_short u3) d hd
          · simp only [List.mem_cons, List.not_mem_nil, or_false] at hd
            rcases hd with rfl | rfl
            · exact lf_int (by omega)
            · exact lf_int (by omega))
        simp only [List.cons_append, List.nil_append] at f1
        exists vD, f1, f2, f3, lg
        exact ⟨t', w', rfl, rfl, f4⟩
end K03
end CF
end
section
set_option maxRecDepth 100000
set_option maxHeartbeats 4000000
namespace CF
namespace K03
open PySem PySem.Spec PyProof.Rows L2
local macro_rules
  | `(tactic| exists $es,*) => `(tactic| simp (disch := first | assumption | omega | (simp only [List.length_set, List.length_append, List.length_cons, List.length_nil]; omega)) only [↓wp_ok, ↓wp_ex, ↓wp_bind, ↓wp_guard, ↓wp_nox, ↓sp_nx, ↓sp_rt, ↓sp_bk, ↓sp_ct, ↓sp_ex, ↓sp_seq, ↓sp_thn, ↓sp_guard,
      ↓w_eC, ↓w_eVar, ↓w_aNil, ↓w_aCons, ↓w_eTup, ↓w_eTupP, ↓w_eLst, ↓w_eLstM, ↓w_eOp, ↓w_eChain, ↓w_asB, ↓w_tAnd, ↓w_tOr, ↓w_tNot, ↓w_eTru, ↓w_eIf, ↓w_sNext, ↓w_sSeq, ↓w_sRet, ↓w_sRetN, ↓w_sIf, ↓w_sSet, ↓w_sDrop, ↓w_sBreak, ↓w_sCont, ↓w_gNm, ↓w_gsNil, ↓w_gsCons, ↓w_gTp, ↓w_sAsg, ↓w_eOne, ↓w_eUn, ↓w_eCB, ↓w_one, ↓w_eCall, ↓w_eAnd, ↓w_eOr, ↓w_eNot, ↓w_iSeq, ↓w_eLc, ↓w_mkF, ↓w_mkM, ↓w_tYes, ↓w_eMt, ↓w_eMt0, ↓w_iRg1,
      wipeD_nil, wipeD_cons, List.cons_append, List.nil_append, List.append_nil, ap_setI, eSl_ap, eOpt_none, eOpt_some,
      List.getElem?_cons_zero, List.getElem?_cons_succ, List.set_cons_zero, List.set_cons_succ, List.length_cons, List.length_nil, List.length_set, Nat.zero_add, Nat.reduceAdd, Nat.reduceSub, Nat.add_one_sub_one, List.length_append,
      itsD_tup, itsD_pt, itsD_lst, itsD_scr, dIx_tup, dIx_pt, dIx_lst, dIx_scr, atI_0, atI_1, atI_2, dAdd_int, dAdd_tup, dAdd_pt, dAdd_lst, dAdd_str, dInt_int, dInt_bl, dStr_int, dStr_str, dIsi_ap, dLen_lst, dLen_tup, dLen_pt, dLen_scr, dIsN_non, dNotN_non, dNeg_ap, dIB_ap, dI_ap,
      dEq_int, dNe_int, truD_bl, truD_non, truD_int, dSl_tup, dSl_pt, dSl_lst, dSl_scr, dTupP_lst, decide_true, decide_false, if_true, if_false, Bool.false_eq_true, Bool.not_true, Bool.not_false, eq_self, true_and, and_true, sz_le, sz_lt, rngIts_items, rngIts_chk, beq_self_eq_true, R.bind_ok, R.nox_ok, tyM_ref, mAppend_ref, mExtend_ref, ge1, ge2a, ge2b, ge3a, ge3b, ge3c, ge3d, st1, st2a, st2b, st3a, st3b, st3c, st3d, tyN, Bool.and_self, Bool.and_true, Bool.true_and, Bool.and_false, Bool.false_and, Bool.or_true, Bool.true_or, Bool.or_false, Bool.false_or, Int.reduceLT, Int.reduceLE, Int.reduceGT, Int.reduceNeg, Int.reduceAdd, Int.reduceSub, Int.reduceBEq, Int.reduceBNe, Int.reduceEq, Int.reduceToNat, Nat.reduceEqDiff, Nat.reduceLeDiff, reduceCtorEq, Int.natCast_zero, Int.cast_ofNat_Int, Int.lt_irrefl, List.map_nil, decide_eq_true_eq,
      isi_NoneType_int, isi_NoneType_str, isi_NoneType_bool, isi_NoneType_tuple, isi_NoneType_list, isi_NoneType_dict, isi_bool_int, isi_bool_str, isi_bool_bool, isi_bool_tuple, isi_bool_list, isi_bool_dict, isi_int_int, isi_int_str, isi_int_bool, isi_int_tuple, isi_int_list, isi_int_dict, isi_str_int, isi_str_str, isi_str_bool, isi_str_tuple, isi_str_list, isi_str_dict, isi_tuple_int, isi_tuple_str, isi_tuple_bool, isi_tuple_tuple, isi_tuple_list, isi_tuple_dict, isi_list_int, isi_list_str, isi_list_bool, isi_list_tuple, isi_list_list, isi_list_dict, isi_dict_int, isi_dict_str, isi_dict_bool, isi_dict_tuple, isi_dict_list, isi_dict_dict, $[$es:term],*])
  | `(tactic| and_intros) => `(tactic| (rw [wp_def]; simp only [startD, List.map_cons, List.map_nil, List.length_cons, List.length_nil, Nat.zero_add, Nat.reduceAdd, Nat.reduceSub, List.replicate, List.cons_append, List.nil_append]))
/-! ### the law's loop -/
abbrev six : List Str := five ++ [("zz" : Str)]
theorem six_ok : nsOk six := by
  unfold nsOk
  decide +kernel
theorem six_str : ∀ x ∈ six, PyData.strOk x = true := fun x hx => (six_ok x hx).2
theorem okT_ns {ns ms : List Str} (h : ∀ n ∈ ns, n ∈ ms) : ∀ (r : Nat) (t : Tr), okT ns r t → okT ms r t
  | 0, _, k => k.elim
  | _ + 1, .val _, k => k
  | _ + 1, .txt _, k => k
  | r + 1, .node m ps, ⟨h1, h2, h3, h4⟩ => ⟨h1, fun n hn => h n (h2 n hn), h3, fun p hp => okT_ns h r p.2 (h4 p hp)⟩
/-- a tree that the law may ask about -/
def Fit (t : Tr) : Prop := okT six 6 t ∧ szT t ≤ 320
theorem fit_of {r : Nat} {t : Tr} (h : okT five r t) (hr : r ≤ 6) (hl : szT t ≤ 320) : Fit t := ⟨okT_mono six hr (okT_ns (fun n hn => List.mem_append_left _ hn) r t h), hl⟩
theorem nd_len {ns : List Str} : ∀ (r : Nat) (t : Tr) (p : List Str), okT ns r t → ∀ q ∈ ndT p t, q.1.length < p.length + r
  | 0, _, _, h, _, _ => h.elim
  | r + 1, .val i, p, _, q, hq => by
    rw [ndT] at hq
    simp at hq
    subst hq
    simp
  | r + 1, .txt i, p, _, q, hq => by
    rw [ndT] at hq
    simp at hq
    subst hq
    simp
  | r + 1, .node m ps, p, ⟨nd, inN, srt, sub⟩, q, hq => by
    clear nd inN srt
    rw [ndT] at hq
    rcases List.mem_cons.mp hq with rfl | hq
    · simp
    · induction ps with
      | nil => rw [ndP] at hq; cases hq
      | cons u us ih =>
        obtain ⟨n, t⟩ := u
        rw [ndP] at hq
        rcases List.mem_append.mp hq with hq | hq
        · have := nd_len r t (p ++ [n]) (sub _ (.head _)) q hq
          simp at this
          omega
        · exact ih (fun u hu => sub u (.tail _ hu)) (.tail _ hq) hq
noncomputable def F_near (k : Nat) : List D → GH → R D := defF N_near (b__law_near (F_nd k) (F_one F_draw) (F_sh k) (F_wi k))
theorem m_nearF {k : Nat} (hk : 6 ≤ k) {t : Tr} (ok : okT five 4 t) (sm : smT 4 t) (hl : szT t ≤ 320) (w : Well) (n : Nat) (G : GH) (hg : G[n]? = some w.cell) (c0 : 0 ≤ w.c) (c1 : w.c < 10000000) :
    ∃ (t' : Tr) (w' : Well), F_near k [.ref n, encT t] G = .ok (encT t') (G.set n w'.cell) ∧ Fit t' ∧ w.c ≤ w'.c ∧ w'.c ≤ w.c + 330 := by
  have h := m_near (fn := F_nd k) (fw := F_wi k) (m_one m_draw) (m_sh 4 k (by omega)) ok sm hl (fun G => m_nd 4 k t [] G (by omega) ok (by omega) (by decide))
    (fun p u v y G ev hu => by
      have lp : p.length < 6 := by
        have := nd_len 4 t [] ok _ hu
        simp at this
        omega
      refine m_wi five_ok ev p 4 k t G (by omega) (by omega) (fun x hx => five_ok x ?_) ok (by omega) ?_
      · exact ((ndT_ok 4 t [] ok _ hu).2 x hx).resolve_left (by simp)
      · exact vp_nd 4 t [] p u ok (by simpa using hu)) w n G hg c0 c1
  obtain ⟨d, G', e, t', w', rfl, rfl, h1, h2, h3, h4⟩ := R.wp_ex_iff.mp h
  exact ⟨t', w', e, fit_of h1 (by decide) (by omega), h3, h4⟩
noncomputable def F_at : List D → GH → R D := defF ["_law_script", "_law_k"] b__law_cell_at
theorem m_at (ns : List Int) (G : GH) : F_at [.scr (ns.map D.int), .int 0] G = .ok (.int (ns.getD 0 0)) G := by
  have h : (F_at [.scr (ns.map D.int), .int 0] G).wp (fun d G' => d = .int (ns.getD 0 0) ∧ G' = G) noX := by
    unfold F_at b__law_cell_at
    and_intros
    cases ns with
    | nil =>
      exists List.map_nil
      rfl
    | cons x r =>
      have h : (0 : Int) < (r.length : Int) + 1 := by omega
      exists List.map_cons, List.length_map, Int.natCast_add, h
      rfl
  obtain ⟨d, G', e, rfl, rfl⟩ := R.wp_ex_iff.mp h
  exact e
theorem cut_map {α β : Type} (f : α → β) (xs : List α) (lo hi : Option Int) : cutD (xs.map f) lo hi = (cutD xs lo hi).map f := by
  unfold cutD
  rw [List.length_map, List.map_take, List.map_drop]
theorem cut_len {α : Type} (xs : List α) (lo hi : Option Int) : (cutD xs lo hi).length ≤ xs.length := by
  unfold cutD
  rw [List.length_take, List.length_drop]
  omega
theorem cut_back {α : Type} (xs : List α) : cutD xs none (some (-1)) = xs.dropLast := by
  unfold cutD HT.sIx
  rw [List.dropLast_eq_take]
  cases xs with
  | nil => rfl
  | cons x r =>
    simp
    omega
theorem perm_sum {l m : List Nat} (h : l.Perm m) : l.sum = m.sum := by
  induction h with
  | nil => rfl
  | cons x _ ih => simp [ih]
  | swap x y l => simp only [List.sum_cons]; omega
  | trans _ _ a b => exact a.trans b
theorem subl_sum {l m : List Nat} (h : l.Sublist m) : l.sum ≤ m.sum := by
  induction h with
  | slnil => exact Nat.le_refl _
  | cons x _ ih => simp only [List.sum_cons]; omega
  | cons_cons x _ ih => simp only [List.sum_cons]; omega
abbrev zzP : Str × Tr := ("zz", .val 1)
abbrev N_law : List Str := ["_law_script", "_law_cell", "_law_well_here", "_law_tree_here", "_law_others", "_law_names_here", "_law_name", "_law_node", "_law_turned", "_law_other", "_law_due"]
noncomputable def F_law (k : Nat) : List D → GH → R D := defF N_law (b_law F_at F_well (F_tree 4) (F_sh k) F_part (F_near k) (F_ba k) (F_same k))
noncomputable abbrev inBody (k : Nat) : FS := (sSeq (sSet 10 (eOp dEq (eCall 1 (F_ba k) [] (aCons (eVar 3) aNil)) (eCall 1 (F_ba k) [] (aCons (eVar 9) aNil))))
    (sIf (asB (eOp dNe (eLst (aCons (eCall 2 (F_same k) [] (aCons (eVar 3) (aCons (eVar 9) aNil))) (aCons (eCall 2 (F_same k) [] (aCons (eVar 9) (aCons (eVar 3) aNil))) aNil))) (eLst (aCons (eVar 10) (aCons (eVar 10) aNil))))) (sRet (eC (.bl false))) sNext))
theorem dNe_bls (a b c d : Bool) (G : GH) : dNe (.lst [.bl a, .bl b]) (.lst [.bl c, .bl d]) G = .ok (.bl (!(a == c && b == d))) G := by
  cases a <;> cases b <;> cases c <;> cases d <;> rfl
theorem inner {k : Nat} (hk : 6 ≤ k) {t : Tr} (ht : Fit t) (ts : List Tr) (hts : ∀ u ∈ ts, Fit u) (G : GH) (a0 a1 a2 a4 a5 a6 a7 a8 a9 a10 : Option D) (nx : SP) (rt : D → GH → Prop) (bk ct : SP) (ex : Ex → DEnv → GH → Prop)
    (fin : ∀ a9 a10, nx [a0, a1, a2, some (encT t), a4, a5, a6, a7, a8, a9, a10] G) :
    (sForL (fun _ => true) (gNm 9) (inBody k) (ts.map encT) [a0, a1, a2, some (encT t), a4, a5, a6, a7, a8, a9, a10] G).wp nx rt bk ct ex := by
  refine for_inv encT ts (fun pre δ G' => G' = G ∧ ∃ a9 a10, δ = [a0, a1, a2, some (encT t), a4, a5, a6, a7, a8, a9, a10]) ⟨rfl, _, _, rfl⟩ (fun pre u post δ G' e ⟨hG, b9, b10, hδ⟩ => ?_) fun δ G' ⟨hG, b9, b10, hδ⟩ => by subst hG hδ; exact fin b9 b10
  subst hG hδ
  have hu : Fit u := hts u (by rw [e]; simp)
  have e1 := m_ba six_str (k := k) t G' ht.1 hk ht.2
  have e2 := m_ba six_str (k := k) u G' hu.1 hk hu.2
  have bt : ∀ b ∈ sortB (bareL t), okB b := fun b hb => bare_ok six_str ht.1 b ((List.mergeSort_perm _ _).mem_iff.mp hb)
  have bu : ∀ b ∈ sortB (bareL u), okB b := fun b hb => bare_ok six_str hu.1 b ((List.mergeSort_perm _ _).mem_iff.mp hb)
  obtain ⟨v, e3, e3'⟩ := dEq_B bt bu G'
  obtain ⟨v1, e4, e4'⟩ := m_same six_ok (k := k) t u G' ht.1 hu.1 hk ht.2 hu.2
  obtain ⟨v2, e5, e5'⟩ := m_same six_ok (k := k) u t G' hu.1 ht.1 hk hu.2 ht.2
  have ci := can_iff ht.1 hu.1
  have v1v : v1 = v := by
    have : v1 = true ↔ v = true := e4'.trans (ci.trans e3'.symm)
    exact Bool.eq_iff_iff.mpr this
  have v2v : v2 = v := by
    have : v2 = true ↔ v = true := e5'.trans (Iff.trans ⟨Eq.symm, Eq.symm⟩ (ci.trans e3'.symm))
    exact Bool.eq_iff_iff.mpr this
  subst v1v v2v
  have bb : (v2 == v2 && v2 == v2) = true := by cases v2 <;> rfl
  exists e1, e2, e3, e4, e5, dNe_bls, bb
  exact ⟨_, _, rfl⟩
theorem m_treeK : ∀ k d : Nat, d < k → TreeOk (F_tree k) (d + 1)
  | 0, d, h => by omega
  | k + 1, 0, h => m_tree_step m_draw (m_one m_draw) (m_names m_draw) 0 (.inl rfl)
  | k + 1, d + 1, h => m_tree_step m_draw (m_one m_draw) (m_names m_draw) (d + 1) (.inr (m_treeK k d (by omega)))
theorem tree4 (w : Well) (G : GH) (c0 : 0 ≤ w.c) (c1 : w.c < 10000000) : ∃ (t : Tr) (w' : Well), F_tree 4 [.ref G.length, .int 4, .int 3] (G ++ [w.cell]) = .ok (encT t) (G ++ [w'.cell]) ∧ okT five 4 t ∧ smT 4 t ∧ szT t ≤ 120 ∧ w.c ≤ w'.c ∧ w'.c ≤ w.c + 726 := by
  have cb4 : coB (3 + 1) = 726 := by decide
  have sb4 : szB (3 + 1) = 120 := by decide
  obtain ⟨t, w1, e2, ⟨ok, sm⟩, sz, c1, c2⟩ := m_treeK 4 3 (by decide) w 3 G.length (G ++ [w.cell]) (by simp) (by decide) (by omega) (by omega)
  rw [snoc_setl] at e2
  exact ⟨t, w1, e2, ok, sm, by omega, by omega, by omega⟩
theorem tree2 (w : Well) (G : GH) (c0 : 0 ≤ w.c) (c1 : w.c < 10000000) : ∃ (t : Tr) (w' : Well), F_tree 4 [.ref G.length, .int 2, .int 3] (G ++ [w.cell]) = .ok (encT t) (G ++ [w'.cell]) ∧ okT five 2 t ∧ szT t ≤ 12 ∧ w.c ≤ w'.c ∧ w'.c ≤ w.c + 78 := by
  have cb4 : coB (1 + 1) = 78 := by decide
  have sb4 : szB (1 + 1) = 12 := by decide
  obtain ⟨t, w1, e2, ⟨ok, sm⟩, sz, c1, c2⟩ := m_treeK 4 1 (by decide) w 3 G.length (G ++ [w.cell]) (by simp) (by decide) (by omega) (by omega)
  rw [snoc_setl] at e2
  exact ⟨t, w1, e2, ok, by omega, by omega, by omega⟩
theorem dNe_kind (m : Bool) (G : GH) : dNe (.str (kindS m)) (.str "value") G = .ok (.bl true) G := by rw [dNe_str G (ok_kind m) ok_value, ne_value]; rfl
theorem dEq_kind (m : Bool) (G : GH) : dEq (.str (kindS m)) (.str "map") G = .ok (.bl m) G := by rw [dEq_str G (ok_kind m) ok_map, eq_map]
theorem dNe_value (G : GH) : dNe (.str "value") (.str "value") G = .ok (.bl false) G := by rw [dNe_str G ok_value ok_value, vv]; rfl
theorem m_law {k : Nat} (hk : 6 ≤ k) (ns : List Int) (hl : ns.length ≤ 63) : ∃ G', F_law k [.scr (ns.map D.int)] [] = .ok (.bl true) G' := by
  have h : (F_law k [.scr (ns.map D.int)] []).wp (fun d _ => d = .bl true) noX := by
    unfold F_law b_law
    and_intros
    have hc := cut_len ns (some 1) (some 6)
    exists w_sFor, m_at, cut_map, List.length_map
    have e : (D.int (ns.getD 0 0) :: List.map D.int (cutD ns (some 1) (some 6))) = ((ns.getD 0 0) :: cutD ns (some 1) (some 6)).map D.int := rfl
    rw [e]
    refine for_inv D.int _ (fun pre δ G => ∃ a1 a2 a3 a4 a5 a6 a7 a8 a9 a10, δ = [some (.scr (ns.map D.int)), a1, a2, a3, a4, a5, a6, a7, a8, a9, a10]) ⟨_, _, _, _, _, _, _, _, _, _, rfl⟩ (fun pre c post δ G _ ⟨b1, b2, b3, b4, b5, b6, b7, b8, b9, b10, hδ⟩ => ?_) fun δ G _ => by
      exists nilL
    subst hδ
    obtain ⟨w, e1, w0⟩ := m_well c G
    have wc : ∀ w : Well, (G ++ [w.cell])[G.length]? = some w.cell := fun w => by simp
    have ws : ∀ w u : Well, (G ++ [w.cell]).set G.length u.cell = G ++ [u.cell] := fun w u => snoc_setl G _ _
    obtain ⟨t, w1, e2, ok, sm, sz, c1, c2⟩ := tree4 w G (by omega) (by omega)
    obtain ⟨s1, w2, e3, okS1, szS1, c3, c4⟩ := m_sh 4 k (by omega) w1 t G.length _ (wc w1) ok (by omega) (by omega) (by omega)
    rw [ws] at e3
    obtain ⟨t2, w3, e4, ok2, sm2, sz2, c5, c6⟩ := tree4 w2 G (by omega) (by omega)
    obtain ⟨t3, w4, e5, ok3, sz3, c7, c8⟩ := tree2 w3 G (by omega) (by omega)
    have go : ∀ (os : List Tr) (a5 a6 a7 a8 : Option D), (∀ u ∈ os, Fit u) → os.length < 10 → (sFor
              (iSeq
                (eOp (dAdd mkF) (eVar 4)
                  (eLst
                    (aCons (eCall 2 (F_near k) [] (aCons (eVar 2) (aCons (eVar 3) aNil)))
                      (aCons (eCall 2 (F_near k) [] (aCons (eVar 2) (aCons (eVar 3) aNil))) aNil)))))
              (gNm 9) (inBody k) [some (.scr (ns.map D.int)), some (.int c), some (.ref G.length), some (encT t), some (.ref (G.length + 1)), a5, a6, a7, a8, b9, b10] (G ++ [w4.cell] ++ [.lst (os.map encT)])).wp
          (fun δ G => ∃ a1 a2 a3 a4 a5 a6 a7 a8 a9 a10, δ = [some (.scr (ns.map D.int)), a1, a2, a3, a4, a5, a6, a7, a8, a9, a10]) (fun d _ => d = .bl true) fS fS fX := by
      intro os a5 a6 a7 a8 hos lo
      have g1 : (G ++ [w4.cell] ++ [Cell.lst (os.map encT)])[G.length]? = some w4.cell := by simp
      obtain ⟨n1, w5, e6, f1, c9, c10⟩ := m_nearF hk ok sm (by omega) w4 G.length _ g1 (by omega) (by omega)
      have g2 : (G ++ [w5.cell] ++ [Cell.lst (os.map encT)])[G.length]? = some w5.cell := by simp
      obtain ⟨n2, w6, e7, f2, c11, c12⟩ := m_nearF hk ok sm (by omega) w5 G.length _ g2 (by omega) (by omega)
      have st : ∀ w u : Well, (G ++ [w.cell] ++ [Cell.lst (os.map encT)]).set G.length u.cell = G ++ [u.cell] ++ [Cell.lst (os.map encT)] := fun w u => by simp
      rw [st] at e6 e7
      have gx : (G ++ [w6.cell] ++ [Cell.lst (os.map encT)])[G.length + 1]? = some (.lst (os.map encT)) := by simp
      have da := dAdd_refl mkF (G ++ [w6.cell] ++ [Cell.lst (os.map encT)]) [encT n1, encT n2] gx
      have e8 : os.map encT ++ [encT n1, encT n2] = (os ++ [n1, n2]).map encT := by simp
      rw [if_pos (by simp only [List.length_map, List.length_cons, List.length_nil]; exact Nat.le_trans (by omega : os.length + 2 ≤ 100) (by decide)), e8] at da
      exists w_sFor, e6, e7, da
      exact inner hk (fit_of ok (by decide) (by omega)) (os ++ [n1, n2]) (fun u hu => by
        rcases List.mem_append.mp hu with hu | hu
        · exact hos u hu
        · simp at hu
          rcases hu with rfl | rfl
          · exact f1
          · exact f2) _ _ _ _ _ _ _ _ _ _ _ _ _ _ _ _ fun a9 a10 => ⟨_, _, _, _, _, _, _, _, _, _, rfl⟩
    have ft : Fit t := fit_of ok (by decide) (by omega)
    have f1 : Fit s1 := fit_of okS1 (by decide) (by omega)
    have f2 : Fit t2 := fit_of ok2 (by decide) (by omega)
    have f3 : Fit t3 := fit_of ok3 (by decide) (by omega)
    have f123 : ∀ u ∈ [s1, t2, t3], Fit u := fun u hu => by
      simp only [List.mem_cons, List.not_mem_nil, or_false] at hu
      rcases hu with rfl | rfl | rfl
      · exact f1
      · exact f2
      · exact f3
    have i0 : ∀ G, dIx (encT t) (.int 0) G = .ok (.str (kdT t)) G := fun G => by
      cases t with
      | val i => rw [encT_val]; exact (dIx_tup _ _ _).trans (by rw [atI_0]; rfl)
      | txt i => rw [encT_txt]; exact (dIx_tup _ _ _).trans (by rw [atI_0]; rfl)
      | node m ps => rw [encT_node]; exact (dIx_tup _ _ _).trans (by rw [atI_0]; rfl)
    exists e1, e2, e3, e4, e5, i0
    by_cases hv : isL t = true
    · have hk : kdT t = "value" := by cases t <;> first | rfl | cases hv
      exists hk, dNe_value
      refine RS.wp_mono (go [s1, t2, t3] _ _ _ _ f123 (by simp)) (fun δ G h => ⟨rfl, h⟩) (fun _ _ h => h) (fun _ _ h => h.elim) (fun _ _ h => h.elim) fun _ _ _ h => h.elim
    · obtain ⟨m, ps, rfl⟩ : ∃ m ps, t = .node m ps := by
        cases t with
        | node m ps => exact ⟨m, ps, rfl⟩
        | _ => exact absurd rfl hv
      have hk : kdT (.node m ps) = kindS m := rfl
      have i1 : ∀ G, dIx (encT (.node m ps)) (.int 1) G = .ok (.pt (ps.map encPr)) G := fun G => by
        rw [encT_node]; exact (dIx_tup _ _ _).trans (by rw [atI_1])
      obtain ⟨nd, inN, srt, sub⟩ := id ok
      have lps : ps.length ≤ 320 := by
        rw [szT_node] at sz
        have := len_sum ps
        omega
      exists hk, dNe_kind, i0, i1, List.length_map
      refine lc_pure encPr ps (fun _ => true) (fun u => .str u.1) (Nat.le_trans lps (by decide)) rfl (fun u _ => ?_) ?_
      · unfold encPr
        exists nilL
        exact fun _ => trivial
      · have s0 : ((ps.filter fun _ => true).map fun u : Str × Tr => D.str u.1) = (ps.map (·.1)).map D.str := by rw [List.filter_eq_self.mpr (by simp), List.map_map]; rfl
        have okn : ∀ x ∈ ps.map (·.1), PyData.strOk x = true := fun x hx => five_ok x (inN x hx)
        have pm : (ps.mergeSort leK).Perm ps := List.mergeSort_perm _ _
        have s1' : (sortS (ps.map (·.1))).map D.str = (ps.mergeSort leK).map fun u => D.str u.1 := by rw [← sort_names, List.map_map]; rfl
        have lq : (ps.mergeSort leK).length ≤ 320 := by rw [pm.length_eq]; exact lps
        rw [s0]
        exists dSorted2_strs okn, s1'
        refine lc_pure (fun u : Str × Tr => D.str u.1) (ps.mergeSort leK) (fun _ => true) encPr (Nat.le_trans lq (by decide)) rfl (fun u hu => ?_) ?_
        · have hu' : u ∈ ps := pm.mem_iff.mp hu
          have mp := fun G => m_part five_ok (m := m) nd (fun u hu => inN _ (List.mem_map_of_mem (f := fun x => x.1) hu)) (by omega) hu' G
          exists mp
          exact fun _ => rfl
        · have s2 : ((ps.mergeSort leK).filter fun _ => true) = ps.mergeSort leK := List.filter_eq_self.mpr (by simp)
          rw [s2]
          have ix : ∀ (a b : D) (G : GH), dIx (.lst [a, b]) (.int (if m then 1 else 0)) G = .ok (if m then b else a) G := fun a b G => by cases m <;> simp
          exists i0, hk, dEq_kind, ix
          have q1 : D.tup [.str (kindS m), .pt (ps.map encPr ++ [D.tup [.str "zz", .tup [.str "value", .int 1]]])] = encT (.node m (ps ++ [zzP])) := by
            rw [encT_node, List.map_append]
            show _ = D.tup [.str (kindS m), .pt (ps.map encPr ++ [D.tup [.str "zz", encT (.val 1)]])]
            rw [encT_val]
          have q2 : D.tup [.str (kindS m), .pt (cutD (ps.map encPr) none (some (-1)))] = encT (.node m ps.dropLast) := by
            rw [encT_node, cut_back, List.map_dropLast]
          have q3 : D.tup [if m then D.str "list" else D.str "map", .pt ((ps.mergeSort leK).map encPr)] = encT (.node (!m) (ps.mergeSort leK)) := by
            rw [encT_node]
            cases m <;> rfl
          rw [q1, q2, q3]
          have sub6 : ∀ p ∈ ps, okT six 5 p.2 := fun p hp => okT_mono six (by decide) (okT_ns (fun n hn => List.mem_append_left _ hn) 3 p.2 (sub p hp))
          have in6 : ∀ n ∈ ps.map (·.1), n ∈ six := fun n hn => List.mem_append_left _ (inN n hn)
          have sz' : (ps.map fun p => 1 + szT p.2).sum ≤ 120 := by rw [szT_node] at sz; exact sz
          have zz5 : ("zz" : Str) ∉ five := by decide +kernel
          have le5 : ∀ n ∈ five, leS n "zz" = true := by decide +kernel
          have g1 : Fit (.node m (ps ++ [zzP])) := by
            refine ⟨⟨?_, ?_, ?_, ?_⟩, ?_⟩
            · rw [List.map_append]
              refine List.nodup_append.mpr ⟨nd, by simp, fun a ha b hb e => ?_⟩
              simp at hb
              subst hb
              subst e
              exact zz5 (inN _ ha)
            · rw [List.map_append]
              intro n hn
              rcases List.mem_append.mp hn with hn | hn
              · exact in6 n hn
              · simp at hn
                subst hn
                exact List.mem_append_right _ (.head _)
            · intro hm
              rw [List.map_append]
              refine List.pairwise_append.mpr ⟨srt hm, by simp, fun a ha b hb => ?_⟩
              simp at hb
              subst hb
              exact le5 a (inN _ ha)
            · intro p hp
              rcases List.mem_append.mp hp with hp | hp
              · exact sub6 p hp
              · simp at hp
                subst hp
                exact ⟨by decide, by decide⟩
            · rw [szT_node, List.map_append, List.sum_append]
              have : szT (.val 1) = 0 := by rw [szT]
              simp [this]
              omega
          have g2 : Fit (.node m ps.dropLast) := by
            have sl : ps.dropLast.Sublist ps := List.dropLast_sublist ps
            refine ⟨⟨(sl.map _).nodup nd, fun n hn => in6 n ((sl.map _).subset hn), fun hm => (srt hm).sublist (sl.map _), fun p hp => sub6 p (sl.subset hp)⟩, ?_⟩
            rw [szT_node]
            have : (ps.dropLast.map fun p => 1 + szT p.2).sum ≤ (ps.map fun p => 1 + szT p.2).sum := subl_sum (sl.map _)
            omega
          have g3 : Fit (.node (!m) (ps.mergeSort leK)) := by
            refine ⟨⟨(pm.map _).nodup_iff.mpr nd, fun n hn => in6 n ((pm.map _).mem_iff.mp hn), fun _ => ?_, fun p hp => sub6 p (pm.mem_iff.mp hp)⟩, ?_⟩
            · rw [sort_names]; exact sortS_sorted _
            · rw [szT_node, perm_sum (pm.map fun p => 1 + szT p.2)]
              omega
          have fin := go ([s1, t2, t3] ++ [.node m (ps ++ [zzP]), .node m ps.dropLast, .node (!m) (ps.mergeSort leK)]) (some (.lst ((ps.mergeSort leK).map fun u => D.str u.1))) b6 b7 (some (.pt ((ps.mergeSort leK).map encPr))) (fun u hu => by
            rcases List.mem_append.mp hu with hu | hu
            · exact f123 u hu
            · simp only [List.mem_cons, List.not_mem_nil, or_false] at hu
              rcases hu with rfl | rfl | rfl
              · exact g1
              · exact g2
              · exact g3) (by simp)
          exact RS.wp_mono fin (fun δ G h => ⟨rfl, h⟩) (fun _ _ h => h) (fun _ _ h => h.elim) (fun _ _ h => h.elim) fun _ _ _ h => h.elim
  obtain ⟨d, G', e, rfl⟩ := R.wp_ex_iff.mp h
  exact ⟨G', e⟩
end K03
end CF
end
section
set_option maxRecDepth 100000
set_option maxHeartbeats 0
namespace CF
namespace K03
open PySem PySem.Spec PyProof.Rows L2
def dd_is_integer : He.DefD := ⟨("is_integer", none), "is_integer", "is_integer", defArgs s_is_integer, defBody s_is_integer, defScope s_is_integer, [], []⟩
def dd_is_name : He.DefD := ⟨("is_name", none), "is_name", "is_name", defArgs s_is_name, defBody s_is_name, defScope s_is_name, [], []⟩
def dd_is_pairs : He.DefD := ⟨("is_pairs", none), "is_pairs", "is_pairs", defArgs s_is_pairs, defBody s_is_pairs, defScope s_is_pairs, [], []⟩
def dd_is_tree : He.DefD := ⟨("is_tree", none), "is_tree", "is_tree", defArgs s_is_tree, defBody s_is_tree, defScope s_is_tree, [.int 6], []⟩
def dd_count_of : He.DefD := ⟨("count_of", none), "count_of", "count_of", defArgs s_count_of, defBody s_count_of, defScope s_count_of, [], []⟩
def dd_check_tree : He.DefD := ⟨("check_tree", none), "check_tree", "check_tree", defArgs s_check_tree, defBody s_check_tree, defScope s_check_tree, [], []⟩
def dd_sorted_lists : He.DefD := ⟨("sorted_lists", none), "sorted_lists", "sorted_lists", defArgs s_sorted_lists, defBody s_sorted_lists, defScope s_sorted_lists, [], []⟩
def dd_same_but_orders : He.DefD := ⟨("same_but_orders", none), "same_but_orders", "same_but_orders", defArgs s_same_but_orders, defBody s_same_but_orders, defScope s_same_but_orders, [], []⟩
def dd__law_cell_at : He.DefD := ⟨("_law_cell_at", none), "_law_cell_at", "_law_cell_at", defArgs s__law_cell_at, defBody s__law_cell_at, defScope s__law_cell_at, [], []⟩
def dd__law_well : He.DefD := ⟨("_law_well", none), "_law_well", "_law_well", defArgs s__law_well, defBody s__law_well, defScope s__law_well, [], []⟩
def dd__law_draw : He.DefD := ⟨("_law_draw", none), "_law_draw", "_law_draw", defArgs s__law_draw, defBody s__law_draw, defScope s__law_draw, [], []⟩
def dd__law_one : He.DefD := ⟨("_law_one", none), "_law_one", "_law_one", defArgs s__law_one, defBody s__law_one, defScope s__law_one, [], []⟩
def dd__law_names : He.DefD := ⟨("_law_names", none), "_law_names", "_law_names", defArgs s__law_names, defBody s__law_names, defScope s__law_names, [], []⟩
def dd__law_tree : He.DefD := ⟨("_law_tree", none), "_law_tree", "_law_tree", defArgs s__law_tree, defBody s__law_tree, defScope s__law_tree, [], []⟩
def dd__law_nodes : He.DefD := ⟨("_law_nodes", none), "_law_nodes", "_law_nodes", defArgs s__law_nodes, defBody s__law_nodes, defScope s__law_nodes, [], []⟩
def dd__law_shuffled : He.DefD := ⟨("_law_shuffled", none), "_law_shuffled", "_law_shuffled", defArgs s__law_shuffled, defBody s__law_shuffled, defScope s__law_shuffled, [], []⟩
def dd__law_bare : He.DefD := ⟨("_law_bare", none), "_law_bare", "_law_bare", defArgs s__law_bare, defBody s__law_bare, defScope s__law_bare, [], []⟩
def dd__law_part : He.DefD := ⟨("_law_part", none), "_law_part", "_law_part", defArgs s__law_part, defBody s__law_part, defScope s__law_part, [], []⟩
def dd__law_with : He.DefD := ⟨("_law_with", none), "_law_with", "_law_with", defArgs s__law_with, defBody s__law_with, defScope s__law_with, [], []⟩
def dd__law_near : He.DefD := ⟨("_law_near", none), "_law_near", "_law_near", defArgs s__law_near, defBody s__law_near, defScope s__law_near, [], []⟩
def dd_law : He.DefD := ⟨("law", none), "law", "law", defArgs s_law, defBody s_law, defScope s_law, [], []⟩
def fnL : List He.DefD := [dd_is_integer, dd_is_name, dd_is_pairs, dd_is_tree, dd_count_of, dd_check_tree, dd_sorted_lists, dd_same_but_orders, dd__law_cell_at, dd__law_well, dd__law_draw, dd__law_one, dd__law_names, dd__law_tree, dd__law_nodes, dd__law_shuffled, dd__law_bare, dd__law_part, dd__law_with, dd__law_near, dd_law]
def faL : List He.Fa := [.glo "is_integer", .glo "is_name", .glo "is_pairs", .glo "is_tree", .glo "count_of", .glo "check_tree", .glo "sorted_lists", .glo "same_but_orders", .glo "_law_cell_at", .glo "_law_well", .glo "_law_draw", .glo "_law_one", .glo "_law_names", .glo "_law_tree", .glo "_law_nodes", .glo "_law_shuffled", .glo "_law_bare", .glo "_law_part", .glo "_law_with", .glo "_law_near", .glo "law", .free "all", .free "bool", .free "dict", .free "int", .free "isinstance", .free "len", .free "max", .free "range", .free "repr", .free "set", .free "sorted", .free "str", .free "sum", .free "tuple", .int "BOUND" (1000000000000000000000000000000), .str "LETTERS" "abcdefghijklmnopqrstuvwxyz", .int "MOST_LETTERS" (8), .int "MOST_NODES" (320)]
abbrev RW : PySem.W.OpenRow := PySem.W.OpenLaw.row PySem.Challenge.rw_claimfield_k03_same_but_orders
abbrev hkL : PySem.W.Hook := He.hookD 4 faL fnL
def obL (s : PySem.W.SharedT) : He.AlD := He.obsDG 4 faL fnL (HandSHeadRun.getT s)
theorem obL_eq (s : PySem.W.SharedT) : obL s = hkL.obs s.abs := He.obsDG_eq (HandSHeadRun.getT_eq s)
def nmL : List Str := ["ClaimError", "BadTree", "TooMany", "LETTERS", "MOST_LETTERS", "MOST_DEEP", "BOUND", "MOST_NODES", "is_integer", "is_name", "is_pairs", "is_tree", "count_of", "check_tree", "sorted_lists", "same_but_orders", "_law_cell_at", "_law_well", "_law_draw", "_law_one", "_law_names", "_law_tree", "_law_wish", "_law_nodes", "_law_shuffled", "_law_bare", "_law_part", "_law_with", "_law_near"]
theorem runL (w : World) : HandSHeadRun.RunEq RW (PySem.W.view RW.prog [32]) hkL obL 4000 nmL w := by
  intro os
  kernel_rfl
theorem law_fn {P : Program} {w : World} {K : PySem.W.Frag} {mg : Str → Option Value} {base : Heap} (T : Top K mg)
    {a_is_integer : Addr} {d_is_integer : FuncData} (H_is_integer : FnAt K "is_integer" "is_integer" s_is_integer a_is_integer d_is_integer)
    (t_is_integer : Tx K mg "is_integer" ["value"] [] a_is_integer d_is_integer)
    {a_is_name : Addr} {d_is_name : FuncData} (H_is_name : FnAt K "is_name" "is_name" s_is_name a_is_name d_is_name)
    (t_is_name : Tx K mg "is_name" ["value"] [] a_is_name d_is_name)
    {a_is_pairs : Addr} {d_is_pairs : FuncData} (H_is_pairs : FnAt K "is_pairs" "is_pairs" s_is_pairs a_is_pairs d_is_pairs)
    (t_is_pairs : Tx K mg "is_pairs" ["pairs", "room"] [] a_is_pairs d_is_pairs)
    {a_is_tree : Addr} {d_is_tree : FuncData} (H_is_tree : FnAt K "is_tree" "is_tree" s_is_tree a_is_tree d_is_tree)
    (t_is_tree_1 : Tx K mg "is_tree" ["value", "room"] [V.int 6] a_is_tree d_is_tree)
    (t_is_tree : Tx K mg "is_tree" ["value", "room"] [] a_is_tree d_is_tree)
    {a_count_of : Addr} {d_count_of : FuncData} (H_count_of : FnAt K "count_of" "count_of" s_count_of a_count_of d_count_of)
    (t_count_of : Tx K mg "count_of" ["tree"] [] a_count_of d_count_of)
    {a_check_tree : Addr} {d_check_tree : FuncData} (H_check_tree : FnAt K "check_tree" "check_tree" s_check_tree a_check_tree d_check_tree)
    (t_check_tree : Tx K mg "check_tree" ["tree"] [] a_check_tree d_check_tree)
    {a_sorted_lists : Addr} {d_sorted_lists : FuncData} (H_sorted_lists : FnAt K "sorted_lists" "sorted_lists" s_sorted_lists a_sorted_lists d_sorted_lists)
    (t_sorted_lists : Tx K mg "sorted_lists" ["tree"] [] a_sorted_lists d_sorted_lists)
    {a_same_but_orders : Addr} {d_same_but_orders : FuncData} (H_same_but_orders : FnAt K "same_but_orders" "same_but_orders" s_same_but_orders a_same_but_orders d_same_but_orders)
    (t_same_but_orders : Tx K mg "same_but_orders" ["one", "other"] [] a_same_but_orders d_same_but_orders)
    {a__law_cell_at : Addr} {d__law_cell_at : FuncData} (H__law_cell_at : FnAt K "_law_cell_at" "_law_cell_at" s__law_cell_at a__law_cell_at d__law_cell_at)
    (t__law_cell_at : Tx K mg "_law_cell_at" ["_law_script", "_law_k"] [] a__law_cell_at d__law_cell_at)
    {a__law_well : Addr} {d__law_well : FuncData} (H__law_well : FnAt K "_law_well" "_law_well" s__law_well a__law_well d__law_well)
    (t__law_well : Tx K mg "_law_well" ["_law_cell"] [] a__law_well d__law_well)
    {a__law_draw : Addr} {d__law_draw : FuncData} (H__law_draw : FnAt K "_law_draw" "_law_draw" s__law_draw a__law_draw d__law_draw)
    (t__law_draw : Tx K mg "_law_draw" ["_law_well_here", "_law_many"] [] a__law_draw d__law_draw)
    {a__law_one : Addr} {d__law_one : FuncData} (H__law_one : FnAt K "_law_one" "_law_one" s__law_one a__law_one d__law_one)
    (t__law_one : Tx K mg "_law_one" ["_law_well_here", "_law_some"] [] a__law_one d__law_one)
    {a__law_names : Addr} {d__law_names : FuncData} (H__law_names : FnAt K "_law_names" "_law_names" s__law_names a__law_names d__law_names)
    (t__law_names : Tx K mg "_law_names" ["_law_well_here", "_law_most"] [] a__law_names d__law_names)
    {a__law_tree : Addr} {d__law_tree : FuncData} (H__law_tree : FnAt K "_law_tree" "_law_tree" s__law_tree a__law_tree d__law_tree)
    (t__law_tree : Tx K mg "_law_tree" ["_law_well_here", "_law_deep", "_law_most"] [] a__law_tree d__law_tree)
    {a__law_nodes : Addr} {d__law_nodes : FuncData} (H__law_nodes : FnAt K "_law_nodes" "_law_nodes" s__law_nodes a__law_nodes d__law_nodes)
    (t__law_nodes : Tx K mg "_law_nodes" ["_law_tree_here", "_law_path"] [] a__law_nodes d__law_nodes)
    {a__law_shuffled : Addr} {d__law_shuffled : FuncData} (H__law_shuffled : FnAt K "_law_shuffled" "_law_shuffled" s__law_shuffled a__law_shuffled d__law_shuffled)
    (t__law_shuffled : Tx K mg "_law_shuffled" ["_law_well_here", "_law_tree_here"] [] a__law_shuffled d__law_shuffled)
    {a__law_bare : Addr} {d__law_bare : FuncData} (H__law_bare : FnAt K "_law_bare" "_law_bare" s__law_bare a__law_bare d__law_bare)
    (t__law_bare : Tx K mg "_law_bare" ["_law_tree_here"] [] a__law_bare d__law_bare)
    {a__law_part : Addr} {d__law_part : FuncData} (H__law_part : FnAt K "_law_part" "_law_part" s__law_part a__law_part d__law_part)
    (t__law_part : Tx K mg "_law_part" ["_law_tree_here", "_law_name"] [] a__law_part d__law_part)
    {a__law_with : Addr} {d__law_with : FuncData} (H__law_with : FnAt K "_law_with" "_law_with" s__law_with a__law_with d__law_with)
    (t__law_with : Tx K mg "_law_with" ["_law_tree_here", "_law_path", "_law_value"] [] a__law_with d__law_with)
    {a__law_near : Addr} {d__law_near : FuncData} (H__law_near : FnAt K "_law_near" "_law_near" s__law_near a__law_near d__law_near)
    (t__law_near : Tx K mg "_law_near" ["_law_well_here", "_law_tree_here"] [] a__law_near d__law_near)
    {a_law : Addr} {d_law : FuncData} (H_law : FnAt K "law" "law" s_law a_law d_law) :
    FnD P w K mg base 16 a_law d_law ["_law_script"] (F_law 6) := by
  have g_int := ok_is_integer (P := P) (w := w) (base := base) (k := 0) T H_is_integer
  have g_nm := ok_is_name (P := P) (w := w) (base := base) (k := 0) T H_is_name
  have g_ist : ∀ j, FnD P w K mg base (2 * j + 1) a_is_tree d_is_tree ["value", "room"] (F_ist j) := by
    intro j
    induction j with
    | zero => exact FnD.no
    | succ j ih => exact ok_is_tree T H_is_tree t_is_integer (g_int.mono (by omega)) t_is_pairs (ok_is_pairs T H_is_pairs t_is_name (g_nm.mono (by omega)) t_is_tree ih)
  have g_cnt : ∀ j, FnD P w K mg base (j + 1) a_count_of d_count_of ["tree"] (F_cnt j) := by
    intro j
    induction j with
    | zero => exact FnD.no
    | succ j ih => exact ok_count_of T H_count_of t_count_of ih
  have g_chk : FnD P w K mg base 14 a_check_tree d_check_tree ["tree"] (F_chk 6) := ok_check_tree T H_check_tree t_is_tree_1 (g_ist 6) t_count_of ((g_cnt 6).mono (by decide))
  have g_sl : ∀ j, FnD P w K mg base (j + 1) a_sorted_lists d_sorted_lists ["tree"] (F_sl j) := by
    intro j
    induction j with
    | zero => exact FnD.no
    | succ j ih => exact ok_sorted_lists T H_sorted_lists t_sorted_lists ih
  have g_same : FnD P w K mg base 15 a_same_but_orders d_same_but_orders ["one", "other"] (F_same 6) := ok_same_but_orders T H_same_but_orders t_check_tree g_chk t_sorted_lists ((g_sl 6).mono (by decide))
  have g_at := ok__law_cell_at (P := P) (w := w) (base := base) (k := 0) T H__law_cell_at
  have g_well := ok__law_well (P := P) (w := w) (base := base) (k := 0) T H__law_well
  have g_draw := ok__law_draw (P := P) (w := w) (base := base) (k := 0) T H__law_draw
  have g_one := ok__law_one (P := P) (w := w) (base := base) (k := 1) T H__law_one t__law_draw g_draw
  have g_names : FnD P w K mg base 2 a__law_names d__law_names ["_law_well_here", "_law_most"] (F_names F_draw) := FnD.le (ok__law_names T H__law_names t__law_draw g_draw) fun ds G => .inr rfl
  have g_tree : ∀ j, FnD P w K mg base (j + 2) a__law_tree d__law_tree ["_law_well_here", "_law_deep", "_law_most"] (F_tree j) := by
    intro j
    induction j with
    | zero => exact FnD.no
    | succ j ih => exact ok__law_tree T H__law_tree t__law_draw (g_draw.mono (by omega)) t__law_one (g_one.mono (by omega)) t__law_names (g_names.mono (by omega)) t__law_tree ih
  have g_nd : ∀ j, FnD P w K mg base (j + 1) a__law_nodes d__law_nodes ["_law_tree_here", "_law_path"] (F_nd j) := by
    intro j
    induction j with
    | zero => exact FnD.no
    | succ j ih => exact ok__law_nodes T H__law_nodes t__law_nodes ih
  have g_sh : ∀ j, FnD P w K mg base (j + 1) a__law_shuffled d__law_shuffled ["_law_well_here", "_law_tree_here"] (F_sh j) := by
    intro j
    induction j with
    | zero => exact FnD.no
    | succ j ih => exact FnD.le (ok__law_shuffled T H__law_shuffled t__law_shuffled ih t__law_draw (g_draw.mono (by omega))) fun ds G => .inr rfl
  have g_wi : ∀ j, FnD P w K mg base (j + 1) a__law_with d__law_with ["_law_tree_here", "_law_path", "_law_value"] (F_wi j) := by
    intro j
    induction j with
    | zero => exact FnD.no
    | succ j ih => exact FnD.le (ok__law_with T H__law_with t__law_with ih) fun ds G => .inr rfl
  have g_ba : FnD P w K mg base 8 a__law_bare d__law_bare ["_law_tree_here"] (F_ba 6) := FnD.le (ok__law_bare T H__law_bare t__law_nodes (g_nd 6)) fun ds G => .inr rfl
  have g_part := ok__law_part (P := P) (w := w) (base := base) (k := 0) T H__law_part
  have g_near : FnD P w K mg base 8 a__law_near d__law_near ["_law_well_here", "_law_tree_here"] (F_near 6) := ok__law_near T H__law_near t__law_nodes (g_nd 6) t__law_one (g_one.mono (by decide)) t__law_shuffled (g_sh 6) t__law_with (g_wi 6)
  exact ok_law T H_law t__law_cell_at (g_at.mono (by decide)) t__law_well (g_well.mono (by decide)) t__law_tree ((g_tree 4).mono (by decide)) t__law_shuffled ((g_sh 6).mono (by decide)) t__law_part (g_part.mono (by decide)) t__law_near (g_near.mono (by decide)) t__law_bare (g_ba.mono (by decide)) t_same_but_orders g_same
theorem factsL {P : Program} {w : World} {K : PySem.W.Frag} {h : Heap} {mg : Str → Option Value} {f : Addr} (X : K.In h) (G : h.Ns mainGlobals mg) (hfa : mg ("law" : Str) = some (.ref f)) (c : He.SaysD faL fnL K) :
    ∃ fd : FuncData, (∀ (s : Shared) (v : Value), BindsTo s fd ⟨[v], []⟩ [("_law_script", v)]) ∧ ∀ base : Heap, K.In base → base.Ns mainGlobals mg → FnD P w K mg base 16 f fd ["_law_script"] (F_law 6) := by
  obtain ⟨d_is_integer, H0_is_integer⟩ := c.def_ 0 (d := dd_is_integer) rfl
  have H_is_integer : FunD K "is_integer" "is_integer" (defArgs s_is_integer) (defBody s_is_integer) (defScope s_is_integer) [] [] (He.ga K "is_integer") d_is_integer := H0_is_integer
  have g_is_integer := He.glo_ok X G (c.fact 0 (f := .glo "is_integer") rfl)
  obtain ⟨d_is_name, H0_is_name⟩ := c.def_ 1 (d := dd_is_name) rfl
  have H_is_name : FunD K "is_name" "is_name" (defArgs s_is_name) (defBody s_is_name) (defScope s_is_name) [] [] (He.ga K "is_name") d_is_name := H0_is_name
  have g_is_name := He.glo_ok X G (c.fact 1 (f := .glo "is_name") rfl)
  obtain ⟨d_is_pairs, H0_is_pairs⟩ := c.def_ 2 (d := dd_is_pairs) rfl
  have H_is_pairs : FunD K "is_pairs" "is_pairs" (defArgs s_is_pairs) (defBody s_is_pairs) (defScope s_is_pairs) [] [] (He.ga K "is_pairs") d_is_pairs := H0_is_pairs
  have g_is_pairs := He.glo_ok X G (c.fact 2 (f := .glo "is_pairs") rfl)
  obtain ⟨d_is_tree, H0_is_tree⟩ := c.def_ 3 (d := dd_is_tree) rfl
  have H_is_tree : FunD K "is_tree" "is_tree" (defArgs s_is_tree) (defBody s_is_tree) (defScope s_is_tree) [V.int 6] [] (He.ga K "is_tree") d_is_tree := H0_is_tree
  have g_is_tree := He.glo_ok X G (c.fact 3 (f := .glo "is_tree") rfl)
  obtain ⟨d_count_of, H0_count_of⟩ := c.def_ 4 (d := dd_count_of) rfl
  have H_count_of : FunD K "count_of" "count_of" (defArgs s_count_of) (defBody s_count_of) (defScope s_count_of) [] [] (He.ga K "count_of") d_count_of := H0_count_of
  have g_count_of := He.glo_ok X G (c.fact 4 (f := .glo "count_of") rfl)
  obtain ⟨d_check_tree, H0_check_tree⟩ := c.def_ 5 (d := dd_check_tree) rfl
  have H_check_tree : FunD K "check_tree" "check_tree" (defArgs s_check_tree) (defBody s_check_tree) (defScope s_check_tree) [] [] (He.ga K "check_tree") d_check_tree := H0_check_tree
  have g_check_tree := He.glo_ok X G (c.fact 5 (f := .glo "check_tree") rfl)
  obtain ⟨d_sorted_lists, H0_sorted_lists⟩ := c.def_ 6 (d := dd_sorted_lists) rfl
  have H_sorted_lists : FunD K "sorted_lists" "sorted_lists" (defArgs s_sorted_lists) (defBody s_sorted_lists) (defScope s_sorted_lists) [] [] (He.ga K "sorted_lists") d_sorted_lists := H0_sorted_lists
  have g_sorted_lists := He.glo_ok X G (c.fact 6 (f := .glo "sorted_lists") rfl)
  obtain ⟨d_same_but_orders, H0_same_but_orders⟩ := c.def_ 7 (d := dd_same_but_orders) rfl
  have H_same_but_orders : FunD K "same_but_orders" "same_but_orders" (defArgs s_same_but_orders) (defBody s_same_but_orders) (defScope s_same_but_orders) [] [] (He.ga K "same_but_orders") d_same_but_orders := H0_same_but_orders
  have g_same_but_orders := He.glo_ok X G (c.fact 7 (f := .glo "same_but_orders") rfl)
  obtain ⟨d__law_cell_at, H0__law_cell_at⟩ := c.def_ 8 (d := dd__law_cell_at) rfl
  have H__law_cell_at : FunD K "_law_cell_at" "_law_cell_at" (defArgs s__law_cell_at) (defBody s__law_cell_at) (defScope s__law_cell_at) [] [] (He.ga K "_law_cell_at") d__law_cell_at := H0__law_cell_at
  have g__law_cell_at := He.glo_ok X G (c.fact 8 (f := .glo "_law_cell_at") rfl)
  obtain ⟨d__law_well, H0__law_well⟩ := c.def_ 9 (d := dd__law_well) rfl
  have H__law_well : FunD K "_law_well" "_law_well" (defArgs s__law_well) (defBody s__law_well) (defScope s__law_well) [] [] (He.ga K "_law_well") d__law_well := H0__law_well
  have g__law_well := He.glo_ok X G (c.fact 9 (f := .glo "_law_well") rfl)
  obtain ⟨d__law_draw, H0__law_draw⟩ := c.def_ 10 (d := dd__law_draw) rfl
  have H__law_draw : FunD K "_law_draw" "_law_draw" (defArgs s__law_draw) (defBody s__law_draw) (defScope s__law_draw) [] [] (He.ga K "_law_draw") d__law_draw := H0__law_draw
  have g__law_draw := He.glo_ok X G (c.fact 10 (f := .glo "_law_draw") rfl)
  obtain ⟨d__law_one, H0__law_one⟩ := c.def_ 11 (d := dd__law_one) rfl
  have H__law_one : FunD K "_law_one" "_law_one" (defArgs s__law_one) (defBody s__law_one) (defScope s__law_one) [] [] (He.ga K "_law_one") d__law_one := H0__law_one
  have g__law_one := He.glo_ok X G (c.fact 11 (f := .glo "_law_one") rfl)
  obtain ⟨d__law_names, H0__law_names⟩ := c.def_ 12 (d := dd__law_names) rfl
  have H__law_names : FunD K "_law_names" "_law_names" (defArgs s__law_names) (defBody s__law_names) (defScope s__law_names) [] [] (He.ga K "_law_names") d__law_names := H0__law_names
  have g__law_names := He.glo_ok X G (c.fact 12 (f := .glo "_law_names") rfl)
  obtain ⟨d__law_tree, H0__law_tree⟩ := c.def_ 13 (d := dd__law_tree) rfl
  have H__law_tree : FunD K "_law_tree" "_law_tree" (defArgs s__law_tree) (defBody s__law_tree) (defScope s__law_tree) [] [] (He.ga K "_law_tree") d__law_tree := H0__law_tree
  have g__law_tree := He.glo_ok X G (c.fact 13 (f := .glo "_law_tree") rfl)
  obtain ⟨d__law_nodes, H0__law_nodes⟩ := c.def_ 14 (d := dd__law_nodes) rfl
  have H__law_nodes : FunD K "_law_nodes" "_law_nodes" (defArgs s__law_nodes) (defBody s__law_nodes) (defScope s__law_nodes) [] [] (He.ga K "_law_nodes") d__law_nodes := H0__law_nodes
  have g__law_nodes := He.glo_ok X G (c.fact 14 (f := .glo "_law_nodes") rfl)
  obtain ⟨d__law_shuffled, H0__law_shuffled⟩ := c.def_ 15 (d := dd__law_shuffled) rfl
  have H__law_shuffled : FunD K "_law_shuffled" "_law_shuffled" (defArgs s__law_shuffled) (defBody s__law_shuffled) (defScope s__law_shuffled) [] [] (He.ga K "_law_shuffled") d__law_shuffled := H0__law_shuffled
  have g__law_shuffled := He.glo_ok X G (c.fact 15 (f := .glo "_law_shuffled") rfl)
  obtain ⟨d__law_bare, H0__law_bare⟩ := c.def_ 16 (d := dd__law_bare) rfl
  have H__law_bare : FunD K "_law_bare" "_law_bare" (defArgs s__law_bare) (defBody s__law_bare) (defScope s__law_bare) [] [] (He.ga K "_law_bare") d__law_bare := H0__law_bare
  have g__law_bare := He.glo_ok X G (c.fact 16 (f := .glo "_law_bare") rfl)
  obtain ⟨d__law_part, H0__law_part⟩ := c.def_ 17 (d := dd__law_part) rfl
  have H__law_part : FunD K "_law_part" "_law_part" (defArgs s__law_part) (defBody s__law_part) (defScope s__law_part) [] [] (He.ga K "_law_part") d__law_part := H0__law_part
  have g__law_part := He.glo_ok X G (c.fact 17 (f := .glo "_law_part") rfl)
  obtain ⟨d__law_with, H0__law_with⟩ := c.def_ 18 (d := dd__law_with) rfl
  have H__law_with : FunD K "_law_with" "_law_with" (defArgs s__law_with) (defBody s__law_with) (defScope s__law_with) [] [] (He.ga K "_law_with") d__law_with := H0__law_with
  have g__law_with := He.glo_ok X G (c.fact 18 (f := .glo "_law_with") rfl)
  obtain ⟨d__law_near, H0__law_near⟩ := c.def_ 19 (d := dd__law_near) rfl
  have H__law_near : FunD K "_law_near" "_law_near" (defArgs s__law_near) (defBody s__law_near) (defScope s__law_near) [] [] (He.ga K "_law_near") d__law_near := H0__law_near
  have g__law_near := He.glo_ok X G (c.fact 19 (f := .glo "_law_near") rfl)
  obtain ⟨d_law, H0_law⟩ := c.def_ 20 (d := dd_law) rfl
  have H_law : FunD K "law" "law" (defArgs s_law) (defBody s_law) (defScope s_law) [] [] (He.ga K "law") d_law := H0_law
  have g_law := He.glo_ok X G (c.fact 20 (f := .glo "law") rfl)
  have e := hfa.symm.trans g_law
  cases e
  have T : Top K mg := ⟨He.free_ok X G (c.fact 21 (f := .free "all") rfl),
    He.free_ok X G (c.fact 22 (f := .free "bool") rfl),
    He.free_ok X G (c.fact 23 (f := .free "dict") rfl),
    He.free_ok X G (c.fact 24 (f := .free "int") rfl),
    He.free_ok X G (c.fact 25 (f := .free "isinstance") rfl),
    He.free_ok X G (c.fact 26 (f := .free "len") rfl),
    He.free_ok X G (c.fact 27 (f := .free "max") rfl),
    He.free_ok X G (c.fact 28 (f := .free "range") rfl),
    He.free_ok X G (c.fact 29 (f := .free "repr") rfl),
    He.free_ok X G (c.fact 30 (f := .free "set") rfl),
    He.free_ok X G (c.fact 31 (f := .free "sorted") rfl),
    He.free_ok X G (c.fact 32 (f := .free "str") rfl),
    He.free_ok X G (c.fact 33 (f := .free "sum") rfl),
    He.free_ok X G (c.fact 34 (f := .free "tuple") rfl),
    He.int_ok X G (c.fact 35 (f := .int "BOUND" (1000000000000000000000000000000)) rfl),
    He.str_ok X G (c.fact 36 (f := .str "LETTERS" "abcdefghijklmnopqrstuvwxyz") rfl),
    He.int_ok X G (c.fact 37 (f := .int "MOST_LETTERS" (8)) rfl),
    He.int_ok X G (c.fact 38 (f := .int "MOST_NODES" (320)) rfl)⟩
  exact ⟨d_law, fun s v => FunD.bindsA (ps := ["_law_script"]) H_law (fun _ _ _ _ _ _ us hl => match us, hl with | [_], _ => rfl) s [v] rfl, fun base _ _ => law_fn T
    (.mkD H_is_integer)
    (Tx.ofN H_is_integer g_is_integer fun _ _ _ _ _ _ us hl => match us, hl with | [_], _ => rfl)
    (.mkD H_is_name)
    (Tx.ofN H_is_name g_is_name fun _ _ _ _ _ _ us hl => match us, hl with | [_], _ => rfl)
    (.mkD H_is_pairs)
    (Tx.ofN H_is_pairs g_is_pairs fun _ _ _ _ _ _ us hl => match us, hl with | [_, _], _ => rfl)
    (.mkD H_is_tree)
    (Tx.ofD 1 0 H_is_tree g_is_tree (by simp) rfl fun _ _ _ _ _ _ _ us its hl hi => match us, hl, its, hi with | [_], _, [_], _ => ⟨_, rfl, rfl⟩)
    (Tx.ofD 2 1 H_is_tree g_is_tree (by simp) rfl fun _ _ _ _ _ _ _ us its hl hi => match us, hl, its, hi with | [_, _], _, [_], _ => ⟨_, rfl, rfl⟩)
    (.mkD H_count_of)
    (Tx.ofN H_count_of g_count_of fun _ _ _ _ _ _ us hl => match us, hl with | [_], _ => rfl)
    (.mkD H_check_tree)
    (Tx.ofN H_check_tree g_check_tree fun _ _ _ _ _ _ us hl => match us, hl with | [_], _ => rfl)
    (.mkD H_sorted_lists)
    (Tx.ofN H_sorted_lists g_sorted_lists fun _ _ _ _ _ _ us hl => match us, hl with | [_], _ => rfl)
    (.mkD H_same_but_orders)
    (Tx.ofN H_same_but_orders g_same_but_orders fun _ _ _ _ _ _ us hl => match us, hl with | [_, _], _ => rfl)
    (.mkD H__law_cell_at)
    (Tx.ofN H__law_cell_at g__law_cell_at fun _ _ _ _ _ _ us hl => match us, hl with | [_, _], _ => rfl)
    (.mkD H__law_well)
    (Tx.ofN H__law_well g__law_well fun _ _ _ _ _ _ us hl => match us, hl with | [_], _ => rfl)
    (.mkD H__law_draw)
    (Tx.ofN H__law_draw g__law_draw fun _ _ _ _ _ _ us hl => match us, hl with | [_, _], _ => rfl)
    (.mkD H__law_one)
    (Tx.ofN H__law_one g__law_one fun _ _ _ _ _ _ us hl => match us, hl with | [_, _], _ => rfl)
    (.mkD H__law_names)
    (Tx.ofN H__law_names g__law_names fun _ _ _ _ _ _ us hl => match us, hl with | [_, _], _ => rfl)
    (.mkD H__law_tree)
    (Tx.ofN H__law_tree g__law_tree fun _ _ _ _ _ _ us hl => match us, hl with | [_, _, _], _ => rfl)
    (.mkD H__law_nodes)
    (Tx.ofN H__law_nodes g__law_nodes fun _ _ _ _ _ _ us hl => match us, hl with | [_, _], _ => rfl)
    (.mkD H__law_shuffled)
    (Tx.ofN H__law_shuffled g__law_shuffled fun _ _ _ _ _ _ us hl => match us, hl with | [_, _], _ => rfl)
    (.mkD H__law_bare)
    (Tx.ofN H__law_bare g__law_bare fun _ _ _ _ _ _ us hl => match us, hl with | [_], _ => rfl)
    (.mkD H__law_part)
    (Tx.ofN H__law_part g__law_part fun _ _ _ _ _ _ us hl => match us, hl with | [_, _], _ => rfl)
    (.mkD H__law_with)
    (Tx.ofN H__law_with g__law_with fun _ _ _ _ _ _ us hl => match us, hl with | [_, _, _], _ => rfl)
    (.mkD H__law_near)
    (Tx.ofN H__law_near g__law_near fun _ _ _ _ _ _ us hl => match us, hl with | [_, _], _ => rfl)
    (.mkD H_law)⟩
end K03
end CF
open PySem PySem.W PySem.Calls PyProof.Rows
theorem PySem.Challenge.cw_claimfield_k03_same_but_orders_holds : PySem.Challenge.rw_claimfield_k03_same_but_orders.Holds := by
  w_on; o_law
  refine HandSHeadRun.head_any (r := OpenLaw.row PySem.Challenge.rw_claimfield_k03_same_but_orders) (q := view (OpenLaw.row PySem.Challenge.rw_claimfield_k03_same_but_orders).prog [32]) (H := CF.K03.hkL) (ob := CF.K03.obL) (M := 4000) (loose := CF.K03.nmL) (d := HandSHeadRun.topDef (OpenLaw.row PySem.Challenge.rw_claimfield_k03_same_but_orders).prog 32) (kwd := []) CF.K03.obL_eq
    (by kernel_rfl) (fun s => by kernel_rfl) CF.K03.runL (by kernel_rfl) (by kernel_rfl) (by kernel_rfl) (by rfl) (by first | assumption | decide +kernel) (by decide +kernel) ⟨rfl, rfl, rfl, rfl, rfl, by decide +kernel⟩ ?hw ?hc
  case hw => w_witness2
  case hc =>
    refine CF.law_endE (l := PySem.Challenge.rw_claimfield_k03_same_but_orders) (n := 63) (k := 16) (x := "_law_script") rfl (by decide) (by kernel_rfl) ⟨rfl, by decide, by decide⟩ ?F (fun ns hl hb => CF.K03.m_law (k := 6) (by decide) ns hl)
    intro w mg fa h Y G hmg0
    obtain ⟨K, KX, c⟩ := Y
    have hmg : mg ("law" : PySem.Str) = some (.ref fa) := by
      have e : (HandSHeadRun.topDef (OpenLaw.row PySem.Challenge.rw_claimfield_k03_same_but_orders).prog 32).name = ("law" : PySem.Str) := by kernel_rfl
      rw [← e]
      exact hmg0
    obtain ⟨fd, hb, hF⟩ := CF.K03.factsL (P := (PySem.Challenge.rw_claimfield_k03_same_but_orders).prog) (w := w) KX G hmg c
    exact ⟨K, fd, KX, hb, hF⟩
end
