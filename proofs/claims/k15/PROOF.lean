import PyProof.Rows.All
import Wide.All
import OpenK.AllK
import Wide.FinOn
import HandS.Base
import HandS.Call
import HandS.List
import HandS.Comp
import HandS.Ends
import HandS.Dict
import HandS.Iter
import HandS.Words
import HandS.WordsList
import HandS.More
import HandS.Rev
import HandS.DictEq
import PyProof.TupleOfSeq
import KE.DatumOrd
import HandS.ForMost
import HandS.ForExc
import HandS.SortInts
import HandS.Hot
import HandS.ExcCtx
import HandS.HotCalls
import HandS.ExcIs
import HandS.IsInst
import HandS.DeepEq
import HandS.EndBits
import HandS.Evl
import HandS.Style
import HandS.Star
import HandS.TryOnly
import PySem.Challenge.RW_equalsgrown_k15_whole_forests_of_joins
import HandS.Walk
import HandS.Conv
set_option Elab.async false
set_option maxRecDepth 100000
set_option maxHeartbeats 4000000
/-! list(reversed(xs)); xs != ys where both are equal -/
namespace GE
open PySem PySem.Spec PyProof.Rows L2
section
variable {prog : Program} {w : World} {A : Around} {E : Value → Shared → Prop} {s : Shared}

/-- the empty list at S takes all that the reversed iterator it gives -/
theorem fillRev {R : Result → Shared → Prop} {it l S : Addr} {items : Array Value} {res : Value} {c₀ : Nat} (hh : A.handled = none)
    (hit : s.heap.IsRevIter it l ((items.size : Int) - 1)) (hl : s.heap.IsList l items) (nli : l ≠ it) (hz : items.size ≤ sizeLine) (nSi : S ≠ it) (nSl : S ≠ l)
    (hS : s.heap.get? S = some { cls := .type "list", data := .seq #[] c₀ })
    (goal : ∀ h' tk acc c', (∀ b o, b ≠ S → b ≠ it → s.heap.get? b = some o → h'.get? b = some o) → h'.get? S = some { cls := .type "list", dict := none, data := .seq acc c', slots := #[] } →
      ItemsOf (fun i v => items[items.size - 1 - i]? = some v) acc items.size → R (.ok (.ret res)) { s with heap := h', toks := tk }) :
    wpAny (model prog w) A.in1 (Builtin.List.listExtendWith (.ref S) (.ref it) res)
      (fun fin s' => match fin with | .done f => R (.ok f) s' | .again c' => c'.quiet = true ∧ codeAny (model prog w) A c' R s') (fun e s' => R (.error e) s') s := by
  have walk := (Walks.listRev (prog := prog) (w := w) (A := A.in1) hh it l nli items).toS
  have ty : s.TypeIs (.ref it) "list_reverseiterator" := hit.typeIs
  have ne1 : Builtin.List.listSameRef (.ref S) (.ref it) = false := by simp [Builtin.List.listSameRef, nSi]
  have nin : S ∉ [it, l] := by
    intro q
    rcases List.mem_cons.mp q with q | q
    · exact nSi q
    · exact nSl (List.mem_singleton.mp q)
  unfold Builtin.List.listExtendWith
  refine wpAny_bind (wpAny_typeOf ty ?_)
  rw [if_neg (by rw [ne1]; decide)]
  refine wpAny_bind (wpAny_pyIter_revIter hit ?_)
  refine wpAny_bind (wpAny_holding ?_)
  unfold Builtin.List.listLengthHint
  refine wpAny_bind (wpAny_specialOf ty RT.nolen_lri ?_)
  show wpAny _ A.in1 (specialOf (Value.ref it) (Str.ofString "__length_hint__") >>= _) _ _ _
  refine wpAny_bind (wpAny_specialOf ty RT.hint_lri ?_)
  generalize hid : ("list_reverseiterator.__length_hint__" : String) = id0
  wp_delta
  rw [show splitId id0 = some ("list_reverseiterator", "__length_hint__") from by subst hid; decide +kernel]
  subst hid
  refine wpAny_bind (wpAny_isInstance (b := true) ty (by rw [isSubtype_type]; kernel_rfl) ?_)
  refine wpAny_pure ?_
  rw [if_neg (by decide)]
  have z0 : (items.size : Int) - 1 - ((0 : Nat) : Int) = (items.size : Int) - 1 := by omega
  refine wpAny_pure ⟨plainId_quiet F.plain_extend_loop _, codeAny_extend_loopS walk hz _ nin _ items.size 0 _ _ _ rfl (Nat.zero_le _) ⟨Nat.zero_le _, by rw [z0]; exact hit, hl⟩ hS (ItemsOf.nil _) fun s' acc' c' hm hS' hacc => ?_⟩
  rw [Moved.eq_with hm]
  refine goal s'.heap s'.toks acc' c' (fun b o hb hb2 e => hm.heap b o (fun mem => ?_) e) hS' hacc
  rcases List.mem_cons.mp mem with q | q
  · exact hb q
  · exact hb2 (List.mem_singleton.mp q)

/-- list(it) of such an iterator -/
theorem listOfRev {it l : Addr} {items : Array Value} {Q : Value → Shared → Prop} (hh : A.handled = none)
    (hit : s.heap.IsRevIter it l ((items.size : Int) - 1)) (hl : s.heap.IsList l items) (nli : l ≠ it) (hz : items.size ≤ sizeLine)
    (goal : ∀ h' tk acc c', (∀ b o, b ≠ it → s.heap.get? b = some o → h'.get? b = some o) → h'.get? s.heap.objs.size = some { cls := .type "list", dict := none, data := .seq acc c', slots := #[] } →
      ItemsOf (fun i v => items[items.size - 1 - i]? = some v) acc items.size → Q (.ref s.heap.objs.size) { s with heap := h', toks := tk }) :
    wpAny (model prog w) A (call (.type "list") [.ref it]) Q E s := by
  obtain ⟨oi, hoi, _⟩ := id hit
  obtain ⟨ol, hol, _⟩ := id hl
  have n1 : s.heap.objs.size ≠ it := Nat.ne_of_gt (Heap.lt_size hoi)
  have n2 : s.heap.objs.size ≠ l := Nat.ne_of_gt (Heap.lt_size hol)
  refine callType_codes (Q₁ := fun obj s₁ => obj = .ref s.heap.objs.size ∧ s₁ = { s with heap := s.heap.push { cls := .type "list", data := .seq #[] } }) F.called_list (F.typeCall_list_1 _) F.entry_list_init
    (code_list_new _ ⟨rfl, rfl⟩) fun obj s₁ made => ?_
  obtain ⟨rfl, rfl⟩ := made
  have hS : (s.heap.push { cls := .type "list", data := .seq #[] }).get? s.heap.objs.size = some { cls := .type "list", data := .seq #[] } := Heap.get?_push_size _ rfl
  refine ⟨⟨_, hS, rfl⟩, F.args_list_init_2 _ _, ?_⟩
  show wpAny _ _ (do let old ← Builtin.List.listItems (.ref s.heap.objs.size); Builtin.List.listUpdate (.ref s.heap.objs.size) (fun _ => #[]); letGo old.toList.reverse; Builtin.List.listExtendWith (.ref s.heap.objs.size) (.ref it) .none) _ _ _
  refine wpAny_bind ?_
  unfold Builtin.List.listItems
  refine wpAny_bind (wpAny_seqItems hS rfl (wpAny_pure ?_))
  refine wpAny_bind (wpAny_updateSeq hS rfl ?_)
  have hS2 := Heap.get?_update_self (Obj.mapSeq (fun _ => (#[] : Array Value))) hS rfl
  have other : ∀ b o, b ≠ s.heap.objs.size → s.heap.get? b = some o → ((s.heap.push { cls := .type "list", data := .seq #[] }).update s.heap.objs.size (Obj.mapSeq (fun _ => (#[] : Array Value)))).get? b = some o :=
    fun b o hb e => (Heap.get?_update_other _ _ (Ne.symm hb)).trans (Heap.get?_push_of_some _ e)
  refine wpAny_bind (wpAny_letGo ?_)
  refine fillRev (A := A.in1) hh (hit.at fun o e => other it o n1.symm e) (by obtain ⟨o, e, r⟩ := hl; exact ⟨o, other l o n2.symm e, r⟩) nli hz n1 n2 hS2 fun h' tk acc c' keep hnew hacc => ?_
  exact ⟨rfl, goal h' tk acc c' (fun b o hb e => keep b o (Nat.ne_of_lt (Heap.lt_size e)) hb (other b o (Nat.ne_of_lt (Heap.lt_size e)) e)) hnew hacc⟩
end

/-- list(reversed(e)), e a list: a new list -/
def tListRev (K : PySem.W.Frag) (te : TE) : TE := fun σ H Q => te σ H fun v H1 => ∃ (a : Addr) (xs : List V), v = .ref a ∧ SqL K H1 a xs ∧ ∀ q, H1 q = none → Q (.ref q) (upd H1 q (.lst xs.reverse))
section
variable {X : Cx}
theorem pe_listRev {e : Expr} {te : TE} {p p2 pos pos2 : Pos} (hc : X.calm = true) (hg : Gl X "list") (hm : X.mg "list" = none) (hg2 : Gl X "reversed") (hm2 : X.mg "reversed" = none) (he : PE X e te)
    (hs : starEach [e] X.env = (false, eval e X.env) :: starEach [] X.env := by rfl)
    (hs2 : starEach [.Call (.Name "reversed" p2) [e] [] pos2] X.env = (false, eval (.Call (.Name "reversed" p2) [e] [] pos2) X.env) :: starEach [] X.env := by rfl) :
    PE X (.Call (.Name "list" p) [.Call (.Name "reversed" p2) [e] [] pos2] [] pos) (tListRev X.K te) := by
  refine ⟨fun pins s σ H Q I h => ?_⟩
  refine Call_ (ld_blt I hg hm boot_list (PyProof.Rows.callWith_type1 (args_cons (Call_ (ld_blt I hg2 hm2 PyProof.Rows.boot_reversed (PyProof.Rows.callWith_type1 (args_cons (thn (he.run pins s σ H _ I h) fun u s1 got => args_nil ?_) hs) hs rfl))) hs2) hs2 rfl))
  obtain ⟨v, H1, I1, r1, a, xs, ev, hq, q⟩ := got
  subst ev
  obtain rfl : u = Value.ref a := r1
  obtain ⟨its, rv, pl, hz⟩ := I1.list hq
  have isl := pl.isList
  obtain ⟨ol, hol, _⟩ := id isl
  have len : its.toArray.size = xs.length := by rw [List.size_toArray, rv.length]
  refine call_reversed_list isl (args_nil ?_)
  have k0 : ∀ b o, s1.heap.get? b = some o → (s1.heap.push (revObj a ((its.toArray.size : Int) - 1))).get? b = some o := fun b o e => Heap.get?_push_of_some _ e
  have hne : a ≠ s1.heap.objs.size := Nat.ne_of_lt (Heap.lt_size hol)
  refine listOfRev (s := { s1 with heap := s1.heap.push (revObj a ((its.toArray.size : Int) - 1)) }) (I1.ok.hd hc) ⟨_, Heap.get?_push_size _ rfl, rfl, rfl⟩ (isl.push _) hne (by rw [len]; exact hz) fun h' tk acc c' keep hnew hacc => ?_
  have old : ∀ b o, s1.heap.get? b = some o → h'.get? b = some o := fun b o e => keep b o (Nat.ne_of_lt (Heap.lt_size e)) (k0 b o e)
  have le : s1.heap.objs.size ≤ (s1.heap.push (revObj a ((its.toArray.size : Int) - 1))).objs.size := by
    refine Nat.le_of_lt (Heap.lt_size (Heap.get?_push_size _ rfl) : s1.heap.objs.size < _)
  refine ⟨.ref (s1.heap.push (revObj a ((its.toArray.size : Int) - 1))).objs.size, _, I1.laid (t' := tk) (o := .lst xs.reverse) old le (show ObjOk X.prog X.w _ h' _ (.lst xs.reverse) from ⟨by rw [List.length_reverse]; exact hz, acc.toList, c', RT.vals_rev rv hacc, ?_⟩), rfl, q _ (I1.hok.fresh le)⟩
  rw [Array.toArray_toList]
  exact hnew
end
end GE

set_option Elab.async false
set_option linter.all false
set_option maxRecDepth 100000
set_option maxHeartbeats 4000000
/-! sorted(t), min(t) of a tuple of ints -/
namespace GE
open PySem PySem.Spec PyProof.Rows L2
section
variable {X : Cx}
theorem readsInts (h : Heap) : ∀ (ns : List Int) (its : List Value), Vals (ns.map V.int) its → ∃ as, ReadsAll h its (ns.map PyData.int) as
  | [], _, .nil => ⟨_, .nil⟩
  | n :: ns, _, .cons r rs => by
    obtain ⟨as, ra⟩ := readsInts h ns _ rs
    obtain ⟨t, rfl⟩ := r
    exact ⟨_, .cons (.int n t) ra⟩
theorem minOf_le : ∀ (xs : List Int) (x : Int), PySem.W.minOf x xs ∈ x :: xs ∧ ∀ y ∈ x :: xs, PySem.W.minOf x xs ≤ y
  | [], x => ⟨List.mem_cons_self, fun y hy => by
    rw [List.mem_singleton.mp hy]
    exact Int.le_refl _⟩
  | z :: xs, x => by
    show xs.foldl _ (if PySem.W.DatumOrd.lt z x = true then z else x) ∈ _ ∧ ∀ y ∈ _, xs.foldl _ (if PySem.W.DatumOrd.lt z x = true then z else x) ≤ y
    by_cases c : PySem.W.DatumOrd.lt z x = true
    · rw [if_pos c]
      obtain ⟨h1, h2⟩ := minOf_le xs z
      have c : z < x := of_decide_eq_true c
      refine ⟨List.mem_cons_of_mem _ h1, fun y hy => ?_⟩
      rcases List.mem_cons.mp hy with e | q
      · subst e
        exact Int.le_trans (h2 z List.mem_cons_self) (Int.le_of_lt c)
      · exact h2 y q
    · rw [if_neg c]
      obtain ⟨h1, h2⟩ := minOf_le xs x
      have c : ¬ z < x := fun q => c (decide_eq_true q)
      refine ⟨?_, fun y hy => ?_⟩
      · rcases List.mem_cons.mp h1 with e | q
        · rw [show xs.foldl _ x = x from e]
          exact List.mem_cons_self
        · exact List.mem_cons_of_mem _ (List.mem_cons_of_mem _ q)
      · rcases List.mem_cons.mp hy with e | q
        · subst e
          exact h2 y List.mem_cons_self
        · rcases List.mem_cons.mp q with e | q
          · subst e
            exact Int.le_trans (h2 x List.mem_cons_self) (Int.not_lt.mp c)
          · exact h2 y (List.mem_cons_of_mem _ q)
/-- min(t), t a tuple of ints -/
theorem cr_minT (hc : X.calm = true) (hu : X.A.units + 2 < cLine) : CallR X (.builtin "min") (fun vs H Q => ∃ (a : Addr) (ns : List Int), vs = [V.ref a] ∧ SqT X.K H a (ns.map V.int) ∧ 0 < ns.length ∧ ∀ m, m ∈ ns → (∀ y, y ∈ ns → m ≤ y) → Q (.int m) H) := by
  intro pins s σ H vs us Q I r h
  obtain ⟨a, ns, rfl, hs, hne, q⟩ := h
  obtain ⟨its, rv, hl, _⟩ := I.tuple hs
  rw [Vals.ref1 r]
  cases ns with
  | nil => cases hne
  | cons n ns =>
    obtain ⟨as, ra⟩ := readsInts s.heap (n :: ns) its rv
    refine PySem.W.min_tuple_datum (α := Int) (x := n) (xs := ns) (I.ok.hd hc) (show s.heap.IsTuple a its.toArray from hl) ⟨as, ra⟩ (by show X.A.units + 1 + 0 < cLine; omega) fun i v h' tk hi hv hk => ?_
    obtain ⟨bs, rb⟩ := hv
    have rb : Reads h' v (.int (PySem.W.minOf n ns)) bs := rb
    have k := minOf_le ns n
    generalize PySem.W.minOf n ns = m at rb k
    cases rb with
    | int i t => exact ⟨.int m, H, I.kept hk, ⟨t, rfl⟩, q m k.1 k.2⟩
/-- sorted(t), t a tuple of ints -/
theorem cr_sortedT : CallR X (.builtin "sorted") (fun vs H Q => ∃ (a : Addr) (ns : List Int), vs = [V.ref a] ∧ SqT X.K H a (ns.map V.int) ∧
    ∀ (ns' : List Int) (p : Addr), ns'.Perm ns → ns'.Pairwise (· ≤ ·) → H p = none → Q (.ref p) (upd H p (.lst (ns'.map V.int)))) := by
  intro pins s σ H vs us Q I r h
  obtain ⟨a, ns, rfl, hs, q⟩ := h
  obtain ⟨its, rv, hl, hz⟩ := I.tuple hs
  rw [Vals.ref1 r]
  have hi := rv.ints
  obtain ⟨o, ho, hc, n, hd⟩ := (show s.heap.IsTuple a its.toArray from hl)
  have hsz : its.length ≤ sizeLine := by rw [← rv.length]; exact hz
  refine Calls.call_function_entry kind_sorted plain_sorted entry_sorted (args_sorted1 _) ?_
  unfold Builtin.«sorted»
  refine wpAny_bind (m := checkCount "sorted" 1 1 _) (wpAny_pure ?_)
  refine wpAny_bind (wpAny_collect_seq a (.inr rfl) ho hc hd (fun h' hk => ?_) (by rw [List.size_toArray]; exact hsz))
  show wpAny _ _ (newList its >>= _) _ _ _
  refine wpAny_bind (wpAny_newList ?_ hsz)
  have hoL : (h'.push (seqObj "list" its.toArray 0)).get? h'.objs.size = some (seqObj "list" its.toArray 0) := Heap.get?_push_size _ rfl
  show wpAny _ _ _ _ _ { s with heap := h'.push (seqObj "list" its.toArray 0) }
  refine wpAny_bind (wpAny_holding (wpAny_call_entry slot_list_sort ⟨_, hoL, rfl⟩ entry_list_sort
    (SrtO.list_sort_ord SrtO.swo_int hoL hsz (fun h2 => SrtO.ints_sortable hi h2) fun out h1 h2 => ⟨_, rfl, ?_⟩) (args_list_sort _)))
  obtain ⟨k1, k2, k3⟩ := SrtO.ints_out hi h1 h2
  obtain ⟨e', he'⟩ := sortedHeap_at (vs := its) (out := out.toArray) hoL
  have hlen : ((out.map SrtO.iv).map V.int).length ≤ sizeLine := by
    rw [List.length_map, k2.length_eq]
    rw [List.length_map] at hz
    exact hz
  have I1 : Inv X pins σ H { s with heap := h' } := I.kept (t' := s.toks) hk
  refine wpAny_pure ⟨_, rfl, .ref h'.objs.size, upd H h'.objs.size (.lst ((out.map SrtO.iv).map V.int)), I1.laid (t' := s.toks) (fun b u e => ?_) (Nat.le_refl _) ⟨hlen, out, e', vals_of_ints k1, he'⟩, rfl, q _ _ k2 k3 (I1.hok.fresh (Nat.le_refl _))⟩
  have lt : b < h'.objs.size := Heap.lt_size e
  rw [sortedHeap_old (Nat.ne_of_lt lt) (Nat.lt_of_lt_of_le lt (by rw [Heap.size_push]; exact Nat.le_succ _))]
  exact Heap.get?_push_of_some _ e
end
end GE

set_option Elab.async false
set_option linter.all false
set_option maxRecDepth 100000
set_option maxHeartbeats 4000000
/-! a def that an except suite calls, handed the exception: isinstance of it, a comprehension over a list of truth values -/
namespace GE
open PySem PySem.Spec PyProof.Rows L2 HotX L2H
section
variable {prog : Program} {w : World} {A : Around} {E : Value → Shared → Prop} {s : Shared}
/-- the end of a list's iterator, an exception being handled -/
theorem next_list_end_hot {it l x1 : Addr} {i : Nat} {items} {Q : Option Value → Shared → Prop} (hot : HotAt A x1 s.heap) (nx : x1 ≠ it)
    (hit : s.heap.IsListIter it l i) (hl : s.heap.IsList l items) (hx : items[i]? = none)
    (hQ : ∀ h', (∀ b o, b ≠ it → s.heap.get? b = some o → h'.get? b = some o) → Q none { s with heap := h' }) : wpAny (model prog w) A (pyNext (.ref it)) Q E s := by
  obtain ⟨o, ho, hc, hd⟩ := id hit
  obtain ⟨ol, hol, _, nl, hdl⟩ := hl
  obtain ⟨hh, o1, vs1, h1, d1, c1⟩ := hot
  unfold pyNext
  refine wpAny_bind (wpAny_attempt (wpAny_callSpecial?_slot (name := Str.ofString "__next__") hit.typeIs slot_listiter_next
    (wpAny_call_entry slot_listiter_next hit.typeIs entry_listiter_next ?_ (args_listiter_next _))))
  show wpAny _ _ (field (.ref it) 0 >>= _) _ _ s
  refine wpAny_bind (wpAny_field ho hd (x := .ref l) rfl ?_)
  show wpAny _ _ (if (Value.ref l == Value.none) = true then _ else _) _ _ s
  rw [if_neg (show ¬ ((Value.ref l == Value.none) = true) from Bool.false_ne_true)]
  show wpAny _ _ (field (.ref it) 1 >>= _) _ _ s
  refine wpAny_bind (wpAny_field ho hd (x := .int i 0) rfl ?_)
  show wpAny _ _ (seqItems? (.ref l) >>= _) _ _ s
  refine wpAny_bind (wpAny_seqItems hol hdl ?_)
  simp only [Int.toNat_natCast, hx]
  refine wpAny_bind (wpAny_rule (wpAny_bind (wpAny_setField ho hd (by simp) ?_)))
  generalize hgen : s.heap.update it _ = h2
  have keep : ∀ b u, b ≠ it → s.heap.get? b = some u → h2.get? b = some u := fun b u nb e => by
    rw [← hgen, Heap.get?_update_other _ _ (Ne.symm nb)]
    exact e
  have h1' : h2.get? x1 = some o1 := keep _ _ nx h1
  show wpAny _ _ (newExc (.type "StopIteration") [] >>= _) _ _ _
  refine wpAny_bind ?_
  simp only [newExc, newTuple]
  refine wpAny_bind (wpAny_newObj_type ?_ (by size_fits))
  refine wpAny_bind (m := firstArgMember _ _) (wpAny_of_eq (a := Value.none) (by first | rfl | (simp only [firstArgMember]; rfl)) ?_)
  refine wpAny_newObj_type ?_ (by size_fits)
  refine raiseNew_hot (x1 := x1) ⟨hh, o1, vs1, Heap.get?_push_of_some _ (Heap.get?_push_of_some _ h1'), d1, c1⟩ (Nat.ne_of_lt (Heap.lt_size (Heap.get?_push_of_some _ h1'))) (Heap.get?_push_size _ rfl) rfl (by first | (simp; done) | (simp; omega) | (simp only [Array.size_append]; simp; omega)) ?_
  refine wpAny_bind (wpAny_isInstance (T := "StopIteration") (b := true) ⟨_, Heap.get?_update_self _ (Heap.get?_push_size _ rfl) rfl, rfl⟩ isSubtype_stop ?_)
  refine wpAny_pure (hQ _ fun b u nb e => ?_)
  have e2 := keep b u nb e
  rw [Heap.get?_update_other _ _ (Nat.ne_of_gt (Heap.lt_size (Heap.get?_push_of_some _ e2)))]
  exact Heap.get?_push_of_some _ (Heap.get?_push_of_some _ e2)
end
/-- the handled exception stands in the state at which the context starts -/
structure HotB (X : Cx) (x1 : Addr) (o : Obj) : Prop where
  hot : Hot1 X.A (x1, o)
  get : X.s_0.heap.get? x1 = some o
  free : X.H_0 x1 = none
  nofs : x1 ∉ X.fs
  noex : x1 ∉ X.ex
theorem HotB.stay {X : Cx} {x1 : Addr} {o : Obj} (c : HotB X x1 o) {pins : List (Addr × Obj)} {σ : L2.St} {H : Hp} {s : Shared} (I : Inv X pins σ H s) : s.heap.get? x1 = some o := I.base.keep _ _ c.get c.free c.nofs c.noex
theorem HotB.no {X : Cx} {x1 : Addr} {o : Obj} (c : HotB X x1 o) {pins : List (Addr × Obj)} {σ : L2.St} {H : Hp} {s : Shared} (I : Inv X pins σ H s) : H x1 = none := I.base.free _ _ c.get c.free c.noex
theorem HotB.at {X : Cx} {x1 : Addr} {o : Obj} (c : HotB X x1 o) {pins : List (Addr × Obj)} {σ : L2.St} {H : Hp} {s : Shared} (I : Inv X pins σ H s) : HotAt X.A x1 s.heap := by
  obtain ⟨hh, v1, e1, c1⟩ := c.hot
  exact ⟨hh, o, v1, c.stay I, e1, c1⟩
section
variable {X : Cx}
theorem sameUpd {H : Hp} {a : Addr} {o : HO} (h : H a = none) : Same H (upd H a o) := fun b u e => by
  rw [upd_ne (fun z => by rw [z, h] at e; cases e)]
  exact e
def tTrue (K : PySem.W.Frag) (ti : TE) : TE := fun σ H Q => ti σ H fun v H1 => ∃ (a : Addr) (bs : List Bool), v = .ref a ∧ SqL K H1 a (bs.map V.bl) ∧ ∀ D, H1 D = none → Q (.ref D) (upd H1 D (.lst ((bs.filter id).map V.bl)))
/-- [x for x in xs if x], xs a list of truth values, an exception being handled -/
theorem pe_lcTrue {x : Str} {i : Nat} {iter : Expr} {p1 p2 p4 pos : Pos} {scope : Scope} {own : List (Str × Nat)} {ti : TE} {x1 : Addr} {o1 : Obj} (hc : HotB X x1 o1) (hN : X.N.Nodup) (hi : PE X iter ti) (ok : BlkOk X.N X.env.scope scope own) (hx : i ∈ own.map (·.2)) (hil : i < X.N.length)
    (hg : ∀ (s : Shared) (H : Hp) (C : Addr) (cl : List (Str × Addr)) (fp : List Addr), PG (X.blk s H scope (compEnvC scope cl C X.env) fp) (.Name x p2) (gName i))
    (ht : ∀ (s : Shared) (H : Hp) (C : Addr) (cl : List (Str × Addr)) (fp : List Addr), PTs (X.blk s H scope (compEnvC scope cl C X.env) fp) [.Name x p4] (tB (tVar i)))
    (he : ∀ (s : Shared) (H : Hp) (C : Addr) (cl : List (Str × Addr)) (fp : List Addr), PE (X.blk s H scope (compEnvC scope cl C X.env) fp) (.Name x p1) (tVar i)) (hs : ∀ x, foldedSetIterable iter X.env x = pure x := by intro _; rfl) :
    PE X (.ListComp (.Name x p1) [⟨.Name x p2, iter, [.Name x p4], 0⟩] scope pos) (tTrue X.K ti) := by
  refine ⟨fun pins s σ H Q I h => ?_⟩
  have hfree : ∀ y ∈ scope.names, y.2 = .free → ∃ c, X.env.cells.lookup y.1 = some c := fun y hy e => by
    rcases ok.free y hy e with k | k
    · exact I.ok.has _ (.inl k)
    · exact I.ok.has _ (.inr k)
  rw [eval_ListComp]
  refine wpAny_comprehension_free (use := none) rfl hs (closure_ok hfree) ok.kind (fun y hy e => by rw [ok.uniq y hy, e]) (thn (hi.run pins s σ H _ I h) fun u s1 ⟨v, H1, I1, r1, a, bs, ev, hq, q⟩ => ?_)
  subst ev
  cases r1
  obtain ⟨its, rv, p, hz⟩ := I1.list hq
  have hlen : its.length = bs.length := by rw [← rv.length, List.length_map]
  refine wpAny_pyIter_list p.isList ?_
  -- the iterator, the new list
  generalize hit : s1.heap.objs.size = it
  have itn : H1 it = none := I1.hok.fresh (Nat.le_of_eq hit)
  have fit : FpOk X pins H1 it := I1.fpOk (Nat.le_of_eq hit) itn
  generalize hs2 : ({ s1 with heap := s1.heap.push { cls := .type "list_iterator", data := .fields #[.ref a, .int 0 0] } } : Shared) = s2
  have I2 : Inv X pins σ H1 s2 := by
    rw [← hs2]
    exact I1.kept (t' := s1.toks) fun b o e => Heap.get?_push_of_some _ e
  have st2 : s2.heap.IsListIter it a 0 := by
    rw [← hs2, ← hit]
    exact ⟨_, Heap.get?_push_size _ rfl, rfl, rfl⟩
  refine wpAny_newObj_type (newEnv_comp ?_) (by show 0 ≤ sizeLine; decide)
  generalize hD : s2.heap.objs.size = D
  have hDn : H1 D = none := I2.hok.fresh (Nat.le_of_eq hD)
  generalize hs3 : ({ s2 with heap := s2.heap.push { cls := .type "list", data := .seq ([] : List Value).toArray } } : Shared) = s3
  have I3 : Inv X pins σ (upd H1 D (.lst [])) s3 := by
    rw [← hs3]
    refine I2.laid (t' := s2.toks) (fun b o e => Heap.get?_push_of_some _ e) (Nat.le_of_eq hD) ⟨Nat.zero_le _, [], 0, .nil, ?_⟩
    rw [← hD]
    exact Heap.get?_push_size _ rfl
  have itlt : it < s2.heap.objs.size := by
    obtain ⟨o, e, _⟩ := st2
    exact Heap.lt_size e
  have nDi : it ≠ D := by rw [← hD]; exact Nat.ne_of_lt itlt
  have k23 : ∀ b o, s2.heap.get? b = some o → s3.heap.get? b = some o := fun b o e => by
    rw [← hs3]
    exact Heap.get?_push_of_some _ e
  have st3 : s3.heap.IsListIter it a 0 := st2.at (k23 it)
  have f3 : ∀ b ∈ [it], FpOk X pins (upd H1 D (.lst [])) b ∧ b < s3.heap.objs.size := fun b hb => by
    rw [List.mem_singleton.mp hb]
    refine ⟨⟨?_, fit.2⟩, ?_⟩
    · rw [upd_ne nDi]
      exact itn
    · rw [← hs3]
      show it < (s2.heap.push _).objs.size
      rw [Heap.size_push]
      exact Nat.lt_succ_of_lt itlt
  have I4 := block_start I3 ok hN f3
  have hq3 : SqL X.K (upd H1 D (.lst [])) a (bs.map V.bl) := (sameUpd hDn).seq hq
  generalize hH3 : upd H1 D (.lst []) = H3 at I3 I4 f3 hq3
  have pg := hg s3 H3 s3.heap.objs.size (cellsFrom (s3.heap.objs.size + 1) scope.names (cloFrom X.env.cells scope.names [])) [it]
  have pt := ht s3 H3 s3.heap.objs.size (cellsFrom (s3.heap.objs.size + 1) scope.names (cloFrom X.env.cells scope.names [])) [it]
  have pe := he s3 H3 s3.heap.objs.size (cellsFrom (s3.heap.objs.size + 1) scope.names (cloFrom X.env.cells scope.names [])) [it]
  show codeAny _ _ (.compStart (.ListComp (.Name x p1) [⟨.Name x p2, iter, [.Name x p4], 0⟩] scope pos) 0 (.ref it) (.ref D) (compEnvC scope (cellsFrom (s3.heap.objs.size + 1) scope.names (cloFrom X.env.cells scope.names [])) s3.heap.objs.size X.env)) _ { s3 with heap := pushCells (s3.heap.push { cls := .type "dict", data := .dict #[] }) scope.names }
  generalize hce : compEnvC scope (cellsFrom (s3.heap.objs.size + 1) scope.names (cloFrom X.env.cells scope.names [])) s3.heap.objs.size X.env = ce at I4 pg pt pe ⊢
  have cL : ce.locals = s3.heap.objs.size := by subst hce; rfl
  generalize hs4 : ({ s3 with heap := pushCells (s3.heap.push { cls := .type "dict", data := .dict #[] }) scope.names } : Shared) = s4 at I4 ⊢
  have st4 : s4.heap.IsListIter it a 0 := st3.at fun o e => by
    rw [← hs4]
    exact pushCells_keeps _ _ _ _ (Heap.get?_push_of_some _ e)
  -- the handled exception in the block
  have hs3g : s3.heap.get? x1 = some o1 := hc.stay I3
  have nx : x1 ≠ it := fun z => by
    have e := hc.stay I1
    rw [z] at e
    exact absurd (Heap.lt_size e) (by rw [hit]; exact Nat.lt_irrefl _)
  have hb : HotB (X.blk s3 H3 scope ce [it]) x1 o1 := ⟨hc.hot, hs3g, hc.no I3, fun m => by
    rcases List.mem_cons.mp (I3.stkSub x1 m) with z | z
    · exact absurd (Heap.lt_size hc.get) (by rw [z]; exact Nat.not_lt_of_le I3.ok.above)
    · exact hc.nofs z, fun m => nx (List.mem_singleton.mp m)⟩
  have stat : ∀ {σ' : L2.St} {H' : Hp} {s' : Shared}, Inv (X.blk s3 H3 scope ce [it]) [] σ' H' s' → H' it = none → ∀ b ∈ [it], FpOk (X.blk s3 H3 scope ce [it]) [] H' b := fun {σ' H' s'} I' hn b hb => by
    have e := List.mem_singleton.mp hb
    subst e
    exact ⟨hn, (I'.ok.exf b hb).1, I'.ok.exfs b hb, .inl hb, fun x c e => (I'.ok.exf b hb).2 x c e, fun p hp => absurd (show p ∈ ([] : List (Addr × Obj)) ++ [] from hp) (by simp)⟩
  have acc0 : (bs.take 0).filter id = [] := rfl
  have hlk : (wipe σ (own.map (·.2)))[i]? = some none := by
    have hl : i < (wipe σ (own.map (·.2))).length := by rw [wipe_length, I.len]; exact hil
    cases e : (wipe σ (own.map (·.2)))[i]? with
    | none => rw [List.getElem?_eq_none_iff] at e; omega
    | some z =>
      cases z with
      | none => rfl
      | some v => exact absurd hx (wipe_some e).2
  have loop : codeAny (model X.prog X.w) X.A (.compLoop (.ListComp (.Name x p1) [⟨.Name x p2, iter, [.Name x p4], 0⟩] scope pos) 0 (.ref it) (.ref D) ce) (compPost (model X.prog X.w) X.A X.xe none (fun v s' => EP X pins σ Q v s') (.ref D) s3.heap.objs.size) s4 := by
    refine compLoop_any (fun n s' => ∃ k, Inv (X.blk s3 H3 scope ce [it]) [] (wipe σ (own.map (·.2))) (upd H3 D (.lst (((bs.take k).filter id).map V.bl))) s' ∧ s'.heap.IsListIter it a k ∧ k ≤ bs.length ∧ n = bs.length - k) ?_ bs.length ⟨0, ?_, st4, Nat.zero_le _, rfl⟩
    · rintro n s5 ⟨k, I5, st5, hk, rfl⟩
      have nH3 : H3 it = none := (f3 it List.mem_cons_self).1.1
      have n5 : upd H3 D (.lst (((bs.take k).filter id).map V.bl)) it = none := by rw [upd_ne nDi]; exact nH3
      have hq5 : SqL X.K (upd H3 D (.lst (((bs.take k).filter id).map V.bl))) a (bs.map V.bl) := by
        rw [← hH3, upd_upd]
        exact (sameUpd hDn).seq hq
      obtain ⟨its5, rv5, p5, hz5⟩ := I5.list hq5
      have hl5 : its5.length = bs.length := by rw [← rv5.length, List.length_map]
      obtain ⟨f0, f1, f2, f3', f4, f5⟩ := stat I5 n5 it List.mem_cons_self
      by_cases hend : k = bs.length
      · -- no item is left
        subst hend
        refine next_list_end_hot (hb.at I5) nx st5 p5.isList (by simp [hl5]) fun h' kk => ?_
        have I6 : Inv (X.blk s3 H3 scope ce [it]) [] (wipe σ (own.map (·.2))) (upd H3 D (.lst (((bs.take bs.length).filter id).map V.bl))) { s5 with heap := h' } := I5.turned (t' := s5.toks) (fun b o nb e => kk b o nb e) f0 f1 f3' f4 f5
        have I7 : Inv X pins σ (upd H3 D (.lst (((bs.take bs.length).filter id).map V.bl))) { s5 with heap := h' } := I3.call' (ch := [it]) I6.os I6.base I6.hok I6.bare fun b hb => ⟨(f3 b hb).1.2.2.2.1, (f3 b hb).1.2.1, (f3 b hb).1.2.2.2.2.1, (f3 b hb).1.2.2.2.2.2⟩
        have nC : (upd H3 D (.lst (((bs.take bs.length).filter id).map V.bl))) s3.heap.objs.size = none := by
          have z := I6.free
          rw [show (X.blk s3 H3 scope ce [it]).env.locals = s3.heap.objs.size from cL] at z
          exact z
        obtain ⟨m, hn, _⟩ := I6.loc
        have hn : h'.Ns ce.locals m := hn
        rw [cL] at hn
        obtain ⟨g0, g1, g2, g3, g4, g5⟩ := I3.fpOk (Nat.le_refl _) nC
        refine ⟨m, hn, fun h'' sb => ⟨.ref D, _, I7.turned (t' := s5.toks) (fun b o hb e => (sb.2 b hb).trans e) g0 g1 g3 g4 g5, rfl, ?_⟩⟩
        have z := q D hDn
        rw [List.take_length, ← hH3, upd_upd]
        exact z
      · have hlt : k < bs.length := by omega
        have hx5 : (bs.map V.bl)[k]? = some (.bl bs[k]) := by rw [List.getElem?_map, List.getElem?_eq_getElem hlt]; rfl
        obtain ⟨u, hu, ru⟩ := rv5.get hx5
        cases ru
        refine wpAny_pyNext_list_item st5 p5.isList (x := .bool bs[k]) (by simpa using hu) fun h' st' sb => ?_
        have I6 : Inv (X.blk s3 H3 scope ce [it]) [] (wipe σ (own.map (·.2))) (upd H3 D (.lst (((bs.take k).filter id).map V.bl))) { s5 with heap := h' } := I5.turned (t' := s5.toks) (fun b o hb e => (sb.2 b hb).trans e) f0 f1 f3' f4 f5
        obtain ⟨o, e, c, d⟩ := id st'
        refine go_of (s := { s5 with heap := h' }) e c d (by decide) ?_
        have objs : ∀ b ∈ [it], ∃ o, h'.get? b = some o ∧ ∀ v, o.data ≠ .cell v := fun b hb => by
          rw [List.mem_singleton.mp hb]
          exact ⟨o, e, fun v z => by rw [d] at z; cases z⟩
        have I6' := I6.pinned (stat I6 n5) objs
        have pin2 : ∀ {σ' : L2.St} {H' : Hp} {s' : Shared}, Inv (X.blk s3 H3 scope ce [it]) ([] ++ pinsAt [it] h') σ' H' s' → s'.heap.IsListIter it a (k + 1) := fun {σ' H' s'} I' => st'.at fun o e => (I'.pin (it, o) (List.mem_append_right _ (List.mem_append_right _ (mem_pinsAt List.mem_cons_self e)))).1
        refine thnF (pg.run _ _ _ _ (.bl bs[k]) (.bool bs[k]) (fun σ2 H2 => σ2 = (wipe σ (own.map (·.2))).set i (some (.bl bs[k])) ∧ H2 = upd H3 D (.lst (((bs.take k).filter id).map V.bl))) I6' rfl ⟨rfl, rfl⟩) fun _ s8 ⟨σ8, H8, I8, e8, e8'⟩ => ?_
        subst e8 e8'
        have hli : i < (wipe σ (own.map (·.2))).length := by rw [wipe_length, I.len]; exact hil
        have hsl : ((wipe σ (own.map (·.2))).set i (some (.bl bs[k])))[i]? = some (some (.bl bs[k])) := List.getElem?_set_self hli
        refine thnF (pt.run _ s8 _ _ (fun b H9 => b = bs[k] ∧ H9 = upd H3 D (.lst (((bs.take k).filter id).map V.bl))) I8 ⟨_, hsl, _, rfl, rfl, rfl⟩) fun b s9 ⟨H9, I9, e9, e9'⟩ => ?_
        subst e9 e9'
        -- the turn's end
        have tk : (bs.take (k + 1)).filter id = (bs.take k).filter id ++ (if bs[k] = true then [bs[k]] else []) := by
          rw [List.take_succ, List.getElem?_eq_getElem hlt, List.filter_append]
          cases bs[k] <;> rfl
        have fin : ∀ {s' : Shared}, Inv (X.blk s3 H3 scope ce [it]) ([] ++ pinsAt [it] h') ((wipe σ (own.map (·.2))).set i (some (.bl bs[k]))) (upd H3 D (.lst (((bs.take (k + 1)).filter id).map V.bl))) s' →
            ∃ m, m < bs.length - k ∧ ∃ k, Inv (X.blk s3 H3 scope ce [it]) [] (wipe σ (own.map (·.2))) (upd H3 D (.lst (((bs.take k).filter id).map V.bl))) s' ∧ s'.heap.IsListIter it a k ∧ k ≤ bs.length ∧ m = bs.length - k := fun {s'} I' => by
          refine ⟨bs.length - (k + 1), by omega, k + 1, (I'.unpinned (pins := [])).weak (by rw [List.length_set]) (fun j v e => ?_), pin2 I', hlt, rfl⟩
          by_cases ji : i = j
          · subst ji
            rw [hlk] at e
            cases e
          · rw [List.getElem?_set_ne ji]
            exact e
        cases hbk : bs[k] with
        | false =>
          rw [hbk] at I9
          simp only [Bool.false_eq_true, if_false]
          refine fin ?_
          rw [tk, hbk]
          simpa using I9
        | true =>
          simp only [if_true]
          refine thnF (pe.run _ s9 _ _ (fun y H10 => y = .bl true ∧ H10 = upd H3 D (.lst (((bs.take k).filter id).map V.bl))) I9 ⟨_, by rw [hsl, hbk], rfl, rfl⟩) fun z s10 ⟨yv, H10, I10, r10, e10, e10'⟩ => ?_
          subst e10 e10'
          refine app_ok (X := X.blk s3 H3 scope ce [it]) I10 upd_same ?_ r10 fun s11 I11 => fin ?_
          · have l1 := List.length_filter_le id (bs.take k)
            rw [List.length_take] at l1
            have l2 : (bs.map V.bl).length = bs.length := List.length_map _
            rw [List.length_map]
            have l3 : min k bs.length = k := Nat.min_eq_left (by omega)
            rw [l3] at l1
            omega
          · rw [tk, hbk]
            rw [upd_upd, hbk] at I11
            simpa using I11
    · show Inv _ _ _ (upd H3 D (.lst [])) s4
      rw [show upd H3 D (.lst []) = H3 from by rw [← hH3, upd_upd]]
      exact I4
  exact codeAny_compStart_list loop (wpAny_pyIter_listiter st4 loop)
end
/-! ### a def that the suite calls, handed the exception -/
structure FnW (P : Program) (w : World) (K : PySem.W.Frag) (mg : Str → Option Value) (base : Heap) (CX : CXT) (k : Nat) (f : Addr) (fd : FuncData) (ps : List Str) (Z : Obj → Prop) (sp : Addr → Sp) : Prop where
  len : ∀ a vs H Q E, sp a vs H Q E → vs.length = ps.length
  run : ∀ (A : Around) (outer : List Env) (s : Shared) (H : Hp) (args : Args) (us : List Value) (vs : List V) (Q : VK) (E : XK) (p : Addr × Obj), RoomH k A → Hot1 A p → PinOk outer H s p → Z p.2 → Env0 P w K mg base A outer s H → BindsTo s fd args (ps.zip us) → Vals vs us → sp p.1 vs H Q E →
    codeAny (model P w) A (.call (.ref f) args) (CR CX outer P w H s Q E) s
section
variable {P : Program} {w : World} {K : PySem.W.Frag} {mg : Str → Option Value} {base : Heap} {CX : CXT} {Z : Obj → Prop}
theorem Fun.okW {x qual : Str} {st : Stmt} {f : Addr} {fd : FuncData} {N ps : List Str} {k : Nat} {sp : Addr → Sp} (F : Fun K x qual st f fd) (S : FnScope N ps (defScope st)) (len : ∀ a vs H Q E, sp a vs H Q E → vs.length = ps.length)
    (hbody : ∀ (cdv : Value) (A : Around) (outer : List Env) (s : Shared) (H : Hp) (vs : List V) (Q : VK) (E : XK) (p : Addr × Obj), Hot1 A p → Z p.2 → HotB (cxH CX P w K mg base N qual (defScope st) f cdv A outer s H E p) p.1 p.2 → RoomH k (A.deeper (envOfC qual (defScope st) s.heap.objs.size f cdv)) → sp p.1 vs H Q E →
      ∃ t, PSs (cxH CX P w K mg base N qual (defScope st) f cdv A outer s H E p) (defBody st) t ∧ t { nx := fun _ H' => Q .non H', rt := Q } (L2.start N vs) H) : FnW P w K mg base CX (k + 1) f fd ps Z sp := by
  obtain ⟨oc, od, kV, doc, pm, an, cdv, ct, osl, rfl, lk, hcd⟩ := F.ex
  refine ⟨len, fun A outer s H args us vs Q E p hr hot hpin hz e0 hb r hsp => ?_⟩
  have hl := len _ _ _ _ _ hsp
  have KX : K.In s.heap := e0.mod.kin.keeps fun b o e => (e0.bs b o e).1
  have lim : s.heap.NoLimit := e0.mod.nolimit.keeps fun b o e => (e0.bs b o e).1
  have hkind : ∀ y ∈ ps.zip us, (defScope st).names.lookup y.1 = some .local ∨ ((defScope st).names.lookup y.1 = some .cell ∧ ((cellsFrom (s.heap.objs.size + 1) (defScope st).names []).lookup y.1).isSome = true) := fun ⟨n, v⟩ hy => by
    rcases S.par n (List.of_mem_zip hy).1 with q | q
    · exact .inl q
    · exact .inr ⟨q, PySem.W.cellsFrom_some _ _ _ (.inl q)⟩
  refine codeAny_call_function hr.depth (KX _ _ lk) rfl S.co S.gen rfl (PySem.W.codeRec_of KX hcd) (hb _ _ _ _ ?_)
  refine wpAny_newFunctionEnv_cells S.kind hkind fun env he s1 x => ?_
  subst he
  refine ⟨lim.keeps x.toInCall.keep, codeAny_func ?_⟩
  have hB : HotB (cxH CX P w K mg base N qual (defScope st) f cdv A outer s H E p) p.1 p.2 := ⟨hot, hpin.get, hpin.free, hpin.nofs, fun z => absurd (show p.1 ∈ ([] : List Addr) from z) (by simp)⟩
  obtain ⟨t, ht, hq⟩ := hbody cdv A outer s H vs Q E p hot hz hB (hr.deeper _) hsp
  have I : Inv (cxH CX P w K mg base N qual (defScope st) f cdv A outer s H E p) [] (L2.start N vs) H s1 := inv_startH S hpin e0 hl r x
  refine wpAny_mono (ht.run [] s1 (L2.start N vs) H _ I hq) (fun fl s' hs => ?_) fun e s' hs => hs
  have fin : ∀ {σ' : L2.St} {H' : Hp} {v : V} {u : Value}, Inv (cxH CX P w K mg base N qual (defScope st) f cdv A outer s H E p) [] σ' H' s' → RelV v u → Q v H' → CE outer P w H s Q u s' :=
    fun {σ' H' v u} J rv q => ⟨v, H', J.os, J.bare, J.base, J.hok, rv, q⟩
  cases fl with
  | ret u =>
    obtain ⟨v, σ', H', J, rv, q⟩ := hs
    exact fin J rv q
  | next =>
    obtain ⟨σ', H', J, q⟩ := hs
    exact fin (v := V.non) (u := Value.none) J rfl q
  | brk =>
    obtain ⟨_, _, _, q⟩ := hs
    exact False.elim q
  | cont =>
    obtain ⟨_, _, _, q⟩ := hs
    exact False.elim q
end
section
variable {X : Cx} {CX : CXT} {k : Nat} {f : Addr} {fd : FuncData} {ps : List Str} {Z : Obj → Prop} {sp : Addr → Sp} {E : L2.St → XK} {x : Str} {q pos : Pos} {e : Expr} {es : List Expr} {t : TA}
/-- its call; (a, oe) is what the suite has pinned -/
theorem pe_callW {a : Addr} {oe : Obj} (F : FnW X.prog X.w X.K X.mg X.base CX k f fd ps Z sp) (hr : RoomH k X.A) (hot : Hot1 X.A (a, oe)) (hp : (a, oe) ∈ X.pn) (hz : Z oe) (hg : Gl X x) (hm : X.mg x = some (.ref f)) (hk : PySem.W.keepIn X.K (.ref f) = true) (hb : Binds X.K fd ps []) (hx : ∀ σ, PassesAt CX X σ (E σ))
    (ha : PA X (e :: es) t) (hdb : (x == ("__debug__" : Str)) = false := by decide) (he : starEach (e :: es) X.env = (false, eval e X.env) :: starEach es X.env := by rfl) (hpl : (backTo pos (starEach es X.env)).any (·.1) = false := by rfl) :
    PE X (.Call (.Name x q) (e :: es) [] pos) (tCallS (sp a) E t) := by
  refine ⟨fun pins s σ H Q I h => ?_⟩
  refine wpAny_Call_Name_kw (ld_glob I hg hm ?_ hdb)
  refine PySem.W.callWith_K (h₀ := X.base) I.ok.mod.kin hk (thn (ha.run pos pins s σ H _ I h) fun us s1 ⟨vs, H1, I1, r, h⟩ => ⟨I1.kIn, ?_⟩) he hpl
  have hl : us.length = ps.length := by rw [← r.length]; exact F.len _ _ _ _ _ h
  have b := hb s1 us I1.kIn (by rw [List.append_nil]; exact hl)
  rw [List.append_nil] at b
  have P1 := I1.pin (a, oe) (List.mem_append_left _ hp)
  have hpin : PinOk X.stack H1 s1 (a, oe) := ⟨P1.1, P1.2.1, fun hm => (List.mem_cons.mp (I1.stkSub a hm)).elim P1.2.2.1 P1.2.2.2.1, P1.2.2.2.2⟩
  refine wpAny_call (codeAny_mono (F.run X.A X.stack s1 H1 ⟨us, []⟩ us vs Q (E σ) (a, oe) hr hot hpin hz I1.env0 b r h) fun r s' hq => ?_)
  cases r with
  | error e => exact hx σ pins H1 s1 e s' I1 hq
  | ok fl =>
    cases fl with
    | ret u => exact I1.after hq
    | next => exact False.elim hq
    | brk => exact False.elim hq
    | cont => exact False.elim hq
/-- isinstance(e, c), e the pinned exception, D its class -/
theorem call_isP {a D : Addr} {oe : Obj} (C : ExcC X.K D) (hp : (a, oe) ∈ X.pn) (hz : Zc (.ref D) none oe) (hf : ∃ vs, oe.data = .fields vs) : CallR X (.builtin "isinstance") (rIsE X.K D a) := by
  intro pins s σ H xs us Q I r h
  obtain ⟨c, cv, b, rfl, hcv, e, q⟩ := h
  obtain ⟨u1, u2, rfl, r1, r2⟩ := vals2 r
  cases r1
  have ec := hcv _ r2
  subst ec
  obtain ⟨hget, _⟩ := I.pin (a, oe) (List.mem_append_left _ hp)
  obtain ⟨vs, hv⟩ := hf
  have J : PySem.W.InstAt s.heap a oe D none := by
    obtain ⟨oc, od, oda, osl⟩ := oe
    obtain ⟨h1, h2⟩ := hz
    dsimp only at h1 h2 hv
    subst h1 h2 hv
    exact ⟨hget, rfl, rfl, trivial⟩
  exact PySem.W.kia_one (PySem.W.handS_kitx_exc C.hg C.hk C.hs C.hd C.ha C.hn C.ht C.hm) I.kIn J e (fun z => nomatch z) fun tk => ⟨.bl b, H, I.kept (t' := tk) fun _ _ z => z, rfl, q⟩
end
end GE

set_option Elab.async false
set_option linter.all false
set_option maxRecDepth 100000
set_option maxHeartbeats 4000000
/-! a method's call in a try's body: what it lets out is told with the slots; a suite's proof that knows the exception -/
namespace GE
open PySem PySem.Spec PyProof.Rows L2
section
variable {X : Cx} {CX : CXT} {k : Nat} {f C : Addr} {fd : FuncData} {ps : List Str} {sp : Sp} {E : L2.St → XK} {m : Str} {pos apos : Pos} {e o : Expr} {es : List Expr} {ta : TE} {t : TA}
def tMethA (C : Addr) (m : Str) (sp : Sp) (E : L2.St → XK) (ta : TE) (t : TA) : TE := fun σ H Q => ta σ H fun x H1 => ∃ a dx fs, x = .ref a ∧ H1 a = some (.ins C dx fs) ∧ fs.lookup m = none ∧ t σ H1 fun vs H2 => sp (x :: vs) H2 Q (E σ)
theorem pe_methA {pl : Sem Bool} (he : PE X o ta) (c : Cls X.K C) (hm : Meth X.K C m f) (F : FnOk X.prog X.w X.K X.mg X.base CX k f fd ps sp) (hr : Room k X.A) (hb : Binds X.K fd ps []) (hx : ∀ σ, PassesAt CX X σ (E σ)) (ha : PA X (e :: es) t)
    (hst : starEach (e :: es) X.env = (false, eval e X.env) :: starEach es X.env := by rfl) (hpl : (backTo pos (starEach es X.env)).any (·.1) = false := by rfl)
    (ht : eval (.Call (.Attribute o m apos) (e :: es) [] pos) X.env = (do
      let ov ← eval o X.env
      standAt apos.atName
      let (f, first) ← holding [ov] (getMethod ov m pl)
      callWith pos f first (backTo pos (starEach (e :: es) X.env)) (backToKw pos (keywordEach [] X.env))) := by rfl) :
    PE X (.Call (.Attribute o m apos) (e :: es) [] pos) (tMethA C m sp E ta t) := by
  refine ⟨fun pins s σ H Q I h => ?_⟩
  refine PySem.W.methodCall_KW (pl := pl) (thn (he.run pins s σ H _ I h) fun u s1 ⟨x, H1, I1, rx, a, dx, fs, ex, ea, l, q⟩ => ?_) ht
  subst ex
  obtain rfl : u = Value.ref a := rx
  refine getmeth_ok I1 ea c hm l ?_
  refine PySem.W.callWith_K (first := [.ref a]) (h₀ := X.base) I.ok.mod.kin hm.kp (thn (ha.run pos pins s1 σ H1 _ I1 q) fun us s2 ⟨vs, H2, I2, r, q2⟩ => ⟨I2.kIn, ?_⟩) hst hpl
  exact run_fnS (us := .ref a :: us) (vs := .ref a :: vs) F hr hb (hx σ) I2 (.cons rfl r) q2
/-- a block's proof that leans on p: its reading says p too -/
theorem pss_when {l : List Stmt} {p : Prop} {t : TS} (h : p → PSs X l t) : PSs X l (fun D σ H => p ∧ t D σ H) := ⟨fun pins s σ H D I q => (h q.1).run pins s σ H D I q.2⟩
end
end GE

set_option maxHeartbeats 1000000
/-! k15, the mathematics: joins (the newest first), heads, members -/
namespace K15
abbrev Jn := Nat × Nat
def hd : List Jn → Nat → Nat
  | [], x => x
  | (a, b) :: st, x => if hd st x = max (hd st a) (hd st b) then min (hd st a) (hd st b) else hd st x
def lo (st : List Jn) (j : Jn) : Nat := min (hd st j.1) (hd st j.2)
def hi (st : List Jn) (j : Jn) : Nat := max (hd st j.1) (hd st j.2)
def mem : List Jn → Nat → List Nat
  | [], k => [k]
  | (a, b) :: st, k => if hd st a = hd st b then mem st k else if k = min (hd st a) (hd st b) then mem st k ++ mem st (max (hd st a) (hd st b)) else mem st k
def mvd (st : List Jn) (j : Jn) : List Nat := if hd st j.1 = hd st j.2 then [] else mem st (hi st j)
abbrev Row := Nat × Nat × List Nat
def rows : List Jn → List Row
  | [] => []
  | j :: st => (j.1, j.2, mvd st j) :: rows st
def Ok (n : Nat) (st : List Jn) : Prop := ∀ j ∈ st, j.1 < n ∧ j.2 < n
theorem Ok.tail {n : Nat} {j : Jn} {st : List Jn} (h : Ok n (j :: st)) : Ok n st := fun k hk => h k (List.mem_cons_of_mem _ hk)
theorem Ok.head {n : Nat} {j : Jn} {st : List Jn} (h : Ok n (j :: st)) : j.1 < n ∧ j.2 < n := h j List.mem_cons_self
theorem Ok.mono {n m : Nat} {st : List Jn} (h : Ok n st) (l : n ≤ m) : Ok m st := fun j hj => ⟨Nat.lt_of_lt_of_le (h j hj).1 l, Nat.lt_of_lt_of_le (h j hj).2 l⟩
theorem hd_cons (j : Jn) (st : List Jn) (x : Nat) : hd (j :: st) x = if hd st x = hi st j then lo st j else hd st x := by cases j; rfl
theorem mem_cons (j : Jn) (st : List Jn) (k : Nat) : mem (j :: st) k = if hd st j.1 = hd st j.2 then mem st k else if k = lo st j then mem st k ++ mem st (hi st j) else mem st k := by cases j; rfl
theorem hd_le : ∀ (st : List Jn) (x : Nat), hd st x ≤ x
  | [], x => Nat.le_refl x
  | j :: st, x => by
    rw [hd_cons]
    have h := hd_le st x
    split
    · rename_i e
      have : lo st j ≤ hi st j := by unfold lo hi; omega
      omega
    · exact h
theorem lohi (st : List Jn) (j : Jn) : (lo st j = hd st j.1 ∧ hi st j = hd st j.2) ∨ (lo st j = hd st j.2 ∧ hi st j = hd st j.1) := by unfold lo hi; omega
theorem lo_le_hi (st : List Jn) (j : Jn) : lo st j ≤ hi st j := by unfold lo hi; omega
theorem lo_eq_hi (st : List Jn) (j : Jn) : lo st j = hi st j ↔ hd st j.1 = hd st j.2 := by unfold lo hi; omega
theorem hd_hd : ∀ (st : List Jn) (x : Nat), hd st (hd st x) = hd st x
  | [], _ => rfl
  | j :: st, x => by
    have h := hd_hd st x
    have h1 := hd_hd st j.1
    have h2 := hd_hd st j.2
    have e0 : hd st (lo st j) = lo st j := by rcases lohi st j with ⟨e, _⟩ | ⟨e, _⟩ <;> rw [e] <;> assumption
    rw [hd_cons j st x]
    by_cases c : hd st x = hi st j
    · rw [if_pos c, hd_cons, e0]
      by_cases d : lo st j = hi st j
      · rw [if_pos d]
      · rw [if_neg d]
    · rw [if_neg c, hd_cons, h, if_neg c]
theorem hd_lo (st : List Jn) (j : Jn) : hd st (lo st j) = lo st j := by rcases lohi st j with ⟨e, _⟩ | ⟨e, _⟩ <;> rw [e] <;> exact hd_hd st _
theorem hd_hi (st : List Jn) (j : Jn) : hd st (hi st j) = hi st j := by rcases lohi st j with ⟨_, e⟩ | ⟨_, e⟩ <;> rw [e] <;> exact hd_hd st _
theorem hd_lt {n x : Nat} (st : List Jn) (h : x < n) : hd st x < n := Nat.lt_of_le_of_lt (hd_le st x) h
/-- a head afterwards was one before, and is not the one that went -/
theorem head_before {j : Jn} {st : List Jn} {k : Nat} (h : hd (j :: st) k = k) : hd st k = k ∧ (hd st j.1 ≠ hd st j.2 → k ≠ hi st j) := by
  rw [hd_cons] at h
  have e := lo_le_hi st j
  have el := hd_lo st j
  by_cases c : hd st k = hi st j
  · rw [if_pos c] at h
    have := hd_le st k
    rw [← h] at c this
    rw [el] at c
    refine ⟨by rw [← h]; exact el, fun ne => ?_⟩
    exact absurd ((lo_eq_hi st j).mp c) ne
  · rw [if_neg c] at h
    exact ⟨h, fun _ z => c (by rw [z]; exact hd_hi st j)⟩
theorem head_after {j : Jn} {st : List Jn} {k : Nat} (h : hd st k = k) (n : hd st j.1 ≠ hd st j.2 → k ≠ hi st j) : hd (j :: st) k = k := by
  rw [hd_cons, h]
  by_cases c : k = hi st j
  · rw [if_pos c]
    by_cases d : hd st j.1 = hd st j.2
    · rw [c]
      exact (lo_eq_hi st j).mpr d
    · exact absurd c (n d)
  · rw [if_neg c]
theorem mem_iff : ∀ (st : List Jn) {k x : Nat}, hd st k = k → (x ∈ mem st k ↔ hd st x = k)
  | [], k, x, _ => by simp [mem, hd]
  | j :: st, k, x, h => by
    obtain ⟨h0, hn⟩ := head_before h
    rw [mem_cons, hd_cons]
    by_cases d : hd st j.1 = hd st j.2
    · rw [if_pos d, mem_iff st h0]
      have e := (lo_eq_hi st j).mpr d
      by_cases c : hd st x = hi st j
      · rw [if_pos c, e, c]
      · rw [if_neg c]
    · rw [if_neg d]
      have ne : lo st j ≠ hi st j := fun e => d ((lo_eq_hi st j).mp e)
      by_cases kl : k = lo st j
      · rw [if_pos kl, List.mem_append, mem_iff st h0, mem_iff st (hd_hi st j)]
        by_cases c : hd st x = hi st j
        · rw [if_pos c]
          exact ⟨fun _ => kl.symm, fun _ => .inr c⟩
        · rw [if_neg c]
          exact ⟨fun q => q.elim id fun z => absurd z c, .inl⟩
      · rw [if_neg kl, mem_iff st h0]
        by_cases c : hd st x = hi st j
        · rw [if_pos c, c]
          exact ⟨fun e => absurd e.symm (hn d), fun e => absurd e.symm kl⟩
        · rw [if_neg c]
theorem mem_nodup : ∀ (st : List Jn) {k : Nat}, hd st k = k → (mem st k).Nodup
  | [], k, _ => by simp [mem]
  | j :: st, k, h => by
    obtain ⟨h0, hn⟩ := head_before h
    rw [mem_cons]
    by_cases d : hd st j.1 = hd st j.2
    · rw [if_pos d]
      exact mem_nodup st h0
    · rw [if_neg d]
      by_cases kl : k = lo st j
      · rw [if_pos kl]
        refine List.nodup_append.mpr ⟨mem_nodup st h0, mem_nodup st (hd_hi st j), fun a ha b hb e => ?_⟩
        subst e
        rw [mem_iff st h0] at ha
        rw [mem_iff st (hd_hi st j)] at hb
        exact hn d (by rw [← ha, hb])
      · rw [if_neg kl]
        exact mem_nodup st h0
theorem mem_self (st : List Jn) {k : Nat} (h : hd st k = k) : k ∈ mem st k := (mem_iff st h).mpr h
/-- a number that no join names stands alone -/
theorem hd_out : ∀ {st : List Jn} {m x : Nat}, Ok m st → m ≤ x → hd st x = x
  | [], _, _, _, _ => rfl
  | j :: st, m, x, h, l => by
    rw [hd_cons, hd_out h.tail l]
    have h1 := hd_lt st h.head.1
    have h2 := hd_lt st h.head.2
    have : hi st j < m := by unfold hi; omega
    rw [if_neg (by omega)]
theorem mem_out : ∀ {st : List Jn} {m x : Nat}, Ok m st → m ≤ x → mem st x = [x]
  | [], _, _, _, _ => rfl
  | j :: st, m, x, h, l => by
    rw [mem_cons, mem_out h.tail l]
    have h1 := hd_lt st h.head.1
    have h2 := hd_lt st h.head.2
    have : lo st j < m := by unfold lo; omega
    rw [if_neg (show ¬ x = lo st j by omega)]
    split <;> rfl
theorem mem_lt {st : List Jn} {m k x : Nat} (h : Ok m st) (hk : hd st k = k) (lk : k < m) (hx : x ∈ mem st k) : x < m := by
  rcases Nat.lt_or_ge x m with l | l
  · exact l
  · rw [mem_iff st hk, hd_out h l] at hx
    omega
theorem hd_same : ∀ {st : List Jn} {j : Jn}, j ∈ st → hd st j.1 = hd st j.2
  | i :: st, j, h => by
    rcases List.mem_cons.mp h with e | h
    · subst e
      rw [hd_cons, hd_cons]
      rcases lohi st j with ⟨e1, e2⟩ | ⟨e1, e2⟩
      · rw [if_pos e2.symm, e2]
        split <;> omega
      · rw [if_pos e2.symm, e2]
        split <;> omega
    · rw [hd_cons, hd_cons, hd_same h]
/-- what is closed under the joins that held takes whole classes -/
theorem conn {S : Nat → Prop} : ∀ {st : List Jn}, (∀ r ∈ rows st, r.2.2 ≠ [] → (S r.1 ↔ S r.2.1)) → ∀ {x y : Nat}, hd st x = hd st y → (S x ↔ S y)
  | [], _, x, y, h => by rw [show x = y from h]
  | j :: st, c, x, y, h => by
    have ih := @conn S st fun r hr => c r (List.mem_cons_of_mem _ hr)
    rw [hd_cons, hd_cons] at h
    by_cases d : hd st j.1 = hd st j.2
    · have e := (lo_eq_hi st j).mpr d
      refine ih ?_
      by_cases cx : hd st x = hi st j
      · rw [if_pos cx] at h
        by_cases cy : hd st y = hi st j
        · rw [cx, cy]
        · rw [if_neg cy] at h
          rw [cx, ← e, h]
      · rw [if_neg cx] at h
        by_cases cy : hd st y = hi st j
        · rw [if_pos cy] at h
          rw [cy, h, e]
        · rw [if_neg cy] at h
          exact h
    · have hne : mvd st j ≠ [] := by
        unfold mvd
        rw [if_neg d]
        exact List.ne_nil_of_mem (mem_self st (hd_hi st j))
      have jj : S j.1 ↔ S j.2 := c (j.1, j.2, mvd st j) List.mem_cons_self hne
      have up : ∀ {z : Nat}, hd st z = hi st j ∨ hd st z = lo st j → (S z ↔ S j.1) := fun {z} q => by
        rcases lohi st j with ⟨e1, e2⟩ | ⟨e1, e2⟩
        · rcases q with q | q
          · exact (ih (q.trans e2)).trans jj.symm
          · exact ih (q.trans e1)
        · rcases q with q | q
          · exact ih (q.trans e2)
          · exact (ih (q.trans e1)).trans jj.symm
      by_cases cx : hd st x = hi st j
      · rw [if_pos cx] at h
        by_cases cy : hd st y = hi st j
        · exact (up (.inl cx)).trans (up (.inl cy)).symm
        · rw [if_neg cy] at h
          exact (up (.inl cx)).trans (up (.inr h.symm)).symm
      · rw [if_neg cx] at h
        by_cases cy : hd st y = hi st j
        · rw [if_pos cy] at h
          exact (up (.inr h)).trans (up (.inl cy)).symm
        · rw [if_neg cy] at h
          exact ih h
theorem rows_jn : ∀ st : List Jn, (rows st).map (fun r => (r.1, r.2.1)) = st
  | [] => rfl
  | (a, b) :: st => congrArg ((a, b) :: ·) (rows_jn st)
theorem rows_len : ∀ st : List Jn, (rows st).length = st.length
  | [] => rfl
  | _ :: st => congrArg (· + 1) (rows_len st)
/-! ### lists -/
def heads (n : Nat) (st : List Jn) : List Nat := (List.range n).filter fun k => decide (hd st k = k)
def labels (n : Nat) (st : List Jn) : List Nat := (List.range n).map (hd st)
def cls (n : Nat) (st : List Jn) (k : Nat) : List Nat := (List.range n).filter fun x => decide (hd st x = k)
theorem sorted_eq : ∀ {l m : List Nat}, l.Pairwise (· < ·) → m.Pairwise (· < ·) → (∀ x, x ∈ l ↔ x ∈ m) → l = m
  | [], [], _, _, _ => rfl
  | [], b :: m, _, _, h => absurd ((h b).mpr List.mem_cons_self) (by simp)
  | a :: l, [], _, _, h => absurd ((h a).mp List.mem_cons_self) (by simp)
  | a :: l, b :: m, hl, hm, h => by
    rw [List.pairwise_cons] at hl hm
    have e : a = b := by
      rcases List.mem_cons.mp ((h a).mp List.mem_cons_self) with e | q
      · exact e
      · rcases List.mem_cons.mp ((h b).mpr List.mem_cons_self) with e | r
        · exact e.symm
        · have := hm.1 a q
          have := hl.1 b r
          omega
    subst e
    rw [sorted_eq hl.2 hm.2 fun x => ?_]
    have hx := h x
    rw [List.mem_cons, List.mem_cons] at hx
    constructor
    · intro q
      rcases hx.mp (.inr q) with e | r
      · subst e
        exact absurd (hl.1 x q) (Nat.lt_irrefl x)
      · exact r
    · intro q
      rcases hx.mpr (.inr q) with e | r
      · subst e
        exact absurd (hm.1 x q) (Nat.lt_irrefl x)
      · exact r
theorem range_sorted (n : Nat) : (List.range n).Pairwise (· < ·) := List.pairwise_lt_range
/-- a sorted list without repeats, of all that satisfies p below n -/
theorem filter_of {n : Nat} {p : Nat → Bool} {l : List Nat} (h1 : l.Pairwise (· ≤ ·)) (h2 : l.Nodup) (h : ∀ x, x ∈ l ↔ x < n ∧ p x = true) : l = (List.range n).filter p := by
  refine sorted_eq ?_ ((range_sorted n).filter _) fun x => ?_
  · exact (h1.and h2).imp fun {a b} ⟨u, v⟩ => Nat.lt_of_le_of_ne u v
  · rw [h, List.mem_filter, List.mem_range]
/-- the count of heads and of joins that held -/
theorem count : ∀ {st : List Jn} {n : Nat}, Ok n st → (heads n st).length + ((rows st).filter fun r => decide (r.2.2 ≠ [])).length = n
  | [], n, _ => by
    have e : heads n [] = List.range n := List.filter_eq_self.mpr fun k _ => decide_eq_true rfl
    rw [e, List.length_range]
    rfl
  | j :: st, n, h => by
    have ih := count h.tail
    by_cases d : hd st j.1 = hd st j.2
    · have e : heads n (j :: st) = heads n st := by
        unfold heads
        refine List.filter_congr fun k _ => ?_
        have := lo_eq_hi st j
        refine decide_eq_decide.mpr ⟨fun q => (head_before q).1, fun q => head_after q fun ne => absurd d ne⟩
      have e2 : mvd st j = [] := by unfold mvd; rw [if_pos d]
      rw [e]
      show _ + (List.filter _ ((j.1, j.2, mvd st j) :: rows st)).length = n
      rw [List.filter_cons_of_neg (by simp [e2])]
      exact ih
    · have e2 : mvd st j ≠ [] := by
        unfold mvd
        rw [if_neg d]
        exact List.ne_nil_of_mem (mem_self st (hd_hi st j))
      have hlt : hi st j < n := by
        have h1 := hd_lt st h.head.1
        have h2 := hd_lt st h.head.2
        unfold hi
        omega
      have hin : hi st j ∈ heads n st := List.mem_filter.mpr ⟨List.mem_range.mpr hlt, decide_eq_true (hd_hi st j)⟩
      have nd : (heads n st).Nodup := List.nodup_range.sublist List.filter_sublist
      have e : heads n (j :: st) = (heads n st).filter fun k => decide (k ≠ hi st j) := by
        unfold heads
        rw [List.filter_filter]
        refine List.filter_congr fun k _ => ?_
        rw [← Bool.decide_and]
        exact decide_eq_decide.mpr ⟨fun q => ⟨(head_before q).2 d, (head_before q).1⟩, fun q => head_after q.2 fun _ => q.1⟩
      have e3 : ((heads n st).filter fun k => decide (k ≠ hi st j)).length + 1 = (heads n st).length := by
        have := List.length_erase_of_mem hin
        rw [nd.erase_eq_filter] at this
        have pos := List.length_pos_of_mem hin
        have e4 : (heads n st).filter (fun k => decide (k ≠ hi st j)) = (heads n st).filter (fun x => x != hi st j) := List.filter_congr fun k _ => by
          by_cases q : k = hi st j <;> simp [q]
        rw [e4]
        omega
      rw [e]
      show _ + (List.filter _ ((j.1, j.2, mvd st j) :: rows st)).length = n
      rw [List.filter_cons_of_pos (by simp [e2]), List.length_cons]
      omega
end K15

set_option maxHeartbeats 1000000
/-! k15, the mathematics: the search for a way -/
namespace K15
/-- who, at which place, forth -/
abbrev Edge := Nat × Nat × Bool
def EdgeOk (rs : List Row) (v : Nat) (e : Edge) : Prop := ∃ r, rs[e.2.1]? = some r ∧ r.2.2 ≠ [] ∧ ((e.2.2 = true ∧ v = r.1 ∧ e.1 = r.2.1) ∨ (e.2.2 = false ∧ v = r.2.1 ∧ e.1 = r.1))
structure Adj (rs : List Row) (i : Nat) (f : Nat → List Edge) : Prop where
  sound : ∀ v e, e ∈ f v → EdgeOk rs v e
  compl : ∀ (pl : Nat) (r : Row), pl < i → rs[pl]? = some r → r.2.2 ≠ [] → (∃ e ∈ f r.1, e.1 = r.2.1) ∧ ∃ e ∈ f r.2.1, e.1 = r.1
def addE (f : Nat → List Edge) (v : Nat) (e : Edge) : Nat → List Edge := fun x => if x = v then f v ++ [e] else f x
theorem addE_mem {f : Nat → List Edge} {v x : Nat} {e d : Edge} : d ∈ addE f v e x ↔ d ∈ f x ∨ (x = v ∧ d = e) := by
  unfold addE
  by_cases c : x = v
  · rw [if_pos c, List.mem_append, List.mem_singleton, c]
    simp
  · rw [if_neg c]
    simp [c]
theorem Adj.nil {rs : List Row} : Adj rs 0 fun _ => [] := ⟨fun _ _ h => (nomatch h), fun _ _ h => absurd h (Nat.not_lt_zero _)⟩
theorem Adj.skip {rs : List Row} {i : Nat} {f : Nat → List Edge} (a : Adj rs i f) {r : Row} (h : rs[i]? = some r) (e : r.2.2 = []) : Adj rs (i + 1) f :=
  ⟨a.sound, fun pl q l hq ne => by
    by_cases c : pl = i
    · rw [c, h] at hq
      cases hq
      exact absurd e ne
    · exact a.compl pl q (by omega) hq ne⟩
theorem Adj.step {rs : List Row} {i : Nat} {f : Nat → List Edge} (a : Adj rs i f) {r : Row} (h : rs[i]? = some r) (ne : r.2.2 ≠ []) : Adj rs (i + 1) (addE (addE f r.1 (r.2.1, i, true)) r.2.1 (r.1, i, false)) :=
  ⟨fun v e he => by
    rw [addE_mem, addE_mem] at he
    rcases he with (he | ⟨rfl, rfl⟩) | ⟨rfl, rfl⟩
    · exact a.sound v e he
    · exact ⟨r, h, ne, .inl ⟨rfl, rfl, rfl⟩⟩
    · exact ⟨r, h, ne, .inr ⟨rfl, rfl, rfl⟩⟩, fun pl q l hq nq => by
    by_cases c : pl = i
    · rw [c, h] at hq
      cases hq
      exact ⟨⟨(r.2.1, i, true), by rw [addE_mem, addE_mem]; exact .inl (.inr ⟨rfl, rfl⟩), rfl⟩, ⟨(r.1, i, false), by rw [addE_mem]; exact .inr ⟨rfl, rfl⟩, rfl⟩⟩
    · obtain ⟨⟨e1, h1, h2⟩, ⟨e2, h3, h4⟩⟩ := a.compl pl q (by omega) hq nq
      exact ⟨⟨e1, by rw [addE_mem, addE_mem]; exact .inl (.inl h1), h2⟩, ⟨e2, by rw [addE_mem, addE_mem]; exact .inl (.inl h3), h4⟩⟩⟩
/-- what was found: the newest first, each with who it came from -/
abbrev Tr := List (Nat × Option Edge)
def keys (t : Tr) : List Nat := t.map (·.1)
inductive Tree (rs : List Row) (one : Nat) : Tr → Prop
  | start : Tree rs one [(one, none)]
  | more {t : Tr} {x y pl : Nat} {b : Bool} (h : Tree rs one t) (hy : y ∈ keys t) (hx : x ∉ keys t) (e : EdgeOk rs y (x, pl, b)) : Tree rs one ((x, some (y, pl, b)) :: t)
theorem Tree.one {rs : List Row} {one : Nat} {t : Tr} (h : Tree rs one t) : one ∈ keys t := by
  induction h with
  | start => exact List.mem_cons_self
  | more _ _ _ _ ih => exact List.mem_cons_of_mem _ ih
theorem Tree.nd {rs : List Row} {one : Nat} {t : Tr} (h : Tree rs one t) : (keys t).Nodup := by
  induction h with
  | start => simp [keys]
  | more _ _ hx _ ih => exact List.nodup_cons.mpr ⟨hx, ih⟩
/-- all that was found lies below n -/
theorem Tree.lt {rs : List Row} {one n : Nat} {t : Tr} (h : Tree rs one t) (h1 : one < n) (hr : ∀ r ∈ rs, r.1 < n ∧ r.2.1 < n) : ∀ x ∈ keys t, x < n := by
  induction h with
  | start => intro x hx; rw [List.mem_singleton.mp hx]; exact h1
  | @more t x y pl b _ _ _ e ih =>
    intro z hz
    rcases List.mem_cons.mp hz with q | q
    · have q : z = x := q
      obtain ⟨r, e1, _, e3⟩ := e
      have hr := hr r (List.mem_of_getElem? e1)
      rcases e3 with ⟨_, _, e4⟩ | ⟨_, _, e4⟩
      · have e4 : x = r.2.1 := e4
        omega
      · have e4 : x = r.1 := e4
        omega
    · exact ih z q
/-- closed under the edges: takes the whole class -/
theorem closed {st : List Jn} {f : Nat → List Edge} {S : Nat → Prop} (a : Adj (rows st).reverse (rows st).length f) (c : ∀ x, S x → ∀ e ∈ f x, S e.1) {x y : Nat} (h : hd st x = hd st y) (hx : S x) : S y := by
  refine (conn (S := S) (fun r hr ne => ?_) h).mp hx
  obtain ⟨pl, e⟩ := List.getElem?_of_mem (List.mem_reverse.mpr hr)
  have l : pl < (rows st).length := by
    have := (List.getElem?_eq_some_iff.mp e).1
    rwa [List.length_reverse] at this
  obtain ⟨⟨e1, h1, h2⟩, ⟨e2, h3, h4⟩⟩ := a.compl pl r l e ne
  exact ⟨fun q => by rw [← h2]; exact c _ q e1 h1, fun q => by rw [← h4]; exact c _ q e2 h3⟩
/-- steps that lead from one to the other, by which numbers -/
inductive Suf (rs : List Row) (tgt : Nat) : Nat → List (Nat × Bool) → List Nat → Prop
  | here : Suf rs tgt tgt [] []
  | step {cur x pl : Nat} {b : Bool} {ss : List (Nat × Bool)} {ns : List Nat} (e : EdgeOk rs cur (x, pl, b)) (h : Suf rs tgt x ss ns) : Suf rs tgt cur ((pl, b) :: ss) (x :: ns)
/-- the way as it is walked again: nothing is seen twice -/
inductive WayOk (rs : List Row) (tgt : Nat) : Nat → List Nat → List (Nat × Bool) → Prop
  | here {seen : List Nat} : WayOk rs tgt tgt seen []
  | step {cur pl : Nat} {b : Bool} {ss : List (Nat × Bool)} {seen : List Nat} {r : Row} (h1 : rs[pl]? = some r) (h2 : r.2.2 ≠ []) (h3 : cur = if b then r.1 else r.2.1) (h4 : (if b then r.2.1 else r.1) ∉ seen) (h : WayOk rs tgt (if b then r.2.1 else r.1) (seen ++ [if b then r.2.1 else r.1]) ss) : WayOk rs tgt cur seen ((pl, b) :: ss)
theorem Suf.way {rs : List Row} {tgt cur : Nat} {ss : List (Nat × Bool)} {ns : List Nat} (h : Suf rs tgt cur ss ns) : ∀ {seen : List Nat}, ns.Nodup → (∀ x ∈ ns, x ∉ seen) → WayOk rs tgt cur seen ss := by
  induction h with
  | here => intro seen _ _; exact .here
  | @step cur x pl b ss ns e h ih =>
    intro seen nd dj
    obtain ⟨n1, n2⟩ := List.nodup_cons.mp nd
    obtain ⟨r, e1, e2, e3⟩ := e
    have go : WayOk rs tgt x (seen ++ [x]) ss := ih n2 fun y hy q => by
      rcases List.mem_append.mp q with q | q
      · exact dj y (List.mem_cons_of_mem _ hy) q
      · rw [List.mem_singleton.mp q] at hy
        exact n1 hy
    have hx := dj x List.mem_cons_self
    rcases e3 with ⟨rfl, a, c⟩ | ⟨rfl, a, c⟩
    · have a : cur = r.1 := a
      have c : x = r.2.1 := c
      subst c
      exact .step e1 e2 a hx go
    · have a : cur = r.2.1 := a
      have c : x = r.1 := c
      subst c
      exact .step e1 e2 a hx go
/-- going back from x through t: t1 is behind -/
structure BackAt (rs : List Row) (one tgt : Nat) (t : Tr) (cur : Nat) (ss : List (Nat × Bool)) (k : Nat) : Prop where
  ex : ∃ (t1 t2 : Tr) (v : Option Edge) (ns : List Nat), t = t1 ++ (cur, v) :: t2 ∧ t2.length = k ∧ Suf rs tgt cur ss ns ∧ ns.Nodup ∧ ∀ x ∈ ns, x ∈ keys t1
theorem Tree.tail {rs : List Row} {one : Nat} : ∀ (t1 : Tr) {t t2 : Tr} {p : Nat × Option Edge}, Tree rs one t → t = t1 ++ p :: t2 → Tree rs one (p :: t2)
  | [], t, _, _, h, e => by
    rw [show t = _ from e] at h
    exact h
  | q :: t1, t, t2, p, h, e => by
    cases h with
    | start =>
      have e := (List.cons.inj e).2
      cases t1 <;> cases e
    | more h _ _ _ => exact Tree.tail t1 h (List.cons.inj e).2
theorem BackAt.start {rs : List Row} {one tgt : Nat} {t : Tr} (h : tgt ∈ keys t) : ∃ k, k < t.length ∧ BackAt rs one tgt t tgt [] k := by
  obtain ⟨p, hp, e⟩ := List.mem_map.mp h
  obtain ⟨t1, t2, e2⟩ := List.append_of_mem hp
  refine ⟨t2.length, ?_, ⟨t1, t2, p.2, [], ?_, rfl, .here, List.nodup_nil, fun _ h => (nomatch h)⟩⟩
  · rw [e2, List.length_append, List.length_cons]
    omega
  · rw [e2, ← e]
/-- what stands with the one that is reached: None at the first one, or the step that led there -/
theorem BackAt.look {rs : List Row} {one tgt : Nat} {t : Tr} (T : Tree rs one t) {cur k : Nat} {ss : List (Nat × Bool)} (h : BackAt rs one tgt t cur ss k) :
    ((cur, none) ∈ t ∧ cur = one ∧ ∃ ns, Suf rs tgt cur ss ns ∧ ns.Nodup ∧ cur ∉ ns) ∨ ∃ y pl b k', (cur, some (y, pl, b)) ∈ t ∧ k' < k ∧ BackAt rs one tgt t y ((pl, b) :: ss) k' := by
  obtain ⟨t1, t2, v, ns, e, hk, hs, nd, hn⟩ := h.ex
  have T2 := T.tail t1 e
  have nk : (keys t).Nodup := T.nd
  have cn : cur ∉ ns := fun q => by
    have a := hn cur q
    rw [e] at nk
    unfold keys at nk
    rw [List.map_append, List.nodup_append] at nk
    exact nk.2.2 cur a cur List.mem_cons_self rfl
  have hin : (cur, v) ∈ t := by rw [e]; exact List.mem_append_right _ List.mem_cons_self
  cases T2 with
  | start => exact .inl ⟨hin, rfl, ns, hs, nd, cn⟩
  | @more _ _ y pl b T3 hy hx he =>
    refine .inr ⟨y, pl, b, ?_⟩
    obtain ⟨p, hp, ey⟩ := List.mem_map.mp hy
    obtain ⟨t3, t4, e4⟩ := List.append_of_mem hp
    refine ⟨t4.length, hin, ?_, ⟨t1 ++ (cur, some (y, pl, b)) :: t3, t4, p.2, cur :: ns, ?_, rfl, .step he hs, List.nodup_cons.mpr ⟨cn, nd⟩, fun x hx => ?_⟩⟩
    · rw [← hk, e4, List.length_append, List.length_cons]
      omega
    · rw [e, e4, ← ey, List.append_assoc]
      rfl
    · unfold keys
      rw [List.map_append, List.mem_append]
      rcases List.mem_cons.mp hx with q | q
      · rw [q]
        exact .inr List.mem_cons_self
      · exact .inl (hn x q)
/-- the search, between two: t0 when the round began, later what it found -/
structure Srch (rs : List Row) (one : Nat) (f : Nat → List Edge) (t : Tr) (edge later : List Nat) : Prop where
  tr : Tree rs one t
  sub : ∀ x ∈ later, x ∈ keys t
  sub2 : ∀ x ∈ edge, x ∈ keys t
  done : ∀ x ∈ keys t, x ∈ later ∨ x ∈ edge ∨ ∀ e ∈ f x, e.1 ∈ keys t
theorem keys_cons (p : Nat × Option Edge) (t : Tr) : keys (p :: t) = p.1 :: keys t := rfl
/-- a new one is found from here -/
theorem Srch.add {rs : List Row} {one : Nat} {f : Nat → List Edge} {t : Tr} {edge later : List Nat} (s : Srch rs one f t edge later) {x y pl : Nat} {b : Bool} (hy : y ∈ keys t) (hx : x ∉ keys t) (e : EdgeOk rs y (x, pl, b)) : Srch rs one f ((x, some (y, pl, b)) :: t) edge (later ++ [x]) :=
  ⟨.more s.tr hy hx e, fun z hz => by
    rcases List.mem_append.mp hz with q | q
    · exact List.mem_cons_of_mem _ (s.sub z q)
    · rw [List.mem_singleton.mp q]
      exact List.mem_cons_self, fun z hz => List.mem_cons_of_mem _ (s.sub2 z hz), fun z hz => by
    rcases List.mem_cons.mp hz with q | q
    · exact .inl (by rw [q]; simp)
    · rcases s.done z q with q | q | q
      · exact .inl (List.mem_append_left _ q)
      · exact .inr (.inl q)
      · exact .inr (.inr fun d hd => List.mem_cons_of_mem _ (q d hd))⟩
/-- all that stands beside the first of the edge was looked at -/
theorem Srch.next {rs : List Row} {one : Nat} {f : Nat → List Edge} {t : Tr} {a : Nat} {edge later : List Nat} (s : Srch rs one f t (a :: edge) later) (h : ∀ e ∈ f a, e.1 ∈ keys t) : Srch rs one f t edge later :=
  ⟨s.tr, s.sub, fun z hz => s.sub2 z (List.mem_cons_of_mem _ hz), fun z hz => by
    rcases s.done z hz with q | q | q
    · exact .inl q
    · rcases List.mem_cons.mp q with q | q
      · exact .inr (.inr (by rw [q]; exact h))
      · exact .inr (.inl q)
    · exact .inr (.inr q)⟩
/-- a round is over -/
theorem Srch.round {rs : List Row} {one : Nat} {f : Nat → List Edge} {t : Tr} {later : List Nat} (s : Srch rs one f t [] later) : Srch rs one f t later [] :=
  ⟨s.tr, fun _ h => (nomatch h), s.sub, fun z hz => by
    rcases s.done z hz with q | q | q
    · exact .inr (.inl q)
    · cases q
    · exact .inr (.inr q)⟩
theorem Srch.start {rs : List Row} {one : Nat} {f : Nat → List Edge} : Srch rs one f [(one, none)] [one] [] :=
  ⟨.start, fun _ h => (nomatch h), fun _ h => h, fun z hz => .inr (.inl hz)⟩
/-- where nothing was found in a round, the whole class was -/
theorem Srch.all {st : List Jn} {one : Nat} {f : Nat → List Edge} {t : Tr} (s : Srch (rows st).reverse one f t [] []) (a : Adj (rows st).reverse (rows st).length f) {x : Nat} (h : hd st one = hd st x) : x ∈ keys t :=
  closed a (S := fun z => z ∈ keys t) (fun z hz => by
    rcases s.done z hz with q | q | q
    · cases q
    · cases q
    · exact q) h s.tr.one
theorem Tree.len {rs : List Row} {one n : Nat} {t : Tr} (h : Tree rs one t) (h1 : one < n) (hr : ∀ r ∈ rs, r.1 < n ∧ r.2.1 < n) : t.length ≤ n := by
  have : ∀ {l m : List Nat}, l.Nodup → (∀ x ∈ l, x ∈ m) → l.length ≤ m.length := by
    intro l
    induction l with
    | nil => intro m _ _; exact Nat.zero_le _
    | cons a l ih =>
      intro m nd s
      obtain ⟨h1, h2⟩ := List.nodup_cons.mp nd
      have := ih (m := m.erase a) h2 fun x hx => (List.mem_erase_of_ne fun e => h1 (by rw [← e]; exact hx)).mpr (s x (List.mem_cons_of_mem _ hx))
      rw [List.length_erase_of_mem (s a List.mem_cons_self)] at this
      have := List.length_pos_of_mem (s a List.mem_cons_self)
      rw [List.length_cons]
      omega
  have := this (m := List.range n) h.nd fun x hx => List.mem_range.mpr (h.lt h1 hr x hx)
  rw [List.length_range] at this
  unfold keys at this
  rw [List.length_map] at this
  exact this
theorem rows_lt {n : Nat} : ∀ {st : List Jn}, Ok n st → ∀ r ∈ rows st, r.1 < n ∧ r.2.1 < n
  | j :: st, h, r, hr => by
    rcases List.mem_cons.mp hr with e | q
    · rw [e]
      exact h.head
    · exact rows_lt h.tail r q
end K15

set_option Elab.async false
set_option maxRecDepth 100000
set_option maxHeartbeats 4000000
namespace K15
open PySem L2
def top (i : Nat) : Stmt := PySem.Challenge.pw_equalsgrown_k15_whole_forests_of_joins.main.body.getD i (.Pass ⟨0, 0, 0, 0⟩)
abbrev s_is_number : Stmt := top 8
abbrev s_Forest___init__ : Stmt := inClass (top 10) 0
abbrev s_Forest_many : Stmt := inClass (top 10) 1
abbrev s_Forest_new : Stmt := inClass (top 10) 2
abbrev s_Forest_find : Stmt := inClass (top 10) 3
abbrev s_Forest_classes : Stmt := inClass (top 10) 4
abbrev s_Forest_members_of : Stmt := inClass (top 10) 5
abbrev s_Forest_join : Stmt := inClass (top 10) 6
abbrev s_Forest_back : Stmt := inClass (top 10) 7
abbrev s_Forest_beside : Stmt := inClass (top 10) 8
abbrev s_Forest_way : Stmt := inClass (top 10) 9
abbrev s_Forest_copy : Stmt := inClass (top 10) 10
abbrev sDraws : Stmt := top 12
abbrev sTake : Stmt := top 13
abbrev s__law_alike : Stmt := top 14
abbrev s__law_word : Stmt := top 15
abbrev s__law_told : Stmt := top 16
abbrev s__law_labels : Stmt := top 17
abbrev s__law_state : Stmt := top 18
abbrev s__law_way_right : Stmt := top 19
abbrev s__law_looked : Stmt := top 20
abbrev s_law : Stmt := top 21

structure Bi (mg : Str → Option Value) : Prop where
  abs : mg "abs" = none
  int : mg "int" = none
  range : mg "range" = none
  len : mg "len" = none
  list : mg "list" = none
  rev : mg "reversed" = none
  dict : mg "dict" = none
  isinstance : mg "isinstance" = none
  bool : mg "bool" = none
  str : mg "str" = none
  tuple : mg "tuple" = none
  sorted : mg "sorted" = none
  min : mg "min" = none
  max : mg "max" = none
  enumerate : mg "enumerate" = none
/-- the draws: a new list of ints -/
def spDraws (K : PySem.W.Frag) : Sp := fun vs H Q _ => ∃ (a : Addr) (ns : List Int), vs = [.ref a] ∧ SqL K H a (ns.map V.int) ∧ ns.length ≤ 63 ∧
  ∀ H' p (ms : List Int), Same H H' → H p = none → H' p = some (.lst (ms.map V.int)) → ms.length ≤ 10000 → Q (.ref p) H'
/-- a draw: the last int of the list goes, a number below the bound comes -/
def spTake : Sp := fun vs H Q _ => ∃ (d : Addr) (b : Int) (ms : List Int), vs = [.ref d, .int b] ∧ H d = some (.lst (ms.map V.int)) ∧ 0 < b ∧
  ∀ (z : Int) (ks : List Int), 0 ≤ z → z < b → ks.length ≤ ms.length → Q (.int z) (upd H d (.lst (ks.map V.int)))
section
variable {P : Program} {w : World} {K : PySem.W.Frag} {mg : Str → Option Value} {base : Heap}

theorem snoc_int (ms : List Int) (z : Int) : ms.map V.int ++ [V.int z] = (ms ++ [z]).map V.int := by simp
theorem same_new {H H1 : Hp} {d : Addr} {o : HO} (s : Same H H1) (h : H d = none) : Same H (upd H1 d o) := fun b u e => by
  rw [upd_ne (ne_of_none e h)]
  exact s b u e
theorem at_int {ns : List Int} {i : Nat} {y : V} (h : (ns.map V.int)[i]? = some y) : ∃ z, y = V.int z ∧ ns[i]? = some z := by
  rw [List.getElem?_map] at h
  cases e : ns[i]? with
  | none => rw [e] at h; cases h
  | some z => rw [e] at h; exact ⟨z, (Option.some.inj h).symm, rfl⟩

theorem scDraws : FnScope ["script", "draws", "cell", "number", "first", "k", "seed"] ["script"] (defScope sDraws) := ⟨rfl, rfl, rfl, by decide +kernel, rfl, by decide +kernel, by decide +kernel⟩
theorem ok_draws {f : Addr} {fd : FuncData} (F : Fun K "_law_draws" "_law_draws" sDraws f fd) (B : Bi mg) : FnOk P w K mg base CX0 1 f fd ["script"] (spDraws K) := by
  refine F.ok scDraws (fun vs H Q E h => ?_) (fun cdv A outer s H vs Q E hr h => ?_)
  · obtain ⟨a, ns, rfl, _⟩ := h
    rfl
  obtain ⟨a, ns, rfl, hS, hlen, k⟩ := h
  have nd := scDraws.nd
  refine ⟨_, pss_cons (ps_set (i := 1) nd rfl (.inl rfl) (pe_lst pa_nil))
    (pss_cons (ps_for PassesOwn.never rfl (pi_list (pv 0)) (pg_name (i := 2) nd rfl (.inl rfl))
      (pss_cons (ps_set (i := 3) nd rfl (.inl rfl) (pe_callB call_abs (by rfl) B.abs (by decide +kernel) (pa_cons (pv 2) pa_nil)))
      (Evl.pss_cut (ps_if (pt_cmpR op_lt (pv 3) (pe_op op_pow pe_int pe_int) (nomark _))
        (pss_cons (ps_set (i := 4) nd rfl (.inl rfl) (pe_op op_mod (pe_callTy call_int1 (by rfl) B.int (by decide +kernel) (pa_cons (pe_op op_add (pe_op op_mul (pv 3) pe_int) pe_int) pa_nil)) pe_int))
        (pss_cons (ps_expr (pe_bm PySem.F.plainAttrs_list PySem.F.slot_list_append PySem.F.type_list_append mt_append (pv 1) (pa_cons
          (pe_op op_mod (pe_callTy call_int1 (by rfl) B.int (by decide +kernel) (pa_cons (pe_op op_add (pe_op op_mul (pv 4) pe_int) (pv 3)) pa_nil)) pe_int) pa_nil)))
        (pss_cons (ps_expr (pe_bm PySem.F.plainAttrs_list PySem.F.slot_list_append PySem.F.type_list_append mt_append (pv 1) (pa_cons
          (pe_op op_mod (pe_callTy call_int1 (by rfl) B.int (by decide +kernel) (pa_cons (pe_op op_add (pv 4) (pe_op op_fdiv (pv 3) pe_int)) pa_nil)) pe_int) pa_nil)))
        (pss_one (ps_set (i := 3) nd rfl (.inl rfl) pe_int))))) pss_nil)
      (pss_one (ps_for PassesOwn.never rfl (pi_range1 rfl B.range (pa_cons pe_int pa_nil)) (pg_name (i := 5) nd rfl (.inl rfl))
        (pss_one (ps_if (pt_cmpR op_gt (pv 3) pe_int (nomark _))
          (pss_cons (ps_expr (pe_bm PySem.F.plainAttrs_list PySem.F.slot_list_append PySem.F.type_list_append mt_append (pv 1) (pa_cons
            (pe_op op_mod (pe_callTy call_int1 (by rfl) B.int (by decide +kernel) (pa_cons (pv 3) pa_nil)) pe_int) pa_nil)))
          (pss_one (ps_set (i := 3) nd rfl (.inl rfl) (pe_op op_fdiv (pv 3) pe_int)))) pss_nil)))))))
    (pss_cons (ps_set (i := 6) nd rfl (.inl rfl) pe_int)
    (Evl.pss_cut (ps_if (pt_cmpR op_gt (pe_callB call_len_seq (by rfl) B.len PySem.boot_len (pa_cons (pv 0) pa_nil)) pe_int (nomark _))
      (pss_one (ps_set (i := 6) nd rfl (.inl rfl) (pe_op op_add pe_int (pe_callB call_abs (by rfl) B.abs (by decide +kernel) (pa_cons (pe_ix ix_list (pv 0) pe_int (fun _ _ => rfl)) pa_nil))))) pss_nil)
    (pss_cons (ps_for PassesOwn.never rfl (pi_range1 rfl B.range (pa_cons pe_int pa_nil)) (pg_name (i := 5) nd rfl (.inl rfl))
      (pss_cons (ps_set (i := 6) nd rfl (.inl rfl) (pe_op op_mod (pe_callTy call_int1 (by rfl) B.int (by decide +kernel) (pa_cons (pe_op op_add (pe_op op_mul (pv 6) pe_int) pe_int) pa_nil)) pe_int))
      (pss_one (ps_expr (pe_bm PySem.F.plainAttrs_list PySem.F.slot_list_append PySem.F.type_list_append mt_append (pv 1) (pa_cons (pe_op op_fdiv (pv 6) pe_int) pa_nil))))))
    (pss_one (ps_ret (GE.pe_listRev rfl (by rfl) B.list (by rfl) B.rev (pv 1)))))))), ?_⟩
  -- draws = []
  refine ⟨Nat.zero_le _, fun d hd => ?_⟩
  have nad : ∀ {H1 : Hp}, Same H H1 → SqL K H1 a (ns.map V.int) := fun s => s.seq hS
  have room : ∀ {n : Nat}, n ≤ 10000 → n < sizeLine := fun h => Nat.lt_of_le_of_lt h (by decide)
  -- for cell in script
  refine ⟨_, rfl, a, rfl, ⟨_, nad (same_new (Same.refl H) hd)⟩, for_list (K := K) (a := a) (xs := ns.map V.int)
    (fun i σ H' => ∃ (v2 v3 v4 v5 : Option V) (ms : List Int), σ = [some (.ref a), some (.ref d), v2, v3, v4, v5, none] ∧ Same H H' ∧ H' d = some (.lst (ms.map V.int)) ∧ ms.length ≤ 70 * i)
    ⟨none, none, none, none, [], rfl, same_new (Same.refl H) hd, upd_same, Nat.zero_le _⟩ (fun i σ H' _ ⟨_, _, _, _, _, _, s1, _⟩ => nad s1) ?_ ?_⟩
  · rintro i y σ H' hi ⟨v2, v3, v4, v5, ms, rfl, s1, h1, l1⟩
    have hi63 : i < 63 := by
      have := (List.getElem?_eq_some_iff.mp hi).1
      rw [List.length_map] at this
      omega
    obtain ⟨z, rfl, hz⟩ := at_int hi
    refine ⟨_, rfl, _, rfl, ?_⟩
    -- behind the if
    refine ⟨fun σ' H1 => ∃ (n : Int) (u4 : Option V) (ms1 : List Int), σ' = [some (.ref a), some (.ref d), some (.int z), some (.int n), u4, v5, none] ∧ Same H H1 ∧ H1 d = some (.lst (ms1.map V.int)) ∧ ms1.length ≤ 70 * i + 2, ?_, ?_⟩
    · refine ⟨_, rfl, _, _, rfl, rfl, ⟨by decide, by decide, by decide⟩, _, _, rfl, rfl, _, rfl, ?_⟩
      refine ite2 (fun lt => ?_) (fun _ => ?_)
      · have lt := of_decide_eq_true lt
        have nn : (0 : Int) ≤ (if z < 0 then -z else z) := by split <;> omega
        have e18 : (10 : Int) ^ (18 : Int).toNat = 1000000000000000000 := by decide
        rw [e18] at lt
        generalize (if z < 0 then -z else z) = n at lt nn ⊢
        refine ⟨_, rfl, _, _, rfl, rfl, .inl ⟨by omega, by omega⟩, _, _, rfl, rfl, .inl ⟨_, rfl, ?_⟩⟩
        refine ⟨_, _, rfl, rfl, (by show (0 : Int) < 2147483647; decide), ?_⟩
        have m0 := Int.emod_nonneg (n * 48271 + 11) (b := 2147483647) (by decide)
        have m1 := Int.emod_lt_of_pos (n * 48271 + 11) (b := 2147483647) (by decide)
        generalize (n * 48271 + 11) % 2147483647 = fi at m0 m1 ⊢
        -- draws.append
        refine ⟨_, rfl, .inl ⟨rfl, _, SqL.of h1⟩, _, rfl, _, _, rfl, rfl, .inl ⟨by omega, by omega⟩, _, rfl, _, _, rfl, rfl, .inl ⟨_, rfl, ?_⟩⟩
        refine ⟨_, _, rfl, rfl, (by show (0 : Int) < 2147483629; decide), d, _, _, rfl, rfl, h1, room (by rw [List.length_map]; omega), ?_⟩
        rw [snoc_int]
        refine ⟨_, rfl, .inl ⟨rfl, _, SqL.of upd_same⟩, _, rfl, _, rfl, _, _, rfl, rfl, ⟨by decide, by decide⟩, _, _, rfl, rfl, .inl ⟨_, rfl, ?_⟩⟩
        refine ⟨_, _, rfl, rfl, (by show (0 : Int) < 1000003; decide), d, _, _, rfl, rfl, upd_same, room (by simp; omega), ?_⟩
        rw [snoc_int, upd_upd]
        exact ⟨_, _, _, rfl, same_new s1 hd, upd_same, by simp; omega⟩
      · exact ⟨_, _, _, rfl, s1, h1, by omega⟩
    · rintro σ' H1 ⟨n, u4, ms1, rfl, s2, h2, l2⟩
      refine ⟨60, rfl, by decide, by decide, for_range (n := 60) (fun j σ2 H2 => ∃ (n : Int) (u4 u5 : Option V) (ms2 : List Int), σ2 = [some (.ref a), some (.ref d), some (.int z), some (.int n), u4, u5, none] ∧ Same H H2 ∧ H2 d = some (.lst (ms2.map V.int)) ∧ ms2.length ≤ 70 * i + 2 + j)
        ⟨_, _, _, _, rfl, s2, h2, l2⟩ ?_ ?_⟩
      · rintro j σ2 H2 hj ⟨n, u4, u5, ms2, rfl, s3, h3, l3⟩
        refine ⟨_, rfl, _, _, rfl, rfl, _, rfl, ite2 (fun _ => ?_) (fun _ => ?_)⟩
        · refine ⟨_, rfl, .inl ⟨rfl, _, SqL.of h3⟩, _, rfl, .inl ⟨_, rfl, _, _, rfl, rfl, (by show (0 : Int) < 997; decide), d, _, _, rfl, rfl, h3, room (by rw [List.length_map]; omega), ?_⟩⟩
          rw [snoc_int]
          refine ⟨_, rfl, _, _, rfl, rfl, ⟨by decide, by decide⟩, ?_⟩
          exact ⟨_, _, _, _, rfl, same_new s3 hd, upd_same, by simp; omega⟩
        · exact ⟨_, _, _, _, rfl, s3, h3, by omega⟩
      · rintro σ2 H2 ⟨n, u4, u5, ms2, rfl, s3, h3, l3⟩
        exact ⟨_, _, _, _, _, rfl, s3, h3, by omega⟩
  · rintro σ H1 ⟨v2, v3, v4, v5, ms, rfl, s1, h1, l1⟩
    rw [List.length_map] at l1
    refine ⟨fun σ' H2 => ∃ n : Int, σ' = [some (.ref a), some (.ref d), v2, v3, v4, v5, some (.int n)] ∧ H2 = H1, ?_, ?_⟩
    · refine ⟨_, rfl, a, _, rfl, .inl (nad s1), _, _, rfl, rfl, _, rfl, ite2 (fun pos => ?_) (fun _ => ⟨_, rfl, rfl⟩)⟩
      have pos := of_decide_eq_true pos
      cases ns with
      | nil => simp at pos
      | cons n0 r =>
        refine ⟨_, rfl, a, _, _, _, rfl, rfl, nad s1, at_of (j := 0) rfl rfl, _, rfl, _, _, rfl, rfl, _, rfl, rfl⟩
    · rintro σ' H2 ⟨n, rfl, rfl⟩
      refine ⟨900, rfl, by decide, by decide, for_range (n := 900) (fun j σ2 H3 => ∃ (n : Int) (u5 : Option V) (ms2 : List Int), σ2 = [some (.ref a), some (.ref d), v2, v3, v4, u5, some (.int n)] ∧ Same H H3 ∧ H3 d = some (.lst (ms2.map V.int)) ∧ ms2.length ≤ 70 * 63 + j)
        ⟨_, _, _, rfl, s1, h1, by omega⟩ ?_ ?_⟩
      · rintro j σ2 H3 hj ⟨n, u5, ms2, rfl, s3, h3, l3⟩
        refine ⟨_, rfl, _, _, rfl, rfl, .inr ⟨by decide, by decide⟩, _, _, rfl, rfl, .inl ⟨_, rfl, ?_⟩⟩
        refine ⟨_, _, rfl, rfl, (by show (0 : Int) < 2147483647; decide), ?_⟩
        refine ⟨_, rfl, .inl ⟨rfl, _, SqL.of h3⟩, _, rfl, _, _, rfl, rfl, ⟨by decide, by decide⟩, d, _, _, rfl, rfl, h3, room (by rw [List.length_map]; omega), ?_⟩
        rw [snoc_int]
        exact ⟨_, _, _, rfl, same_new s3 hd, upd_same, by simp; omega⟩
      · rintro σ2 H3 ⟨n, u5, ms2, rfl, s3, h3, l3⟩
        refine ⟨_, rfl, d, _, rfl, SqL.of h3, fun q hq => ?_⟩
        rw [← List.map_reverse]
        exact k _ q _ (same_new s3 (s3.free hq)) (s3.free hq) upd_same (by rw [List.length_reverse]; omega)
theorem scTake : FnScope ["draws", "bound"] ["draws", "bound"] (defScope sTake) := ⟨rfl, rfl, rfl, by decide +kernel, rfl, by decide +kernel, by decide +kernel⟩
theorem ok_take {f : Addr} {fd : FuncData} (F : Fun K "_law_take" "_law_take" sTake f fd) (B : Bi mg) : FnOk P w K mg base CX0 1 f fd ["draws", "bound"] spTake := by
  refine F.ok scTake (fun vs H Q E h => ?_) (fun cdv A outer s H vs Q E hr h => ?_)
  · obtain ⟨d, b, ms, rfl, _⟩ := h
    rfl
  obtain ⟨d, b, ms, rfl, hd, hb, k⟩ := h
  refine ⟨_, pss_cons (ps_if (pt_cmpR op_eq (pe_callB call_len_seq (by rfl) B.len PySem.boot_len (pa_cons (pv 0) pa_nil)) pe_int (nomark _)) (pss_one (ps_ret pe_int)) pss_nil)
    (pss_one (ps_ret (pe_op op_mod (pe_callTy call_int1 (by rfl) B.int (by decide +kernel) (pa_cons (pe_bm0 PySem.F.plainAttrs_list PySem.F.slot_list_pop PySem.F.type_list_pop mt_pop (pv 0)) pa_nil)) (pv 1)))), ?_⟩
  refine ⟨_, rfl, d, _, rfl, .inl (SqL.of hd), rfl, _, rfl, ite2 (fun _ => ?_) (fun ne => ?_)⟩
  · have e : upd H d (.lst (ms.map V.int)) = H := by
      funext c
      by_cases q : c = d
      · rw [q, upd_same, hd]
      · rw [upd_ne q]
    have := k 0 ms (Int.le_refl _) hb (Nat.le_refl _)
    rw [e] at this
    exact this
  · have pos : 0 < ms.length := by
      rcases Nat.eq_zero_or_pos ms.length with z | z
      · exact absurd (decide_eq_true (by rw [List.length_map, z]; rfl)) ne
      · exact z
    have hl : ms[ms.length - 1]? = some (ms[ms.length - 1]'(by omega)) := List.getElem?_eq_getElem (by omega)
    refine ⟨_, rfl, .inl ⟨rfl, _, SqL.of hd⟩, d, _, .int (ms[ms.length - 1]'(by omega)), rfl, rfl, hd, ?_, .inl ⟨_, rfl, _, rfl, _, _, rfl, rfl, hb, ?_⟩⟩
    · rw [List.length_map, List.getElem?_map, hl]
      rfl
    · rw [← List.map_dropLast]
      exact k _ ms.dropLast (Int.emod_nonneg _ (by omega)) (Int.emod_lt_of_pos _ hb) (by rw [List.length_dropLast]; omega)
end
end K15

set_option Elab.async false
set_option maxRecDepth 100000
set_option maxHeartbeats 4000000
namespace K15
open PySem L2
/-! ### frames -/
/-- all is kept but what stands at M: lists and dicts -/
structure Kp (H H' : Hp) (M : List Addr) : Prop where
  keep : ∀ c o, H c = some o → c ∉ M → H' c = some o
  kind : ∀ m ∈ M, (∃ xs, H m = some (.lst xs)) ∨ ∃ kvs, H m = some (.dK kvs)
theorem Kp.tup {H H' : Hp} {M : List Addr} (k : Kp H H' M) {t : Addr} {xs : List V} (h : H t = some (.tup xs)) : H' t = some (.tup xs) :=
  k.keep t _ h fun m => by
    rcases k.kind t m with ⟨ys, e⟩ | ⟨ys, e⟩ <;> rw [h] at e <;> cases e
theorem Kp.ins {H H' : Hp} {M : List Addr} (k : Kp H H' M) {t C dx : Addr} {fs : List (Str × V)} (h : H t = some (.ins C dx fs)) : H' t = some (.ins C dx fs) :=
  k.keep t _ h fun m => by
    rcases k.kind t m with ⟨ys, e⟩ | ⟨ys, e⟩ <;> rw [h] at e <;> cases e
theorem Kp.refl (H : Hp) : Kp H H [] := ⟨fun _ _ e _ => e, fun _ h => nomatch h⟩
theorem Kp.same {H H' : Hp} (s : Same H H') : Kp H H' [] := ⟨fun c o e _ => s c o e, fun _ h => nomatch h⟩
theorem Kp.toSame {H H' : Hp} (k : Kp H H' []) : Same H H' := fun c o e => k.keep c o e (by simp)
theorem Kp.lst {H : Hp} {a : Addr} {xs : List V} {o : HO} (h : H a = some (.lst xs)) : Kp H (upd H a o) [a] :=
  ⟨fun c u e n => by rw [upd_ne (fun q => n (by rw [q]; exact List.mem_singleton.mpr rfl))]; exact e, fun m hm => .inl ⟨xs, by rw [List.mem_singleton.mp hm]; exact h⟩⟩
theorem Kp.dic {H : Hp} {a : Addr} {xs : List (Key × V)} {o : HO} (h : H a = some (.dK xs)) : Kp H (upd H a o) [a] :=
  ⟨fun c u e n => by rw [upd_ne (fun q => n (by rw [q]; exact List.mem_singleton.mpr rfl))]; exact e, fun m hm => .inr ⟨xs, by rw [List.mem_singleton.mp hm]; exact h⟩⟩
theorem Kp.new {H : Hp} {a : Addr} {o : HO} (h : H a = none) : Kp H (upd H a o) [] := ⟨fun c u e _ => by rw [upd_ne (ne_of_none e h)]; exact e, fun _ h => nomatch h⟩
/-- one after the other; what the second one changes is new or stands in L -/
theorem Kp.trans {H H1 H2 : Hp} {M N L : List Addr} (a : Kp H H1 M) (b : Kp H1 H2 N) (hM : ∀ x ∈ M, x ∈ L) (hN : ∀ x ∈ N, x ∈ L ∨ H x = none) (hL : ∀ m ∈ L, (∃ xs, H m = some (.lst xs)) ∨ ∃ kvs, H m = some (.dK kvs)) : Kp H H2 L :=
  ⟨fun c o e n => b.keep c o (a.keep c o e fun q => n (hM c q)) fun q => (hN c q).elim n fun z => (nomatch (z.symm.trans e)), hL⟩
theorem Kp.then {H H1 H2 : Hp} {M : List Addr} (a : Kp H H1 M) (b : Kp H1 H2 []) : Kp H H2 M := a.trans b (fun _ h => h) (fun _ h => nomatch h) a.kind
theorem Kp.pre {H H1 H2 : Hp} {M : List Addr} (a : Kp H H1 []) (b : Kp H1 H2 M) (hL : ∀ m ∈ M, (∃ xs, H m = some (.lst xs)) ∨ ∃ kvs, H m = some (.dK kvs)) : Kp H H2 M := a.trans b (fun _ h => nomatch h) (fun _ h => .inl h) hL
theorem Kp.up {H H1 : Hp} {M L : List Addr} (a : Kp H H1 M) (h : ∀ x ∈ M, x ∈ L) (hL : ∀ m ∈ L, (∃ xs, H m = some (.lst xs)) ∨ ∃ kvs, H m = some (.dK kvs)) : Kp H H1 L := ⟨fun c o e n => a.keep c o e fun q => n (h c q), hL⟩
/-- what is new, and then written, is as new -/
theorem Kp.fresh {H H1 H2 : Hp} {M : List Addr} (a : Kp H H1 []) (b : Kp H1 H2 M) (hN : ∀ x ∈ M, H x = none) : Kp H H2 [] := a.trans b (fun _ h => nomatch h) (fun x h => .inr (hN x h)) fun _ h => nomatch h
theorem Kp.free {H H' : Hp} {M : List Addr} (k : Kp H H' M) {q : Addr} (h : H' q = none) (hm : q ∉ M) : H q = none := by
  cases e : H q with
  | none => rfl
  | some o => rw [k.keep q o e hm] at h; cases h
theorem nw {G : Hp} {a x : Addr} {o : HO} (e : G x = some o) (f : G a = none) : a ≠ x := fun z => by
  rw [← z, f] at e
  cases e
theorem dne {H : Hp} {a b : Addr} {t : List (Key × V)} {xs : List V} (h : H a = some (.dK t)) (k : H b = some (.lst xs)) : a ≠ b := fun e => by
  rw [e, k] at h
  cases h
theorem nm1 {a b : Addr} (h : a ≠ b) : a ∉ [b] := by simpa using h
theorem nm3 {a b c d : Addr} (h : a ≠ b) (h2 : a ≠ c) (h3 : a ≠ d) : a ∉ [b, c, d] := by simp [h, h2, h3]
/-! ### dicts -/
section
variable {t : List (Key × V)} {k : Key} {v : V}
theorem valV_drop (t : List (Key × V)) (k j : Key) : valV (dropK t k) j = if j = k then none else valV t j := by
  induction t with
  | nil => split <;> rfl
  | cons p r ih =>
    by_cases e : p.1 = k
    · rw [dropK_pos e, ih]
      by_cases c : j = k
      · rw [if_pos c, if_pos c]
      · rw [if_neg c, if_neg c, valV_neg (fun z => c (by rw [← z, e]))]
    · rw [dropK_neg e]
      by_cases c : p.1 = j
      · rw [valV_pos c, valV_pos c, if_neg (fun z => e (c.trans z))]
      · rw [valV_neg c, valV_neg c, ih]
theorem nd_put (hn : (t.map (·.1)).Nodup) : ((putK t k v).map (·.1)).Nodup := by
  cases e : valV t k with
  | none => exact nd_putK _ hn e
  | some u =>
    have h : (putK t k v).map (·.1) = t.map (·.1) := by
      unfold putK
      rw [if_pos (by rw [valV_any, e]; rfl), List.map_map]
      apply List.map_congr_left
      intro q _
      show (if q.1 = k then (q.1, v) else q).1 = q.1
      split <;> rfl
    rw [h]
    exact hn
theorem valV_mem (hn : (t.map (·.1)).Nodup) : ∀ q ∈ t, valV t q.1 = some q.2 := by
  induction t with
  | nil => intro q hq; exact nomatch hq
  | cons p r ih =>
    intro q hq
    have hn : (p.1 :: r.map (·.1)).Nodup := hn
    obtain ⟨h1, h2⟩ := List.nodup_cons.mp hn
    rcases List.mem_cons.mp hq with e | hq
    · subst e
      exact valV_pos rfl
    · rw [valV_neg (fun e => h1 (by rw [e]; exact List.mem_map.mpr ⟨q, hq, rfl⟩))]
      exact ih h2 q hq
theorem len_sub {α : Type} [DecidableEq α] : ∀ {l m : List α}, l.Nodup → (∀ x ∈ l, x ∈ m) → l.length ≤ m.length
  | [], _, _, _ => Nat.zero_le _
  | a :: l, m, h, s => by
    obtain ⟨h1, h2⟩ := List.nodup_cons.mp h
    have := len_sub (l := l) (m := m.erase a) h2 fun x hx => (List.mem_erase_of_ne fun e => h1 (by rw [← e]; exact hx)).mpr (s x (List.mem_cons_of_mem _ hx))
    rw [List.length_erase_of_mem (s a List.mem_cons_self)] at this
    have := List.length_pos_of_mem (s a List.mem_cons_self)
    rw [List.length_cons]
    omega
end
/-! ### the objects -/
def nats (l : List Nat) : List V := l.map fun n : Nat => V.int (n : Int)
theorem updId {H : Hp} {a : Addr} {o : HO} (h : H a = some o) : upd H a o = H := by
  funext c
  by_cases q : c = a
  · rw [q, upd_same, h]
  · rw [upd_ne q]
theorem nats_at {l : List Nat} {i : Nat} {y : V} (h : (nats l)[i]? = some y) : ∃ m : Nat, y = .int (m : Int) ∧ l[i]? = some m := by
  unfold nats at h
  rw [List.getElem?_map] at h
  cases e : l[i]? with
  | none => rw [e] at h; cases h
  | some m => rw [e] at h; exact ⟨m, (Option.some.inj h).symm, rfl⟩
theorem nats_snoc (l : List Nat) (m : Nat) : nats l ++ [V.int (m : Int)] = nats (l ++ [m]) := by unfold nats; rw [List.map_append]; rfl
theorem nats_app (l m : List Nat) : nats l ++ nats m = nats (l ++ m) := by unfold nats; rw [List.map_append]
theorem nats_get {l : List Nat} {i m : Nat} (h : l[i]? = some m) : (nats l)[i]? = some (V.int (m : Int)) := by unfold nats; rw [List.getElem?_map, h]; rfl
theorem nats_len (l : List Nat) : (nats l).length = l.length := List.length_map _
theorem nats_ints (l : List Nat) : nats l = (l.map fun n : Nat => (n : Int)).map V.int := by unfold nats; rw [List.map_map]; rfl
def fl (h m j : Addr) : List (Str × V) := putF "joins" (.ref j) (putF "members" (.ref m) (putF "heads" (.ref h) []))
theorem fl_heads (h m j : Addr) : (fl h m j).lookup ("heads" : Str) = some (.ref h) := by
  unfold fl
  rw [lookup_putF, if_neg (by decide +kernel), lookup_putF, if_neg (by decide +kernel), lookup_putF, if_pos rfl]
theorem fl_members (h m j : Addr) : (fl h m j).lookup ("members" : Str) = some (.ref m) := by
  unfold fl
  rw [lookup_putF, if_neg (by decide +kernel), lookup_putF, if_pos rfl]
theorem fl_joins (h m j : Addr) : (fl h m j).lookup ("joins" : Str) = some (.ref j) := by
  unfold fl
  rw [lookup_putF, if_pos rfl]
theorem fl_no (h m j : Addr) {x : Str} (h1 : ¬ x = "heads") (h2 : ¬ x = "members") (h3 : ¬ x = "joins") : (fl h m j).lookup x = none := by
  unfold fl
  rw [lookup_putF, if_neg h3, lookup_putF, if_neg h2, lookup_putF, if_neg h1]
  rfl
def TupN (H : Hp) (t : Addr) (l : List Nat) : Prop := H t = some (.tup (nats l))
def SaidAt (H : Hp) (q : Addr) : Prop := H q = some (.tup [.str "said", .int 0])
def RowAt (H : Hp) (u : Addr) (r : Row) : Prop := ∃ q mo, H u = some (.tup [.int (r.1 : Int), .int (r.2.1 : Int), .ref q, .ref mo]) ∧ SaidAt H q ∧ TupN H mo r.2.2
abbrev ik (k : Nat) : Key := .inl (k : Int)
structure MemOk (H : Hp) (kvs : List (Key × V)) (n : Nat) (st : List Jn) : Prop where
  nd : (kvs.map (·.1)).Nodup
  has : ∀ k, k < n → hd st k = k → ∃ t, valV kvs (ik k) = some (.ref t) ∧ TupN H t (mem st k)
  only : ∀ key v, valV kvs key = some v → ∃ k, key = ik k ∧ k < n ∧ hd st k = k
structure FAt (C : Addr) (H : Hp) (p h m j : Addr) (n : Nat) (st : List Jn) : Prop where
  ob : ∃ dx, H p = some (.ins C dx (fl h m j))
  hs : H h = some (.lst (nats (labels n st)))
  ms : ∃ kvs, H m = some (.dK kvs) ∧ MemOk H kvs n st
  js : ∃ us : List Addr, H j = some (.lst (us.reverse.map V.ref)) ∧ Paired (RowAt H) us (rows st)
  ok : Ok n st
  hj : h ≠ j
  sz : n ≤ 60 ∧ st.length ≤ 1000
theorem mem_len {st : List Jn} {n k : Nat} (ok : Ok n st) (h : hd st k = k) (l : k < n) : (mem st k).length ≤ n := by
  have := len_sub (m := List.range n) (mem_nodup st h) fun x hx => List.mem_range.mpr (mem_lt ok h l hx)
  rw [List.length_range] at this
  exact this
theorem MemOk.keys {H : Hp} {kvs : List (Key × V)} {n : Nat} {st : List Jn} (M : MemOk H kvs n st) (key : Key) : key ∈ kvs.map (·.1) ↔ ∃ k, key = ik k ∧ k < n ∧ hd st k = k := by
  constructor
  · intro h
    obtain ⟨q, hq, rfl⟩ := List.mem_map.mp h
    exact M.only _ _ (valV_mem M.nd q hq)
  · rintro ⟨k, rfl, a, b⟩
    obtain ⟨t, e, _⟩ := M.has k a b
    exact valV_in e
theorem MemOk.len {H : Hp} {kvs : List (Key × V)} {n : Nat} {st : List Jn} (M : MemOk H kvs n st) : kvs.length ≤ n := by
  have := len_sub (m := (List.range n).map ik) M.nd fun x hx => by
    obtain ⟨k, e, l, _⟩ := (M.keys x).mp hx
    exact List.mem_map.mpr ⟨k, List.mem_range.mpr l, e.symm⟩
  simpa using this
theorem RowAt.kp {H H' : Hp} {M : List Addr} (k : Kp H H' M) {u : Addr} {r : Row} (h : RowAt H u r) : RowAt H' u r := by
  obtain ⟨q, mo, a, b, c⟩ := h
  exact ⟨q, mo, k.tup a, k.tup b, k.tup c⟩
theorem rowsKp {H H' : Hp} {M : List Addr} (k : Kp H H' M) {us : List Addr} {rs : List Row} (h : Paired (RowAt H) us rs) : Paired (RowAt H') us rs := Paired.mapP h fun _ _ e => e.kp k
theorem MemOk.kp {H H' : Hp} {M : List Addr} (k : Kp H H' M) {kvs : List (Key × V)} {n : Nat} {st : List Jn} (h : MemOk H kvs n st) : MemOk H' kvs n st :=
  ⟨h.nd, fun x l e => let ⟨t, a, b⟩ := h.has x l e; ⟨t, a, k.tup b⟩, h.only⟩
theorem FAt.kp {C : Addr} {H H' : Hp} {M : List Addr} {p h m j : Addr} {n : Nat} {st : List Jn} (f : FAt C H p h m j n st) (k : Kp H H' M) (n1 : h ∉ M) (n2 : m ∉ M) (n3 : j ∉ M) : FAt C H' p h m j n st := by
  obtain ⟨⟨dx, a⟩, b, ⟨kvs, c, c'⟩, ⟨us, d, d'⟩, e, g, s⟩ := f
  exact ⟨⟨dx, k.ins a⟩, k.keep _ _ b n1, ⟨kvs, k.keep _ _ c n2, c'.kp k⟩, ⟨us, k.keep _ _ d n3, rowsKp k d'⟩, e, g, s⟩
theorem FAt.more {C : Addr} {H H' : Hp} {p h m j : Addr} {n : Nat} {st : List Jn} (f : FAt C H p h m j n st) (k : Kp H H' []) : FAt C H' p h m j n st := f.kp k (by simp) (by simp) (by simp)
theorem FAt.kind {C : Addr} {H : Hp} {p h m j : Addr} {n : Nat} {st : List Jn} (f : FAt C H p h m j n st) : ∀ x ∈ [h, m, j], (∃ xs, H x = some (.lst xs)) ∨ ∃ kvs, H x = some (.dK kvs) := fun x hx => by
  obtain ⟨_, b, ⟨kvs, c, _⟩, ⟨us, d, _⟩, _⟩ := f
  simp only [List.mem_cons, List.not_mem_nil, or_false] at hx
  rcases hx with e | e | e <;> rw [e]
  · exact .inl ⟨_, b⟩
  · exact .inr ⟨_, c⟩
  · exact .inl ⟨_, d⟩
theorem FAt.mh {C : Addr} {H : Hp} {p h m j : Addr} {n : Nat} {st : List Jn} (f : FAt C H p h m j n st) : m ≠ h := let ⟨_, c, _⟩ := f.ms; dne c f.hs
theorem FAt.mj {C : Addr} {H : Hp} {p h m j : Addr} {n : Nat} {st : List Jn} (f : FAt C H p h m j n st) : m ≠ j := let ⟨_, c, _⟩ := f.ms; let ⟨_, d, _⟩ := f.js; dne c d
structure Txt (K : PySem.W.Frag) (mg : Str → Option Value) (C Cn : Addr) : Prop where
  cl : Cls K C
  nH : NoAttr K C "heads"
  nM : NoAttr K C "members"
  nJ : NoAttr K C "joins"
  mgC : mg "Forest" = some (.ref C)
  B : Bi mg
  gN : mg "NotThere" = some (.ref Cn)
  kN : PySem.W.keepIn K (.ref Cn) = true
  qN : PySem.W.excIn K Cn [.type "ValueError", .type "Exception", .type "BaseException", .type "object"] "ValueError.__new__" = true
  bN : PySem.W.subIn K (.ref Cn) (.type "BaseException") = some true
  tN : PySem.W.typeIn K (.ref Cn) = some (.type "type")
end K15

set_option Elab.async false
set_option maxRecDepth 100000
set_option maxHeartbeats 4000000
namespace K15
open PySem L2
/-! ### calls of defs that may raise -/
abbrev XF : XK := fun _ _ _ => False
theorem passF {X : Cx} {P : Program} {w : World} : Passes (L2N.CX P w) X XF := fun _ _ _ _ _ _ _ c => by
  obtain ⟨_, _, _, _, _, _, _, _, _, _, _, _, h⟩ := c
  exact h.elim
theorem okN {P : Program} {w : World} {K : PySem.W.Frag} {mg : Str → Option Value} {base : Heap} {x qual : Str} {st : Stmt} {f : Addr} {fd : FuncData} {N ps : List Str} {k : Nat} {sp : Sp} (F : Fun K x qual st f fd) (S : FnScope N ps (defScope st)) (len : ∀ vs H Q E, sp vs H Q E → vs.length = ps.length)
    (hbody : ∀ (cdv : Value) (A : Around) (outer : List Env) (s : Shared) (H : Hp) (vs : List V) (Q : VK) (E : XK), Room k (A.deeper (PyProof.Rows.envOfC qual (defScope st) s.heap.objs.size f cdv)) → sp vs H Q E →
      ∃ t, PSs (cxOf (L2N.CX P w) P w K mg base N qual (defScope st) f cdv A outer s H E) (defBody st) t ∧ t { nx := fun _ H' => Q .non H', rt := Q } (start N vs) H) : FnOk P w K mg base (L2N.CX P w) (k + 1) f fd ps sp := by
  obtain ⟨oc, od, kV, doc, pm, an, cdv, ct, osl, rfl, lk, hcd⟩ := F.ex
  exact fn_of lk hcd S len fun A outer s H vs Q E hr hsp => hbody cdv A outer s H vs Q E hr hsp
/-! ### the promises -/
def inR (v : V) (l m : Int) : Bool := match v with
  | .int i => decide (l ≤ i) && decide (i ≤ m)
  | _ => false
def Numb (v : V) : Prop := (∃ i, v = .int i) ∨ (∃ b, v = .bl b) ∨ v = .non
def spNum : Sp := fun vs H Q _ => ∃ (v : V) (l m : Int), vs = [v, .int l, .int m] ∧ Numb v ∧ Q (.bl (inR v l m)) H
def spInit (C : Addr) : Sp := fun vs H Q _ => ∃ (p dx : Addr), vs = [.ref p] ∧ H p = some (.ins C dx []) ∧ ∀ (H' : Hp) (h m j : Addr), FAt C H' p h m j 0 [] → (∀ c o, H c = some o → c ≠ p → H' c = some o) → H h = none → H m = none → H j = none → Q .non H'
def spMany (C : Addr) : Sp := fun vs H Q _ => ∃ (p h m j : Addr) (n : Nat) (st : List Jn), vs = [.ref p] ∧ FAt C H p h m j n st ∧ Q (.int (n : Int)) H
def spNew (C : Addr) : Sp := fun vs H Q _ => ∃ (p h m j : Addr) (n : Nat) (st : List Jn), vs = [.ref p] ∧ FAt C H p h m j n st ∧ n < 60 ∧ ∀ H', FAt C H' p h m j (n + 1) st → Kp H H' [h, m, j] → Q (.int (n : Int)) H'
/-- in range: what Q wants; else NotThere -/
def spFind (C Cn : Addr) : Sp := fun vs H Q E => ∃ (p h m j : Addr) (n : Nat) (st : List Jn) (v : V), vs = [.ref p, v] ∧ FAt C H p h m j n st ∧ Numb v ∧ (∀ k : Nat, k < n → v = .int (k : Int) → Q (.int (hd st k : Int)) H) ∧ (inR v 0 ((n : Int) - 1) = false → E (.ref Cn) none H)
def spClasses (C : Addr) : Sp := fun vs H Q _ => ∃ (p h m j : Addr) (n : Nat) (st : List Jn), vs = [.ref p] ∧ FAt C H p h m j n st ∧ ∀ H' t, Kp H H' [] → TupN H' t (heads n st) → Q (.ref t) H'
def spMembers (C Cn : Addr) : Sp := fun vs H Q E => ∃ (p h m j : Addr) (n : Nat) (st : List Jn) (v : V), vs = [.ref p, v] ∧ FAt C H p h m j n st ∧ Numb v ∧ (∀ k : Nat, k < n → v = .int (k : Int) → ∀ H' t, Kp H H' [] → TupN H' t (cls n st (hd st k)) → Q (.ref t) H') ∧ (inR v 0 ((n : Int) - 1) = false → E (.ref Cn) none H)
theorem inR_no {v : V} {n : Nat} (hv : Numb v) (h : inR v 0 ((n : Int) - 1) = true) : ∃ k : Nat, k < n ∧ v = .int (k : Int) := by
  rcases hv with ⟨i, rfl⟩ | ⟨b, rfl⟩ | rfl
  · have h : (decide (0 ≤ i) && decide (i ≤ (n : Int) - 1)) = true := h
    rw [Bool.and_eq_true, decide_eq_true_eq, decide_eq_true_eq] at h
    exact ⟨i.toNat, by omega, by rw [Int.toNat_of_nonneg h.1]⟩
  · cases h
  · cases h
theorem labels_get {n k : Nat} {st : List Jn} (h : k < n) : (labels n st)[k]? = some (hd st k) := by
  unfold labels
  rw [List.getElem?_map, List.getElem?_range h]
  rfl
theorem labels_len (n : Nat) (st : List Jn) : (labels n st).length = n := by
  unfold labels
  rw [List.length_map, List.length_range]
section
variable {P : Program} {w : World} {K : PySem.W.Frag} {mg : Str → Option Value} {base : Heap}
theorem sc_is_number : FnScope ["value", "least", "most"] ["value", "least", "most"] (defScope s_is_number) := ⟨rfl, rfl, rfl, by decide +kernel, rfl, by decide +kernel, by decide +kernel⟩
theorem ok_is_number {f C Cn : Addr} {fd : FuncData} (F : Fun K "is_number" "is_number" s_is_number f fd) (T : Txt K mg C Cn) : FnOk P w K mg base CX0 1 f fd ["value", "least", "most"] spNum := by
  refine F.ok sc_is_number (fun vs H Q E h => ?_) (fun cdv A outer s H vs Q E hr h => ?_)
  · obtain ⟨v, l, m, rfl, _⟩ := h
    rfl
  obtain ⟨v, l, m, rfl, hv, k⟩ := h
  refine ⟨_, (pss_one (ps_ret (pe_and (pe_callB call_isi (by rfl) T.B.isinstance (by decide +kernel) (pa_cons (pv 0) (pa_cons (pe_bltn (v := .ty "int") (by rfl) T.B.int (by decide +kernel) rfl) pa_nil))) (pe_and (pe_not (pe_callB call_isi (by rfl) T.B.isinstance (by decide +kernel) (pa_cons (pv 0) (pa_cons (pe_bltn (v := .ty "bool") (by rfl) T.B.bool (by decide +kernel) rfl) pa_nil)))) (pe_one (pe_chain op_le op_le (pv 1) (pv 0) (pv 2))))))), ?_⟩
  rcases hv with ⟨i, rfl⟩ | ⟨b, rfl⟩ | rfl
  · refine ⟨_, rfl, _, .ty "int", _, _, true, rfl, .ty _, .base (.int _), kit_ty (by decide +kernel), true, rfl, ?_⟩
    refine ⟨_, rfl, _, .ty "bool", _, _, false, rfl, .ty _, .base (.int _), kit_ty (by decide +kernel), false, rfl, true, rfl, ?_⟩
    refine ⟨_, rfl, _, rfl, _, _, rfl, rfl, _, rfl, ite2 (fun a => ?_) (fun a => ?_)⟩
    · refine ⟨_, rfl, _, _, rfl, rfl, ?_⟩
      have e : inR (.int i) l m = decide (i ≤ m) := by
        show (decide (l ≤ i) && decide (i ≤ m)) = _
        rw [a, Bool.true_and]
      rw [e] at k
      exact k
    · have e : inR (.int i) l m = false := by
        show (decide (l ≤ i) && decide (i ≤ m)) = _
        rw [Bool.eq_false_iff.mpr a, Bool.false_and]
      rw [e] at k
      exact k
  · refine ⟨_, rfl, _, .ty "int", _, _, true, rfl, .ty _, .base (.bl _), kit_ty (by decide +kernel), true, rfl, ?_⟩
    refine ⟨_, rfl, _, .ty "bool", _, _, true, rfl, .ty _, .base (.bl _), kit_ty (by decide +kernel), true, rfl, false, rfl, ?_⟩
    exact k
  · refine ⟨_, rfl, _, .ty "int", _, _, false, rfl, .ty _, .base .non, kit_ty (by decide +kernel), false, rfl, ?_⟩
    exact k
theorem sc_init : FnScope ["self"] ["self"] (defScope s_Forest___init__) := ⟨rfl, rfl, rfl, by decide +kernel, rfl, by decide +kernel, by decide +kernel⟩
theorem memNil (H : Hp) : MemOk H [] 0 [] := ⟨List.nodup_nil, fun _ l => absurd l (Nat.not_lt_zero _), fun _ _ h => (nomatch h)⟩
theorem ok_init {f C Cn : Addr} {fd : FuncData} (F : Fun K "__init__" "Forest.__init__" s_Forest___init__ f fd) (T : Txt K mg C Cn) : FnOk P w K mg base CX0 1 f fd ["self"] (spInit C) := by
  refine F.ok sc_init (fun vs H Q E h => ?_) (fun cdv A outer s H vs Q E hr h => ?_)
  · obtain ⟨p, dx, rfl, _⟩ := h
    rfl
  obtain ⟨p, dx, rfl, hp, k⟩ := h
  refine ⟨_, (pss_cons (ps_fld (pv 0) (pe_lst pa_nil) rfl)
    (pss_cons (ps_fld (pv 0) pe_dnewK rfl)
    (pss_one (ps_fld (pv 0) (pe_lst pa_nil) rfl)))), ?_⟩
  refine ⟨Nat.zero_le _, fun a ha => ⟨_, rfl, p, C, dx, [], rfl, (upd_ne (ne_of_none hp ha)).trans hp, T.cl, T.nH, (by show 0 < 1000; decide), ?_⟩⟩
  have pa : p ≠ a := ne_of_none hp ha
  intro m hm
  have pm : p ≠ m := ne_of_none upd_same hm
  refine ⟨_, rfl, p, C, dx, _, rfl, (upd_ne pm).trans upd_same, T.cl, T.nM, (by show 1 < 1000; decide), ?_⟩
  refine ⟨Nat.zero_le _, fun j hj => ?_⟩
  have pj : p ≠ j := ne_of_none upd_same hj
  refine ⟨_, rfl, p, C, dx, _, rfl, (upd_ne pj).trans upd_same, T.cl, T.nJ, (by show 2 < 1000; decide), ?_⟩
  have ma : m ≠ a := fun e => by
    rw [e, upd_ne pa.symm, upd_same] at hm
    cases hm
  have jm : j ≠ m := fun e => by
    rw [e, upd_ne pm.symm, upd_same] at hj
    cases hj
  have ja : j ≠ a := fun e => by
    rw [e, upd_ne pa.symm, upd_ne ma.symm, upd_ne pa.symm, upd_same] at hj
    cases hj
  have hm' : H m = none := by rw [upd_ne pm.symm, upd_ne ma] at hm; exact hm
  have hj' : H j = none := by rw [upd_ne pj.symm, upd_ne jm, upd_ne pj.symm, upd_ne ja] at hj; exact hj
  refine k _ a m j ⟨⟨dx, upd_same⟩, ?_, ⟨[], ?_, memNil _⟩, ⟨[], ?_, .nil⟩, (fun _ h => nomatch h), ja.symm, by decide⟩ (fun c o e n => ?_) ha hm' hj'
  · rw [upd_ne pa.symm, upd_ne ja.symm, upd_ne pa.symm, upd_ne ma.symm, upd_ne pa.symm, upd_same]
    rfl
  · rw [upd_ne pm.symm, upd_ne jm.symm, upd_ne pm.symm, upd_same]
  · rw [upd_ne pj.symm, upd_same]
    rfl
  · rw [upd_ne n, upd_ne (ne_of_none e hj'), upd_ne n, upd_ne (ne_of_none e hm'), upd_ne n, upd_ne (ne_of_none e ha)]
    exact e
theorem sc_many : FnScope ["self"] ["self"] (defScope s_Forest_many) := ⟨rfl, rfl, rfl, by decide +kernel, rfl, by decide +kernel, by decide +kernel⟩
theorem ok_many {f C Cn : Addr} {fd : FuncData} (F : Fun K "many" "Forest.many" s_Forest_many f fd) (T : Txt K mg C Cn) : FnOk P w K mg base CX0 1 f fd ["self"] (spMany C) := by
  refine F.ok sc_many (fun vs H Q E h => ?_) (fun cdv A outer s H vs Q E hr h => ?_)
  · obtain ⟨p, h, m, j, n, st, rfl, _⟩ := h
    rfl
  obtain ⟨p, h, m, j, n, st, rfl, R, k⟩ := h
  refine ⟨_, (pss_one (ps_ret (pe_callB call_len_seq (by rfl) T.B.len (by decide +kernel) (pa_cons (pe_fld (pv 0) rfl) pa_nil)))), ?_⟩
  obtain ⟨dx, hp⟩ := R.ob
  refine ⟨_, rfl, p, C, dx, _, _, rfl, hp, T.cl, T.nH, fl_heads h m j, h, _, rfl, .inl (SqL.of R.hs), ?_⟩
  rw [nats_len, labels_len]
  exact k
theorem sc_new : FnScope ["self", "number"] ["self"] (defScope s_Forest_new) := ⟨rfl, rfl, rfl, by decide +kernel, rfl, by decide +kernel, by decide +kernel⟩
theorem ok_new {f C Cn : Addr} {fd : FuncData} (F : Fun K "new" "Forest.new" s_Forest_new f fd) (T : Txt K mg C Cn) : FnOk P w K mg base CX0 1 f fd ["self"] (spNew C) := by
  refine F.ok sc_new (fun vs H Q E h => ?_) (fun cdv A outer s H vs Q E hr h => ?_)
  · obtain ⟨p, h, m, j, n, st, rfl, _⟩ := h
    rfl
  obtain ⟨p, h, m, j, n, st, rfl, R, n60, k⟩ := h
  have nd := sc_new.nd
  have hu := hu_of hr
  refine ⟨_, (pss_cons (ps_set (i := 1) nd rfl (.inl rfl) (pe_callB call_len_seq (by rfl) T.B.len (by decide +kernel) (pa_cons (pe_fld (pv 0) rfl) pa_nil)))
    (pss_cons (ps_expr (pe_bm PySem.F.plainAttrs_list PySem.F.slot_list_append PySem.F.type_list_append mt_append (pe_fld (pv 0) rfl) (pa_cons (pv 1) pa_nil)))
    (pss_cons (ps_dput hu (pe_fld (pv 0) rfl) (pv 1) (pe_tup (pa_cons (pv 1) pa_nil)) rfl)
    (pss_one (ps_ret (pv 1)))))), ?_⟩
  obtain ⟨dx, hp⟩ := R.ob
  obtain ⟨kvs, hm, hM⟩ := R.ms
  refine ⟨_, rfl, p, C, dx, _, _, rfl, hp, T.cl, T.nH, fl_heads h m j, h, _, rfl, .inl (SqL.of R.hs), ?_⟩
  refine ⟨_, rfl, p, C, dx, _, _, rfl, hp, T.cl, T.nH, fl_heads h m j, .inl ⟨rfl, _, SqL.of R.hs⟩, _, rfl, h, _, _, rfl, rfl, R.hs, Nat.lt_of_le_of_lt (show _ ≤ 60 by rw [nats_len, labels_len]; omega) (by decide), ?_⟩
  rw [nats_len, labels_len]
  have eh : nats (labels n st) ++ [V.int (n : Int)] = nats (labels (n + 1) st) := by
    rw [nats_snoc]
    unfold labels
    rw [List.range_succ, List.map_append]
    show _ = nats (_ ++ [hd st n])
    rw [hd_out R.ok (Nat.le_refl n)]
  rw [eh]
  refine ⟨_, rfl, (by show 1 ≤ sizeLine; decide), fun t ht => ?_⟩
  have hp' : upd H h (.lst (nats (labels (n + 1) st))) p = some (.ins C dx (fl h m j)) := (Kp.lst R.hs).ins hp
  have pt : p ≠ t := ne_of_none hp' ht
  have th : h ≠ t := ne_of_none upd_same ht
  have mt : m ≠ t := ne_of_none ((upd_ne R.mh).trans hm) ht
  refine ⟨_, rfl, p, C, dx, _, _, rfl, (upd_ne pt).trans hp', T.cl, T.nM, fl_members h m j, _, rfl, ?_⟩
  have hm3 : upd (upd H h (.lst (nats (labels (n + 1) st)))) t (.tup [.int (n : Int)]) m = some (.dK kvs) := (upd_ne mt).trans ((upd_ne R.mh).trans hm)
  have len := hM.len
  refine ⟨m, _, rfl, .k (k := ik n) hm3 (Nat.lt_of_le_of_lt (Nat.le_trans len (Nat.le_of_lt n60)) (by decide)), _, rfl, k _ ?_ ?_⟩
  · have kp : Kp H (upd (upd (upd H h (.lst (nats (labels (n + 1) st)))) t (.tup [.int (n : Int)])) m (.dK (putK kvs (ik n) (.ref t)))) [h, m] :=
      ((Kp.lst R.hs).then (Kp.new ht)).trans (Kp.dic hm3) (by simp) (by simp) fun x hx => R.kind x (by simp at hx ⊢; rcases hx with e | e <;> simp [e])
    obtain ⟨us, hj, hU⟩ := R.js
    have hn : valV kvs (ik n) = none := by
      cases e : valV kvs (ik n) with
      | none => rfl
      | some v =>
        obtain ⟨k, e1, e2, _⟩ := hM.only _ _ e
        have e1 : (n : Int) = (k : Int) := Sum.inl.inj e1
        omega
    refine ⟨⟨dx, kp.ins hp⟩, ?_, ⟨_, upd_same, nd_put hM.nd, fun k hk e => ?_, fun key v e => ?_⟩, ⟨us, kp.keep _ _ hj (by simp [R.hj.symm, R.mj.symm]), rowsKp kp hU⟩, R.ok.mono (Nat.le_succ n), R.hj, n60, R.sz.2⟩
    · rw [upd_ne R.mh.symm, upd_ne th, upd_same]
    · rw [valV_put]
      by_cases c : k = n
      · refine ⟨t, if_pos (by rw [c]), ?_⟩
        rw [c, mem_out R.ok (Nat.le_refl n)]
        show upd _ _ _ t = _
        rw [upd_ne mt.symm, upd_same]
        rfl
      · obtain ⟨a, e1, e2⟩ := hM.has k (by omega) e
        refine ⟨a, ?_, kp.tup e2⟩
        rw [if_neg (fun z => c (by have z : (k : Int) = (n : Int) := Sum.inl.inj z; omega))]
        exact e1
    · rw [valV_put] at e
      by_cases c : key = ik n
      · exact ⟨n, c, Nat.lt_succ_self n, hd_out R.ok (Nat.le_refl n)⟩
      · rw [if_neg c] at e
        obtain ⟨k, a, b, d⟩ := hM.only _ _ e
        exact ⟨k, a, by omega, d⟩
  · exact ((Kp.lst R.hs).then (Kp.new ht)).trans (Kp.dic hm3) (by simp) (by simp) R.kind
theorem sc_find : FnScope ["self", "number"] ["self", "number"] (defScope s_Forest_find) := ⟨rfl, rfl, rfl, by decide +kernel, rfl, by decide +kernel, by decide +kernel⟩
theorem ok_find {f C Cn f1 : Addr} {fd fd1 : FuncData} (F : Fun K "find" "Forest.find" s_Forest_find f fd) (T : Txt K mg C Cn) (F_is_number : Fun K "is_number" "is_number" s_is_number f1 fd1) (b_is_number : Binds K fd1 ["value", "least", "most"] []) (g_is_number : mg "is_number" = some (.ref f1)) :
    FnOk P w K mg base (L2N.CX P w) 2 f fd ["self", "number"] (spFind C Cn) := by
  have G_is_number : FnOk P w K mg base CX0 1 f1 fd1 ["value", "least", "most"] spNum := ok_is_number F_is_number T
  refine okN F sc_find (fun vs H Q E h => ?_) (fun cdv A outer s H vs Q E hr h => ?_)
  · obtain ⟨p, h, m, j, n, st, v, rfl, _⟩ := h
    rfl
  obtain ⟨p, h, m, j, n, st, v, rfl, R, hv, k, ke⟩ := h
  have hr1 : Room 1 _ := hr.mono (by decide)
  refine ⟨_, (pss_cons (ps_if (pt_not (pt_val (pe_call G_is_number hr1 (by rfl) g_is_number F_is_number.kp b_is_number .nil pass0 (pa_cons (pv 1) (pa_cons pe_int (pa_cons (pe_op op_sub (pe_callB call_len_seq (by rfl) T.B.len (by decide +kernel) (pa_cons (pe_fld (pv 0) rfl) pa_nil)) pe_int) pa_nil)))))) 
      (pss_one (L2N.ps_raise rfl (L2N.takes_of rfl rfl rfl rfl) (L2N.pmk_own PySem.F.excBase_ValueError T.qN T.gN T.kN (raises_own T.bN T.tN) (by exact rfl)))) pss_nil)
    (pss_one (ps_ret (pe_ix ix_list (pe_fld (pv 0) rfl) (pv 1) (fun _ _ => rfl))))), ?_⟩
  obtain ⟨dx, hp⟩ := R.ob
  refine ⟨_, rfl, _, rfl, p, C, dx, _, _, rfl, hp, T.cl, T.nH, fl_heads h m j, h, _, rfl, .inl (SqL.of R.hs), _, _, rfl, rfl, ?_⟩
  rw [nats_len, labels_len]
  refine ⟨_, _, _, rfl, hv, _, rfl, ?_⟩
  cases e : inR v 0 ((n : Int) - 1) with
  | false => exact iteT (ke e)
  | true =>
    refine iteF ?_
    obtain ⟨i, hi, rfl⟩ := inR_no hv e
    refine ⟨_, rfl, p, C, dx, _, _, rfl, hp, T.cl, T.nH, fl_heads h m j, _, rfl, h, _, _, _, rfl, rfl, SqL.of R.hs, at_of (j := i) rfl (nats_get (labels_get hi)), ?_⟩
    exact k i hi rfl
theorem sortedNats {ns : List Int} {l : List Nat} (h : ns.Perm (l.map fun n : Nat => (n : Int))) (hs : ns.Pairwise (· ≤ ·)) : ∃ l' : List Nat, ns = l'.map (fun n : Nat => (n : Int)) ∧ l'.Perm l ∧ l'.Pairwise (· ≤ ·) := by
  have e : ns = (ns.map Int.toNat).map fun n : Nat => (n : Int) := by
    rw [List.map_map]
    conv => lhs; rw [← List.map_id ns]
    apply List.map_congr_left
    intro x hx
    obtain ⟨n, _, e⟩ := List.mem_map.mp (h.mem_iff.mp hx)
    show x = ((x.toNat : Nat) : Int)
    rw [← e]
    rfl
  refine ⟨_, e, ?_, ?_⟩
  · have := h.map Int.toNat
    rw [List.map_map] at this
    have e2 : List.map (Int.toNat ∘ fun n : Nat => (n : Int)) l = l := by
      conv => rhs; rw [← List.map_id l]
      apply List.map_congr_left
      intro x _
      rfl
    rw [e2] at this
    exact this
  · refine List.pairwise_map.mpr (hs.imp fun {a b} q => ?_)
    omega
theorem sc_classes : FnScope ["self"] ["self"] (defScope s_Forest_classes) := ⟨rfl, rfl, rfl, by decide +kernel, rfl, by decide +kernel, by decide +kernel⟩
theorem ok_classes {f C Cn : Addr} {fd : FuncData} (F : Fun K "classes" "Forest.classes" s_Forest_classes f fd) (T : Txt K mg C Cn) : FnOk P w K mg base CX0 1 f fd ["self"] (spClasses C) := by
  refine F.ok sc_classes (fun vs H Q E h => ?_) (fun cdv A outer s H vs Q E hr h => ?_)
  · obtain ⟨p, h, m, j, n, st, rfl, _⟩ := h
    rfl
  obtain ⟨p, h, m, j, n, st, rfl, R, k⟩ := h
  refine ⟨_, (pss_one (ps_ret (pe_callTy call_tuple_of (by rfl) T.B.tuple (by decide +kernel) (pa_cons (pe_callB (call_sortedDI rfl) (by rfl) T.B.sorted (by decide +kernel) (pa_cons (pe_fld (pv 0) rfl) pa_nil)) pa_nil)))), ?_⟩
  obtain ⟨dx, hp⟩ := R.ob
  obtain ⟨kvs, hm, hM⟩ := R.ms
  obtain ⟨ks, hks⟩ : ∃ ks : List Nat, kvs.map (·.1) = ks.map ik := by
    refine ⟨kvs.map fun q => match q.1 with | .inl i => i.toNat | .inr _ => 0, ?_⟩
    rw [List.map_map]
    apply List.map_congr_left
    intro q hq
    obtain ⟨k, e, _⟩ := hM.only _ _ (valV_mem hM.nd q hq)
    show q.1 = ik (match q.1 with | .inl i => i.toNat | .inr _ => 0)
    rw [e]
    rfl
  have hlen : ks.length ≤ n := by
    have e := congrArg List.length hks
    rw [List.length_map, List.length_map] at e
    rw [← e]
    exact hM.len
  refine ⟨_, rfl, p, C, dx, _, _, rfl, hp, T.cl, T.nM, fl_members h m j, m, kvs, ks.map fun n : Nat => (n : Int), rfl, .inl hm, ?_, ?_, fun ys q hy1 hy2 hq => ?_⟩
  · rw [List.map_map]
    exact hks
  · rw [List.length_map]
    have := R.sz.1
    omega
  obtain ⟨l, rfl, l1, l2⟩ := sortedNats hy1 hy2
  refine ⟨q, _, rfl, .inl ⟨SqL.of upd_same, fun t ht => k _ t ((Kp.new hq).then (Kp.new ht)) ?_⟩⟩
  have nd : ks.Nodup := by
    have z := hM.nd
    rw [hks] at z
    exact (List.pairwise_map.mp z).imp fun {a b} u v => u (by rw [v])
  have e : l = heads n st := filter_of l2 (l1.nodup_iff.mpr nd) fun x => by
    rw [l1.mem_iff, decide_eq_true_eq]
    have z := hM.keys (ik x)
    rw [hks, List.mem_map] at z
    constructor
    · intro hx
      obtain ⟨k, a, b⟩ := z.mp ⟨x, hx, rfl⟩
      have a : (x : Int) = (k : Int) := Sum.inl.inj a
      have a : x = k := by omega
      rw [a]
      exact b
    · intro hx
      obtain ⟨y, a, b⟩ := z.mpr ⟨x, rfl, hx⟩
      have b : (y : Int) = (x : Int) := Sum.inl.inj b
      have b : y = x := by omega
      rw [← b]
      exact a
  rw [← e]
  show upd _ t _ t = _
  rw [upd_same, nats_ints]
theorem passN {X : Cx} {E : XK} (hs : X.stack = X.env :: X.outer) (hf : X.env.frame = some X.env.locals) (hex : X.ex = []) {E₁ : Value → Shared → Prop}
    (hx : X.xe = fun e s' => wpAny (model X.prog X.w) X.A (leaving X.env e) (fun _ s'' => L2N.CX X.prog X.w X.outer X.H_0 X.s_0 E e s'') E₁ s') : Passes (L2N.CX X.prog X.w) X E := L2N.passes_call (L2N.takes_of hs hf hex hx) fun _ _ _ _ h => h
theorem sc_members : FnScope ["self", "number"] ["self", "number"] (defScope s_Forest_members_of) := ⟨rfl, rfl, rfl, by decide +kernel, rfl, by decide +kernel, by decide +kernel⟩
theorem ok_members {f C Cn f1 : Addr} {fd fd1 : FuncData} (F : Fun K "members_of" "Forest.members_of" s_Forest_members_of f fd) (T : Txt K mg C Cn) (G_Forest_find : FnOk P w K mg base (L2N.CX P w) 2 f1 fd1 ["self", "number"] (spFind C Cn)) (b_Forest_find : Binds K fd1 ["self", "number"] []) (m_Forest_find : Meth K C "find" f1) :
    FnOk P w K mg base (L2N.CX P w) 3 f fd ["self", "number"] (spMembers C Cn) := by
  refine okN F sc_members (fun vs H Q E h => ?_) (fun cdv A outer s H vs Q E hr h => ?_)
  · obtain ⟨p, h, m, j, n, st, v, rfl, _⟩ := h
    rfl
  obtain ⟨p, h, m, j, n, st, v, rfl, R, hv, k, ke⟩ := h
  have hu := hu_of hr
  refine ⟨_, (pss_one (ps_ret (pe_callTy call_tuple_of (by rfl) T.B.tuple (by decide +kernel) (pa_cons (pe_callB GE.cr_sortedT (by rfl) T.B.sorted (by decide +kernel) (pa_cons (pe_dget hu (pe_fld (pv 0) rfl) (pe_meth (pv 0) T.cl m_Forest_find G_Forest_find hr b_Forest_find .nil (passN rfl rfl rfl rfl) (pa_cons (pv 1) pa_nil)) (fun _ _ => rfl)) pa_nil)) pa_nil)))), ?_⟩
  obtain ⟨dx, hp⟩ := R.ob
  obtain ⟨kvs, hm, hM⟩ := R.ms
  refine ⟨_, rfl, p, C, dx, _, _, rfl, hp, T.cl, T.nM, fl_members h m j, _, rfl, p, dx, _, rfl, hp, fl_no h m j (by decide +kernel) (by decide +kernel) (by decide +kernel), _, rfl, ?_⟩
  refine ⟨p, h, m, j, n, st, v, rfl, R, hv, fun i hi e => ?_, ke⟩
  obtain ⟨t, e1, e2⟩ := hM.has (hd st i) (hd_lt st hi) (hd_hd st i)
  refine ⟨m, .ref t, rfl, by rw [← e1]; exact .k (k := ik (hd st i)) hm, t, (mem st (hd st i)).map (fun n : Nat => (n : Int)), rfl, SqT.of (by rw [e2, nats_ints]), fun ys q hy1 hy2 hq => ?_⟩
  obtain ⟨l, rfl, l1, l2⟩ := sortedNats hy1 hy2
  refine ⟨q, _, rfl, .inl ⟨SqL.of upd_same, fun t2 ht => k i hi e _ t2 ((Kp.new hq).then (Kp.new ht)) ?_⟩⟩
  have e3 : l = cls n st (hd st i) := filter_of l2 (l1.nodup_iff.mpr (mem_nodup st (hd_hd st i))) fun x => by
    rw [l1.mem_iff, decide_eq_true_eq]
    exact ⟨fun hx => ⟨mem_lt R.ok (hd_hd st i) (hd_lt st hi) hx, (mem_iff st (hd_hd st i)).mp hx⟩, fun hx => (mem_iff st (hd_hd st i)).mpr hx.2⟩
  rw [← e3]
  show upd _ t2 _ t2 = _
  rw [upd_same, nats_ints]
end
end K15

set_option Elab.async false
set_option maxRecDepth 100000
set_option maxHeartbeats 8000000
namespace K15
open PySem L2
def JoinRes (H : Hp) (st : List Jn) (a b : Nat) (r : V) : Prop := if hd st a = hd st b then r = .non else ∃ t, r = .ref t ∧ TupN H t [lo st (a, b), hi st (a, b)]
def spJoin (C Cn : Addr) : Sp := fun vs H Q E => ∃ (p h m j : Addr) (n : Nat) (st : List Jn) (v w : V) (q : Addr), vs = [.ref p, v, w, .ref q] ∧ FAt C H p h m j n st ∧ SaidAt H q ∧ Numb v ∧ Numb w ∧ st.length < 1000 ∧
  (∀ a b : Nat, a < n → b < n → v = .int (a : Int) → w = .int (b : Int) → ∀ H' r, FAt C H' p h m j n ((a, b) :: st) → Kp H H' [h, m, j] → JoinRes H' st a b r → Q r H') ∧
  (inR v 0 ((n : Int) - 1) = false ∨ inR w 0 ((n : Int) - 1) = false → E (.ref Cn) none H)
theorem labels_set (n : Nat) (f : Nat → Nat) {x : Nat} (v : Nat) : ((List.range n).map f).set x v = (List.range n).map fun y => if y = x then v else f y := by
  apply List.ext_getElem?
  intro i
  rw [List.getElem?_set, List.getElem?_map, List.getElem?_map]
  by_cases c : x = i
  · subst c
    rw [if_pos rfl]
    by_cases d : x < n
    · rw [if_pos (by rw [List.length_map, List.length_range]; exact d), List.getElem?_range d]
      show some v = some (if x = x then v else f x)
      rw [if_pos rfl]
    · rw [if_neg (by rw [List.length_map, List.length_range]; exact d), List.getElem?_eq_none (by rw [List.length_range]; omega)]
      rfl
  · rw [if_neg c]
    by_cases d : i < n
    · rw [List.getElem?_range d]
      show some (f i) = some (if i = x then v else f i)
      rw [if_neg (fun z => c z.symm)]
    · rw [List.getElem?_eq_none (by rw [List.length_range]; omega)]
      rfl
theorem nats_set (l : List Nat) (i v : Nat) : (nats l).set i (V.int (v : Int)) = nats (l.set i v) := by
  unfold nats
  rw [List.map_set]
/-- two numbers, sorted -/
theorem two_sorted {ns : List Int} {x y : Nat} (h : ns.Perm [(x : Int), (y : Int)]) (hs : ns.Pairwise (· ≤ ·)) : ns = [((min x y : Nat) : Int), ((max x y : Nat) : Int)] := by
  obtain ⟨l, rfl, h1, h2⟩ := sortedNats (l := [x, y]) h hs
  have hl := h1.length_eq
  match l, hl with
  | [a, b], _ =>
    have ha := h1.mem_iff (a := x)
    have hb := h1.mem_iff (a := y)
    have hc := h1.mem_iff (a := a)
    have hd := h1.mem_iff (a := b)
    simp only [List.mem_cons, List.not_mem_nil, or_false, true_or, or_true, iff_true, true_iff] at ha hb hc hd
    have le : a ≤ b := by simpa using h2
    have hp : a + b = x + y := by
      have := h1.sum_nat
      simpa using this
    have e1 : a = min x y := by omega
    have e2 : b = max x y := by omega
    rw [e1, e2]
    rfl
theorem FAt.mk2 {C : Addr} {H Hf : Hp} {p h m j : Addr} {n n' : Nat} {st st' : List Jn} (R : FAt C H p h m j n st) (k : Kp H Hf [h, m, j]) {kvs : List (Key × V)} {us : List Addr} (eh : Hf h = some (.lst (nats (labels n' st')))) (em : Hf m = some (.dK kvs)) (M : MemOk Hf kvs n' st')
    (ej : Hf j = some (.lst (us.reverse.map V.ref))) (U : Paired (RowAt Hf) us (rows st')) (ok : Ok n' st') (sz : n' ≤ 60 ∧ st'.length ≤ 1000) : FAt C Hf p h m j n' st' := by
  obtain ⟨dx, hp⟩ := R.ob
  exact ⟨⟨dx, k.ins hp⟩, eh, ⟨kvs, em, M⟩, ⟨us, ej, U⟩, ok, R.hj, sz⟩
theorem hd_eqv {j : Jn} {st : List Jn} (e : hd st j.1 = hd st j.2) (x : Nat) : hd (j :: st) x = hd st x := by
  rw [hd_cons]
  have := (lo_eq_hi st j).mpr e
  split
  · omega
  · rfl
theorem labels_eqv {st st' : List Jn} {n : Nat} (h : ∀ x, hd st' x = hd st x) : labels n st' = labels n st := by
  unfold labels
  exact List.map_congr_left fun x _ => h x
section
variable {P : Program} {w : World} {K : PySem.W.Frag} {mg : Str → Option Value} {base : Heap}
theorem sc_join : FnScope ["self", "one", "other", "reason", "kept", "gone", "moved", "number"] ["self", "one", "other", "reason"] (defScope s_Forest_join) := ⟨rfl, rfl, rfl, by decide +kernel, rfl, by decide +kernel, by decide +kernel⟩
theorem ok_join {f C Cn f1 : Addr} {fd fd1 : FuncData} (F : Fun K "join" "Forest.join" s_Forest_join f fd) (T : Txt K mg C Cn) (G_Forest_find : FnOk P w K mg base (L2N.CX P w) 2 f1 fd1 ["self", "number"] (spFind C Cn)) (b_Forest_find : Binds K fd1 ["self", "number"] []) (m_Forest_find : Meth K C "find" f1) :
    FnOk P w K mg base (L2N.CX P w) 3 f fd ["self", "one", "other", "reason"] (spJoin C Cn) := by
  refine okN F sc_join (fun vs H Q E h => ?_) (fun cdv A outer s H vs Q E hr h => ?_)
  · obtain ⟨p, h, m, j, n, st, v, v2, q, rfl, _⟩ := h
    rfl
  obtain ⟨p, h, m, j, n, st, v, v2, q, rfl, R, hq, hv, hw, len, k, ke⟩ := h
  have hu := hu_of hr
  have nd := sc_join.nd
  refine ⟨_, (pss_cons (ps_asg (pe_callB cr_sortedI (by rfl) T.B.sorted (by decide +kernel) (pa_cons (pe_lst (pa_cons (pe_meth (pv 0) T.cl m_Forest_find G_Forest_find hr b_Forest_find .nil (passN rfl rfl rfl rfl) (pa_cons (pv 1) pa_nil)) (pa_cons (pe_meth (pv 0) T.cl m_Forest_find G_Forest_find hr b_Forest_find .nil (passN rfl rfl rfl rfl) (pa_cons (pv 2) pa_nil)) pa_nil))) pa_nil)) (pg_lst rfl (pgs_cons (pg_name (i := 4) nd rfl (.inl rfl)) (pgs_cons (pg_name (i := 5) nd rfl (.inl rfl)) pgs_nil))))
    (pss_cons (ps_if (pt_cmpR op_eq (pv 4) (pv 5) (nomark _)) 
      (pss_cons (ps_expr (pe_bm PySem.F.plainAttrs_list PySem.F.slot_list_append PySem.F.type_list_append mt_append (pe_fld (pv 0) rfl) (pa_cons (pe_tup (pa_cons (pv 1) (pa_cons (pv 2) (pa_cons (pv 3) (pa_cons (pe_tup pa_nil) pa_nil))))) pa_nil)))
      (pss_one (ps_ret pe_non))) pss_nil)
    (pss_cons (ps_set (i := 6) nd rfl (.inl rfl) (pe_dpop1 (pe_fld (pv 0) rfl) (pv 5) ⟨rfl, rfl, rfl, rfl⟩))
    (pss_cons (ps_for PassesOwn.leaving rfl (pi_tup (pv 6)) (pg_name (i := 7) nd rfl (.inl rfl)) 
      (pss_one (ps_asg (pv 4) (pg_sub (pe_fld (pv 0) rfl) (pv 7) set_list))))
    (pss_cons (ps_dput hu (pe_fld (pv 0) rfl) (pv 4) (pe_tup (StX.pa_star (pe_dget hu (pe_fld (pv 0) rfl) (pv 4) (fun _ _ => rfl)) (StX.pa_star (pv 6) pa_nil))) rfl)
    (pss_cons (ps_expr (pe_bm PySem.F.plainAttrs_list PySem.F.slot_list_append PySem.F.type_list_append mt_append (pe_fld (pv 0) rfl) (pa_cons (pe_tup (pa_cons (pv 1) (pa_cons (pv 2) (pa_cons (pv 3) (pa_cons (pv 6) pa_nil))))) pa_nil)))
    (pss_one (ps_ret (pe_tup (pa_cons (pv 4) (pa_cons (pv 5) pa_nil))))))))))), ?_⟩
  obtain ⟨dx, hp⟩ := R.ob
  refine ⟨_, rfl, p, dx, _, rfl, hp, fl_no h m j (by decide +kernel) (by decide +kernel) (by decide +kernel), _, rfl, ?_⟩
  refine ⟨p, h, m, j, n, st, v, rfl, R, hv, fun a ha ea => ?_, fun z => ke (.inl z)⟩
  refine ⟨_, rfl, p, dx, _, rfl, hp, fl_no h m j (by decide +kernel) (by decide +kernel) (by decide +kernel), _, rfl, ?_⟩
  refine ⟨p, h, m, j, n, st, v2, rfl, R, hw, fun b hb eb => ?_, fun z => ke (.inr z)⟩
  refine ⟨by show 2 ≤ sizeLine; decide, fun l hl => ⟨l, [(hd st a : Int), (hd st b : Int)], rfl, SqL.of upd_same, fun ys s0 hy1 hy2 hs => ?_⟩⟩
  obtain rfl := two_sorted hy1 hy2
  have k0 : Kp H (upd (upd H l (.lst [.int (hd st a : Int), .int (hd st b : Int)])) s0 (.lst ([((min (hd st a) (hd st b) : Nat) : Int), ((max (hd st a) (hd st b) : Nat) : Int)].map V.int))) [] := (Kp.new hl).then (Kp.new hs)
  refine ⟨s0, _, rfl, SqL.of upd_same, rfl, _, _, rfl, _, _, rfl, rfl, ?_⟩
  generalize upd (upd H l (.lst [.int (hd st a : Int), .int (hd st b : Int)])) s0 (.lst ([((min (hd st a) (hd st b) : Nat) : Int), ((max (hd st a) (hd st b) : Nat) : Int)].map V.int)) = G at k0 ⊢
  have RG := R.more k0
  have hpG := k0.ins hp
  have qG := k0.tup hq
  obtain ⟨kvs, hm, hM⟩ := RG.ms
  obtain ⟨us, hj, hU⟩ := RG.js
  have ul : us.length = st.length := (Paired.length hU).trans (rows_len st)
  subst ea eb
  refine ⟨_, rfl, _, rfl, rfl, _, rfl, ite2 (fun e => ?_) (fun ne => ?_)⟩
  · -- the same class
    have e : hd st a = hd st b := by
      have e := V.int.inj (of_decide_eq_true e)
      omega
    refine ⟨_, rfl, p, C, dx, _, _, rfl, hpG, T.cl, T.nJ, fl_joins h m j, .inl ⟨rfl, _, SqL.of hj⟩, _, rfl, _, rfl, _, rfl, Nat.zero_le _, fun z hz => ?_⟩
    refine ⟨(by show 4 ≤ sizeLine; decide), fun u hu => ?_⟩
    have k1 := (Kp.new (o := .tup []) hz).then (Kp.new (o := .tup [V.int (a : Int), V.int (b : Int), V.ref q, V.ref z]) hu)
    have zz : upd (upd G z (.tup [])) u (.tup [V.int (a : Int), V.int (b : Int), V.ref q, V.ref z]) z = some (.tup []) := (Kp.new hu).tup upd_same
    have uu : upd (upd G z (.tup [])) u (.tup [V.int (a : Int), V.int (b : Int), V.ref q, V.ref z]) u = some (.tup [V.int (a : Int), V.int (b : Int), V.ref q, V.ref z]) := upd_same
    generalize upd (upd G z (.tup [])) u (.tup [V.int (a : Int), V.int (b : Int), V.ref q, V.ref z]) = G1 at k1 zz uu ⊢
    have hj1 := k1.keep _ _ hj (by simp)
    refine ⟨j, _, _, rfl, rfl, hj1, Nat.lt_of_le_of_lt (show _ ≤ 1000 by simp; omega) (by decide), ?_⟩
    refine k a b ha hb rfl rfl _ .non ?_ ?_ (by unfold JoinRes; rw [if_pos e])
    · have hd' : ∀ x, hd ((a, b) :: st) x = hd st x := hd_eqv (j := (a, b)) e
      have hM' : MemOk G kvs n ((a, b) :: st) := ⟨hM.nd, fun x l y => by
        rw [hd'] at y
        obtain ⟨t, t1, t2⟩ := hM.has x l y
        exact ⟨t, t1, by rw [mem_cons, if_pos e]; exact t2⟩, fun key v y => by
        obtain ⟨x, x1, x2, x3⟩ := hM.only key v y
        exact ⟨x, x1, x2, by rw [hd']; exact x3⟩⟩
      have kj : Kp G1 (upd G1 j (.lst (us.reverse.map V.ref ++ [V.ref u]))) [j] := Kp.lst hj1
      have kG : Kp G (upd G1 j (.lst (us.reverse.map V.ref ++ [V.ref u]))) [h, m, j] := k1.trans kj (by simp) (by simp) RG.kind
      refine RG.mk2 kG (kvs := kvs) (us := u :: us) ?_ ?_ (hM'.kp kG) ?_ ?_ ?_ ⟨RG.sz.1, len⟩
      · rw [labels_eqv hd', upd_ne R.hj]
        exact k1.keep _ _ RG.hs (by simp)
      · rw [upd_ne RG.mj]
        exact k1.keep _ _ hm (by simp)
      · rw [upd_same]
        simp
      · refine .cons ⟨q, z, kj.tup uu, kG.tup qG, ?_⟩ (rowsKp kG hU)
        show upd G1 j _ z = some (HO.tup (nats (mvd st (a, b))))
        rw [show mvd st (a, b) = [] from if_pos e]
        exact kj.tup zz
      · intro x hx
        rcases List.mem_cons.mp hx with y | y
        · rw [y]
          exact ⟨ha, hb⟩
        · exact RG.ok x y
    · exact (k0.then k1).trans (Kp.lst hj1) (by simp) (by simp) R.kind
  · have ne : hd st a ≠ hd st b := fun e => ne (decide_eq_true (congrArg V.int (by omega)))
    obtain ⟨th, th1, th2⟩ := hM.has (hi st (a, b)) (by have := hd_lt st ha; have := hd_lt st hb; show max (hd st a) (hd st b) < n; omega) (hd_hi st (a, b))
    refine ⟨_, rfl, p, C, dx, _, _, rfl, hpG, T.cl, T.nM, fl_members h m j, m, rfl, .inl ⟨_, Rd.of hm⟩, _, rfl, kvs, ik (hi st (a, b)), _, hm, rfl, th1, ?_⟩
    generalize hG1 : upd G m (.dK (dropK kvs (ik (hi st (a, b))))) = G1
    have k1 : Kp G G1 [m] := by rw [← hG1]; exact Kp.dic hm
    refine ⟨_, rfl, th, rfl, ⟨_, SqT.of (k1.tup th2)⟩, ?_⟩
    have hh1 : G1 h = some (.lst (nats (labels n st))) := k1.keep _ _ RG.hs (nm1 RG.mh.symm)
    have hth1 := k1.tup th2
    have hM1 := hM.kp k1
    have hp1 := k1.ins hpG
    -- for number in moved: self.heads[number] = kept
    refine for_tup (K := K) (a := th) (xs := nats (mem st (hi st (a, b))))
      (fun i σ H1 => ∃ vn : Option V, σ = [some (.ref p), some (.int (a : Int)), some (.int (b : Int)), some (.ref q), some (.int ((lo st (a, b) : Nat) : Int)), some (.int ((hi st (a, b) : Nat) : Int)), some (.ref th), vn] ∧
        H1 = upd G1 h (.lst (nats ((List.range n).map fun x => if x ∈ (mem st (hi st (a, b))).take i then lo st (a, b) else hd st x))))
      ⟨none, rfl, ?_⟩ (fun i σ H1 _ ⟨vn, _, e⟩ => ?_) ?_ ?_
    · have e : (fun x => if x ∈ (mem st (hi st (a, b))).take 0 then lo st (a, b) else hd st x) = hd st := by
        funext x
        rw [List.take_zero, if_neg (by simp)]
      rw [e]
      show G1 = upd G1 h (.lst (nats (labels n st)))
      rw [updId hh1]
    · rw [e]
      exact SqT.of ((Kp.lst hh1).tup hth1)
    · rintro i y σ H1 hi' ⟨vn, rfl, rfl⟩
      obtain ⟨x, rfl, hx⟩ := nats_at hi'
      have hxm : x ∈ mem st (hi st (a, b)) := List.mem_of_getElem? hx
      have hxn : x < n := mem_lt RG.ok (hd_hi st (a, b)) (by have := hd_lt st ha; have := hd_lt st hb; show max (hd st a) (hd st b) < n; omega) hxm
      refine ⟨_, rfl, _, rfl, p, C, dx, _, _, rfl, (Kp.lst hh1).ins hp1, T.cl, T.nH, fl_heads h m j, _, rfl, h, _, _, x, rfl, rfl, upd_same, ?_, ?_⟩
      · unfold ixN
        rw [nats_len, List.length_map, List.length_range, if_pos (Int.natCast_nonneg x), if_pos (by omega)]
        rfl
      · refine ⟨_, rfl, ?_⟩
        rw [upd_upd, nats_set, labels_set]
        congr 3
        apply List.map_congr_left
        intro y _
        have tk : (mem st (hi st (a, b))).take (i + 1) = (mem st (hi st (a, b))).take i ++ [x] := by
          rw [List.take_succ, hx]
          rfl
        rw [tk]
        by_cases c : y = x
        · rw [if_pos c, if_pos (by rw [c]; simp)]
        · rw [if_neg c]
          by_cases d : y ∈ (mem st (hi st (a, b))).take i
          · rw [if_pos d, if_pos (List.mem_append_left _ d)]
          · rw [if_neg d, if_neg (by simp [c, d])]
    · rintro σ H1 ⟨vn, rfl, rfl⟩
      have el : (List.range n).map (fun x => if x ∈ (mem st (hi st (a, b))).take (nats (mem st (hi st (a, b)))).length then lo st (a, b) else hd st x) = labels n ((a, b) :: st) := by
        unfold labels
        apply List.map_congr_left
        intro x _
        rw [nats_len, List.take_length, hd_cons]
        by_cases c : hd st x = hi st (a, b)
        · rw [if_pos c, if_pos ((mem_iff st (hd_hi st (a, b))).mpr c)]
        · rw [if_neg c, if_neg (fun z => c ((mem_iff st (hd_hi st (a, b))).mp z))]
      rw [el]
      generalize hG2 : upd G1 h (.lst (nats (labels n ((a, b) :: st)))) = G2
      have k2 : Kp G1 G2 [h] := by rw [← hG2]; exact Kp.lst hh1
      have hh2 : G2 h = some (.lst (nats (labels n ((a, b) :: st)))) := by rw [← hG2, upd_same]
      have hm1 : G1 m = some (.dK (dropK kvs (ik (hi st (a, b))))) := by rw [← hG1, upd_same]
      have hm2 := k2.keep _ _ hm1 (nm1 RG.mh)
      have hp2 := k2.ins hp1
      have nlh : lo st (a, b) ≠ hi st (a, b) := fun e => ne ((lo_eq_hi st (a, b)).mp e)
      obtain ⟨tl, tl1, tl2⟩ := hM.has (lo st (a, b)) (by have := hd_lt st ha; have := hd_lt st hb; show min (hd st a) (hd st b) < n; omega) (hd_lo st (a, b))
      have tl3 := k2.tup (k1.tup tl2)
      have th3 := k2.tup hth1
      have tld : valV (dropK kvs (ik (hi st (a, b)))) (ik (lo st (a, b))) = some (.ref tl) := by
        rw [valV_drop, if_neg (fun z => nlh (by have z : ((lo st (a, b) : Nat) : Int) = ((hi st (a, b) : Nat) : Int) := Sum.inl.inj z; omega))]
        exact tl1
      -- self.members[kept] = (*self.members[kept], *moved)
      have hilt : hi st (a, b) < n := by have := hd_lt st ha; have := hd_lt st hb; show max (hd st a) (hd st b) < n; omega
      have lolt : lo st (a, b) < n := by have := lo_le_hi st (a, b); omega
      have l1 := mem_len RG.ok (hd_lo st (a, b)) lolt
      have l2 := mem_len RG.ok (hd_hi st (a, b)) hilt
      have n60 := RG.sz.1
      refine ⟨_, rfl, p, C, dx, _, _, rfl, hp2, T.cl, T.nM, fl_members h m j, _, rfl, m, .ref tl, rfl, by rw [← tld]; exact .k (k := ik (lo st (a, b))) hm2, tl, _, rfl, .inl (SqT.of tl3), _, rfl, th, _, rfl, .inl (SqT.of th3), ?_, fun tt htt => ?_⟩
      · show (nats _ ++ (nats _ ++ [])).length ≤ sizeLine
        rw [List.append_nil, List.length_append, nats_len, nats_len]
        exact Nat.le_trans (show _ ≤ 120 by omega) (by decide)
      have ett : nats (mem st (lo st (a, b))) ++ (nats (mem st (hi st (a, b))) ++ []) = nats (mem ((a, b) :: st) (lo st (a, b))) := by
        rw [List.append_nil, nats_app, mem_cons, if_neg ne, if_pos rfl]
      rw [ett]
      generalize hG3 : upd G2 tt (.tup (nats (mem ((a, b) :: st) (lo st (a, b))))) = G3
      have k3 : Kp G2 G3 [] := by rw [← hG3]; exact Kp.new htt
      have htt3 : G3 tt = some (.tup (nats (mem ((a, b) :: st) (lo st (a, b))))) := by rw [← hG3, upd_same]
      have hp3 := k3.ins hp2
      have hm3 := k3.keep _ _ hm2 (by simp)
      have ld : (dropK kvs (ik (hi st (a, b)))).length < sizeLine := Nat.lt_of_le_of_lt (Nat.le_trans (dropK_le _ _) (Nat.le_trans hM.len n60)) (by decide)
      refine ⟨_, rfl, p, C, dx, _, _, rfl, hp3, T.cl, T.nM, fl_members h m j, _, rfl, m, _, rfl, .k (k := ik (lo st (a, b))) hm3 ld, ?_⟩
      generalize hG4 : upd G3 m (.dK (putK (dropK kvs (ik (hi st (a, b)))) (ik (lo st (a, b))) (.ref tt))) = G4
      have k4 : Kp G3 G4 [m] := by rw [← hG4]; exact Kp.dic hm3
      have hp4 := k4.ins hp3
      have hj2 : G3 j = some (.lst (us.reverse.map V.ref)) := k3.keep _ _ (k2.keep _ _ (k1.keep _ _ hj (nm1 RG.mj.symm)) (nm1 RG.hj.symm)) (by simp)
      have hj4 := k4.keep _ _ hj2 (nm1 RG.mj.symm)
      -- self.joins.append(..)
      refine ⟨_, rfl, p, C, dx, _, _, rfl, hp4, T.cl, T.nJ, fl_joins h m j, .inl ⟨rfl, _, SqL.of hj4⟩, _, rfl, _, rfl, _, rfl, _, rfl, (by show 4 ≤ sizeLine; decide), fun u hu => ?_⟩
      have k5 : Kp G4 (upd G4 u (.tup [V.int (a : Int), V.int (b : Int), V.ref q, V.ref th])) [] := Kp.new hu
      have uu : upd G4 u (.tup [V.int (a : Int), V.int (b : Int), V.ref q, V.ref th]) u = some (.tup [V.int (a : Int), V.int (b : Int), V.ref q, V.ref th]) := upd_same
      generalize upd G4 u (.tup [V.int (a : Int), V.int (b : Int), V.ref q, V.ref th]) = G5 at k5 uu ⊢
      have hj5 := k5.keep _ _ hj4 (by simp)
      refine ⟨j, _, _, rfl, rfl, hj5, Nat.lt_of_le_of_lt (show _ ≤ 1000 by simp; omega) (by decide), ?_⟩
      generalize hG6 : upd G5 j (.lst (us.reverse.map V.ref ++ [V.ref u])) = G6
      have k6 : Kp G5 G6 [j] := by rw [← hG6]; exact Kp.lst hj5
      refine ⟨_, rfl, _, rfl, (by show 2 ≤ sizeLine; decide), fun r hr' => ?_⟩
      have k7 : Kp G6 (upd G6 r (.tup [V.int ((lo st (a, b) : Nat) : Int), V.int ((hi st (a, b) : Nat) : Int)])) [] := Kp.new hr'
      have hr7 : upd G6 r (.tup [V.int ((lo st (a, b) : Nat) : Int), V.int ((hi st (a, b) : Nat) : Int)]) r = some (.tup [V.int ((lo st (a, b) : Nat) : Int), V.int ((hi st (a, b) : Nat) : Int)]) := upd_same
      generalize upd G6 r (.tup [V.int ((lo st (a, b) : Nat) : Int), V.int ((hi st (a, b) : Nat) : Int)]) = G7 at k7 hr7 ⊢
      have kG2 : Kp G G2 [h, m] := k1.trans k2 (by simp) (by simp) fun x hx => RG.kind x (by simp at hx ⊢; rcases hx with e | e <;> simp [e])
      have kG4 : Kp G G4 [h, m] := (kG2.then k3).trans k4 (by simp) (by simp) kG2.kind
      have kG7 : Kp G G7 [h, m, j] := ((kG4.then k5).trans k6 (by simp) (by simp) RG.kind).then k7
      refine k a b ha hb rfl rfl G7 (.ref r) ?_ (k0.trans kG7 (by simp) (by simp) R.kind) (by unfold JoinRes; rw [if_neg ne]; exact ⟨r, rfl, hr7⟩)
      refine RG.mk2 kG7 (kvs := putK (dropK kvs (ik (hi st (a, b)))) (ik (lo st (a, b))) (.ref tt)) (us := u :: us) ?_ ?_ ?_ ?_ ?_ ?_ ⟨RG.sz.1, len⟩
      · exact k7.keep _ _ (k6.keep _ _ (k5.keep _ _ (k4.keep _ _ (k3.keep _ _ hh2 (by simp)) (nm1 RG.mh.symm)) (by simp)) (nm1 RG.hj)) (by simp)
      · exact k7.keep _ _ (k6.keep _ _ (k5.keep _ _ (by rw [← hG4, upd_same]) (by simp)) (nm1 RG.mj)) (by simp)
      · have ikn : ∀ {x y : Nat}, x ≠ y → ik x ≠ ik y := fun {x y} h z => h (by have z : (x : Int) = (y : Int) := Sum.inl.inj z; omega)
        refine ⟨nd_put (nd_dropK hM.nd), fun x l y => ?_, fun key v y => ?_⟩
        · obtain ⟨y1, y2⟩ := head_before y
          have y2 := y2 ne
          rw [valV_put, valV_drop, mem_cons, if_neg ne]
          by_cases c : x = lo st (a, b)
          · refine ⟨tt, if_pos (by rw [c]), ?_⟩
            rw [if_pos c, c]
            have e := k7.tup (k6.tup (k5.tup (k4.tup htt3)))
            rw [mem_cons, if_neg ne, if_pos rfl] at e
            exact e
          · obtain ⟨t, t1, t2⟩ := hM.has x l y1
            refine ⟨t, ?_, ?_⟩
            · rw [if_neg (ikn c), if_neg (ikn y2)]
              exact t1
            · rw [if_neg c]
              exact kG7.tup t2
        · rw [valV_put] at y
          by_cases c : key = ik (lo st (a, b))
          · exact ⟨_, c, lolt, head_after (hd_lo st (a, b)) fun _ => nlh⟩
          · rw [if_neg c, valV_drop] at y
            by_cases d : key = ik (hi st (a, b))
            · rw [if_pos d] at y
              cases y
            · rw [if_neg d] at y
              obtain ⟨x, x1, x2, x3⟩ := hM.only key v y
              exact ⟨x, x1, x2, head_after x3 fun _ z => d (by rw [x1, z])⟩
      · refine k7.keep _ _ ?_ (by simp)
        rw [← hG6, upd_same]
        simp
      · refine .cons ⟨q, th, k7.tup (k6.tup uu), kG7.tup qG, ?_⟩ (rowsKp kG7 hU)
        show G7 th = some (HO.tup (nats (mvd st (a, b))))
        rw [show mvd st (a, b) = mem st (hi st (a, b)) from if_neg ne]
        exact kG7.tup th2
      · intro x hx
        rcases List.mem_cons.mp hx with y | y
        · rw [y]
          exact ⟨ha, hb⟩
        · exact RG.ok x y
end
end K15

set_option Elab.async false
set_option maxRecDepth 100000
set_option maxHeartbeats 8000000
namespace K15
open PySem L2
def spBack (C : Addr) : Sp := fun vs H Q _ => ∃ (p h m j : Addr) (n : Nat) (st : List Jn) (c n' : Nat), vs = [.ref p, .int (c : Int), .int (n' : Int)] ∧ FAt C H p h m j n st ∧ c ≤ st.length ∧ n' ≤ n ∧ Ok n' (st.drop (st.length - c)) ∧
  ∀ H', FAt C H' p h m j n' (st.drop (st.length - c)) → Kp H H' [h, m, j] → Q .non H'
theorem hu2_of {A : Around} {k : Nat} (hr : Room k A) : A.units + 2 < cLine := Nat.lt_of_le_of_lt (Nat.add_le_add_left (by decide : 2 ≤ 64) _) hr.units
section
variable {P : Program} {w : World} {K : PySem.W.Frag} {mg : Str → Option Value} {base : Heap}
theorem sc_back : FnScope ["self", "joins", "numbers", "moved", "gone", "kept", "number"] ["self", "joins", "numbers"] (defScope s_Forest_back) := ⟨rfl, rfl, rfl, by decide +kernel, rfl, by decide +kernel, by decide +kernel⟩
theorem ok_back {f C Cn : Addr} {fd : FuncData} (F : Fun K "back" "Forest.back" s_Forest_back f fd) (T : Txt K mg C Cn) : FnOk P w K mg base CX0 1 f fd ["self", "joins", "numbers"] (spBack C) := by
  refine F.ok sc_back (fun vs H Q E h => ?_) (fun cdv A outer s H vs Q E hr h => ?_)
  · obtain ⟨p, h, m, j, n, st, c, n', rfl, _⟩ := h
    rfl
  obtain ⟨p, h, m, j, n, st, c, n', rfl, R, cl, nl, ok', go⟩ := h
  have hu := hu_of hr
  have hu2 := hu2_of hr
  have nd := sc_back.nd
  refine ⟨_, (pss_cons (ps_while PassesOwn.never (pt_cmpR op_gt (pe_callB call_len_seq (by rfl) T.B.len (by decide +kernel) (pa_cons (pe_fld (pv 0) rfl) pa_nil)) (pv 1) (nomark _)) 
      (pss_cons (ps_set (i := 3) nd rfl (.inl rfl) (pe_ix ix_tup (pe_bm0 PySem.F.plainAttrs_list PySem.F.slot_list_pop PySem.F.type_list_pop mt_pop (pe_fld (pv 0) rfl)) pe_int (fun _ _ => rfl)))
      (pss_one (ps_if (pt_cmpR op_gt (pe_callB call_len_seq (by rfl) T.B.len (by decide +kernel) (pa_cons (pv 3) pa_nil)) pe_int (nomark _)) 
        (pss_cons (ps_set (i := 4) nd rfl (.inl rfl) (pe_callB (GE.cr_minT rfl hu2) (by rfl) T.B.min (by decide +kernel) (pa_cons (pv 3) pa_nil)))
        (pss_cons (ps_set (i := 5) nd rfl (.inl rfl) (pe_ix ix_list (pe_fld (pv 0) rfl) (pv 4) (fun _ _ => rfl)))
        (pss_cons (ps_dput hu (pe_fld (pv 0) rfl) (pv 5) (pe_slice sl_tup (pe_dget hu (pe_fld (pv 0) rfl) (pv 5) (fun _ _ => rfl)) po_none (po_some (pe_op op_sub (pe_callB call_len_seq (by rfl) T.B.len (by decide +kernel) (pa_cons (pe_dget hu (pe_fld (pv 0) rfl) (pv 5) (fun _ _ => rfl)) pa_nil)) (pe_callB call_len_seq (by rfl) T.B.len (by decide +kernel) (pa_cons (pv 3) pa_nil))))) rfl)
        (pss_cons (ps_dput hu (pe_fld (pv 0) rfl) (pv 4) (pv 3) rfl)
        (pss_one (ps_for PassesOwn.never rfl (pi_tup (pv 3)) (pg_name (i := 6) nd rfl (.inl rfl)) 
          (pss_one (ps_asg (pv 4) (pg_sub (pe_fld (pv 0) rfl) (pv 6) set_list))))))))) pss_nil))))
    (pss_one (ps_while PassesOwn.never (pt_cmpR op_gt (pe_callB call_len_seq (by rfl) T.B.len (by decide +kernel) (pa_cons (pe_fld (pv 0) rfl) pa_nil)) (pv 2) (nomark _)) 
      (pss_one (ps_expr (pe_dpop1 (pe_fld (pv 0) rfl) (pe_bm0 PySem.F.plainAttrs_list PySem.F.slot_list_pop PySem.F.type_list_pop mt_pop (pe_fld (pv 0) rfl)) ⟨rfl, rfl, rfl, rfl⟩)))))), ?_⟩
  refine ⟨fun i σ' H' => ∃ (st1 : List Jn) (v3 v4 v5 v6 : Option V), σ' = [some (.ref p), some (.int (c : Int)), some (.int (n' : Int)), v3, v4, v5, v6] ∧ st1.length = i ∧ c ≤ i ∧ FAt C H' p h m j n st1 ∧ Kp H H' [h, m, j] ∧ st1.drop (i - c) = st.drop (st.length - c),
    ⟨st.length, st, none, none, none, none, rfl, rfl, cl, R, ⟨fun _ _ e _ => e, R.kind⟩, rfl⟩, ?_⟩
  rintro i σ' H1 ⟨st1, v3, v4, v5, v6, rfl, ei, ci, R1, kp, ed⟩
  obtain ⟨dx, hp⟩ := R1.ob
  obtain ⟨kvs, hm, hM⟩ := R1.ms
  obtain ⟨us, hj, hU⟩ := R1.js
  have ul : us.length = st1.length := (Paired.length hU).trans (rows_len st1)
  refine ⟨_, rfl, p, C, dx, _, _, rfl, hp, T.cl, T.nJ, fl_joins h m j, j, _, rfl, .inl (SqL.of hj), _, rfl, _, _, rfl, rfl, _, rfl, ?_⟩
  rw [List.length_map, List.length_reverse, ul, ei]
  refine ite2 (fun lt => ?_) (fun ge => ?_)
  · have lt := of_decide_eq_true lt
    cases st1 with
    | nil =>
      have : i = 0 := ei.symm
      omega
    | cons ab st2 =>
      obtain ⟨a, b⟩ := ab
      cases hU with
      | @cons u _ us2 _ hrow hU =>
      have ei : st2.length + 1 = i := ei
      refine ⟨fun σ2 H2 => ∃ (st1 : List Jn) (v3 v4 v5 v6 : Option V), σ2 = [some (.ref p), some (.int (c : Int)), some (.int (n' : Int)), v3, v4, v5, v6] ∧ st1.length = st2.length ∧ c ≤ st2.length ∧ FAt C H2 p h m j n st1 ∧ Kp H H2 [h, m, j] ∧ st1.drop (st2.length - c) = st.drop (st.length - c), fun σ2 H2 hN => ⟨st2.length, by omega, hN⟩, ?_⟩
      have hj' : H1 j = some (.lst (us2.reverse.map V.ref ++ [V.ref u])) := by
        rw [hj, List.reverse_cons, List.map_append]
        rfl
      obtain ⟨q, mo, hu1, hq1, hmo⟩ := hrow
      refine ⟨_, rfl, p, C, dx, _, _, rfl, hp, T.cl, T.nJ, fl_joins h m j, .inl ⟨rfl, _, SqL.of hj'⟩, j, _, V.ref u, rfl, rfl, hj', by simp, ?_⟩
      rw [List.dropLast_concat]
      generalize hG1 : upd H1 j (.lst (us2.reverse.map V.ref)) = G1
      have k1 : Kp H1 G1 [j] := by rw [← hG1]; exact Kp.lst hj'
      have hj1 : G1 j = some (.lst (us2.reverse.map V.ref)) := by rw [← hG1, upd_same]
      refine ⟨u, _, 3, .ref mo, rfl, rfl, SqT.of (k1.tup hu1), at_of (j := 3) rfl rfl, ?_⟩
      have hmo1 := k1.tup hmo
      refine ⟨_, rfl, mo, _, rfl, .inr (SqT.of hmo1), _, _, rfl, rfl, _, rfl, ?_⟩
      rw [nats_len]
      have dr : st2.drop (st2.length - c) = st.drop (st.length - c) := by
        rw [← ed, ← ei, show st2.length + 1 - c = (st2.length - c) + 1 by omega]
        rfl
      have ok2 := R1.ok.tail
      have sz2 : n ≤ 60 ∧ st2.length ≤ 1000 := ⟨R1.sz.1, by have := R1.sz.2; simp at this; omega⟩
      refine ite2 (fun pos => ?_) (fun npos => ?_)
      · have pos : (0 : Int) < (((mvd st2 (a, b)).length : Nat) : Int) := of_decide_eq_true pos
        have ne : hd st2 a ≠ hd st2 b := fun e => by
          rw [show mvd st2 (a, b) = [] from if_pos e] at pos
          exact absurd pos (by decide)
        have emv : mvd st2 (a, b) = mem st2 (hi st2 (a, b)) := if_neg ne
        have hmo1 : G1 mo = some (.tup (nats (mvd st2 (a, b)))) := hmo1
        rw [emv] at hmo1
        have nlh : lo st2 (a, b) ≠ hi st2 (a, b) := fun e => ne ((lo_eq_hi st2 (a, b)).mp e)
        have hab := R1.ok.head
        have hilt : hi st2 (a, b) < n := by have := hd_lt st2 (show a < n from hab.1); have := hd_lt st2 (show b < n from hab.2); show max (hd st2 a) (hd st2 b) < n; omega
        have lolt : lo st2 (a, b) < n := by have := lo_le_hi st2 (a, b); omega
        have hlo' : hd ((a, b) :: st2) (lo st2 (a, b)) = lo st2 (a, b) := head_after (hd_lo st2 (a, b)) fun _ => nlh
        have hhi' : hd ((a, b) :: st2) (hi st2 (a, b)) = lo st2 (a, b) := by rw [hd_cons, hd_hi, if_pos rfl]
        have hp1 := k1.ins hp
        have hm1 : G1 m = some (.dK kvs) := k1.keep _ _ hm (nm1 R1.mj)
        have hh1 : G1 h = some (.lst (nats (labels n ((a, b) :: st2)))) := k1.keep _ _ R1.hs (nm1 R1.hj)
        -- gone = min(moved)
        refine ⟨_, rfl, mo, (mem st2 (hi st2 (a, b))).map (fun n : Nat => (n : Int)), rfl, SqT.of (by rw [hmo1, nats_ints]), ?_, fun g hg1 hg2 => ?_⟩
        · rw [List.length_map]
          exact List.length_pos_of_mem (mem_self st2 (hd_hi st2 (a, b)))
        have eg : g = ((hi st2 (a, b) : Nat) : Int) := by
          obtain ⟨x, hx, rfl⟩ := List.mem_map.mp hg1
          have h1 := hg2 ((hi st2 (a, b) : Nat) : Int) (List.mem_map.mpr ⟨_, mem_self st2 (hd_hi st2 (a, b)), rfl⟩)
          rw [mem_iff st2 (hd_hi st2 (a, b))] at hx
          have := hd_le st2 x
          omega
        subst eg
        -- kept = self.heads[gone]
        refine ⟨_, rfl, p, C, dx, _, _, rfl, hp1, T.cl, T.nH, fl_heads h m j, _, rfl, h, _, _, _, rfl, rfl, SqL.of hh1, at_of (j := hi st2 (a, b)) rfl (nats_get (labels_get hilt)), ?_⟩
        rw [hhi']
        -- self.members[kept] = self.members[kept][..]
        obtain ⟨tl, tl1, tl2⟩ := hM.has (lo st2 (a, b)) lolt hlo'
        have tl2 := k1.tup tl2
        rw [mem_cons, if_neg ne, if_pos rfl] at tl2
        have dget : DGet G1 m (.int ((lo st2 (a, b) : Nat) : Int)) (some (.ref tl)) := by rw [← tl1]; exact .k (k := ik (lo st2 (a, b))) hm1
        refine ⟨_, rfl, p, C, dx, _, _, rfl, hp1, T.cl, T.nM, fl_members h m j, _, rfl, m, .ref tl, rfl, dget, ?_⟩
        refine ⟨_, rfl, p, C, dx, _, _, rfl, hp1, T.cl, T.nM, fl_members h m j, _, rfl, m, .ref tl, rfl, dget, tl, _, rfl, .inr (SqT.of tl2), _, rfl, mo, _, rfl, .inr (SqT.of hmo1), _, _, rfl, rfl, _, rfl, tl, _, rfl, SqT.of tl2, ?_, fun t2 ht2 => ?_⟩
        · intro z
          have z := z.2
          have lp : 0 < (mem st2 (hi st2 (a, b))).length := List.length_pos_of_mem (mem_self st2 (hd_hi st2 (a, b)))
          rw [show (((nats (mem st2 (lo st2 (a, b)) ++ mem st2 (hi st2 (a, b)))).length : Nat) : Int) - (((nats (mem st2 (hi st2 (a, b)))).length : Nat) : Int) = (((mem st2 (lo st2 (a, b))).length : Nat) : Int) by rw [nats_len, nats_len, List.length_append]; omega, HT.sIx_nat, nats_len, List.length_append] at z
          omega
        have ecut : cutV (nats (mem st2 (lo st2 (a, b)) ++ mem st2 (hi st2 (a, b)))) none (some ((((nats (mem st2 (lo st2 (a, b)) ++ mem st2 (hi st2 (a, b)))).length : Nat) : Int) - (((nats (mem st2 (hi st2 (a, b)))).length : Nat) : Int))) = nats (mem st2 (lo st2 (a, b))) := by
          rw [show (((nats (mem st2 (lo st2 (a, b)) ++ mem st2 (hi st2 (a, b)))).length : Nat) : Int) - (((nats (mem st2 (hi st2 (a, b)))).length : Nat) : Int) = (((mem st2 (lo st2 (a, b))).length : Nat) : Int) by rw [nats_len, nats_len, List.length_append]; omega]
          unfold cutV
          rw [HT.sIx_none, HT.sIx_nat, List.drop_zero, Nat.sub_zero, nats_len, List.length_append, Nat.min_eq_left (Nat.le_add_right _ _), ← nats_app, ← nats_len (mem st2 (lo st2 (a, b))), List.take_left]
        rw [ecut]
        generalize hG2 : upd G1 t2 (.tup (nats (mem st2 (lo st2 (a, b))))) = G2
        have k2 : Kp G1 G2 [] := by rw [← hG2]; exact Kp.new ht2
        have ht2' : G2 t2 = some (.tup (nats (mem st2 (lo st2 (a, b))))) := by rw [← hG2, upd_same]
        have hp2 := k2.ins hp1
        have hm2 := k2.keep _ _ hm1 (by simp)
        have lk : kvs.length < sizeLine := Nat.lt_of_le_of_lt (Nat.le_trans hM.len sz2.1) (by decide)
        refine ⟨_, rfl, p, C, dx, _, _, rfl, hp2, T.cl, T.nM, fl_members h m j, _, rfl, m, _, rfl, .k (k := ik (lo st2 (a, b))) hm2 lk, ?_⟩
        generalize hG3 : upd G2 m (.dK (putK kvs (ik (lo st2 (a, b))) (.ref t2))) = G3
        have k3 : Kp G2 G3 [m] := by rw [← hG3]; exact Kp.dic hm2
        have hm3 : G3 m = some (.dK (putK kvs (ik (lo st2 (a, b))) (.ref t2))) := by rw [← hG3, upd_same]
        have hp3 := k3.ins hp2
        have lk3 : (putK kvs (ik (lo st2 (a, b))) (.ref t2)).length < sizeLine := Nat.lt_of_le_of_lt (Nat.le_trans (length_putK _ _ _) (show _ ≤ 61 by have := hM.len; omega)) (by decide)
        -- self.members[gone] = moved
        refine ⟨_, rfl, _, rfl, p, C, dx, _, _, rfl, hp3, T.cl, T.nM, fl_members h m j, _, rfl, m, _, rfl, .k (k := ik (hi st2 (a, b))) hm3 lk3, ?_⟩
        generalize hG4 : upd G3 m (.dK (putK (putK kvs (ik (lo st2 (a, b))) (.ref t2)) (ik (hi st2 (a, b))) (.ref mo))) = G4
        have k4 : Kp G3 G4 [m] := by rw [← hG4]; exact Kp.dic hm3
        have hm4 : G4 m = some (.dK (putK (putK kvs (ik (lo st2 (a, b))) (.ref t2)) (ik (hi st2 (a, b))) (.ref mo))) := by rw [← hG4, upd_same]
        have hp4 := k4.ins hp3
        have hh4 : G4 h = some (.lst (nats (labels n ((a, b) :: st2)))) := k4.keep _ _ (k3.keep _ _ (k2.keep _ _ hh1 (by simp)) (nm1 R1.mh.symm)) (nm1 R1.mh.symm)
        have hmo4 := k4.tup (k3.tup (k2.tup hmo1))
        refine ⟨_, rfl, mo, rfl, ⟨_, SqT.of hmo4⟩, ?_⟩
        refine for_tup (K := K) (a := mo) (xs := nats (mem st2 (hi st2 (a, b))))
          (fun i σ H1 => ∃ vn : Option V, σ = [some (.ref p), some (.int (c : Int)), some (.int (n' : Int)), some (.ref mo), some (.int ((hi st2 (a, b) : Nat) : Int)), some (.int ((lo st2 (a, b) : Nat) : Int)), vn] ∧
            H1 = upd G4 h (.lst (nats ((List.range n).map fun x => if x ∈ (mem st2 (hi st2 (a, b))).take i then hi st2 (a, b) else hd ((a, b) :: st2) x))))
          ⟨v6, rfl, ?_⟩ (fun i σ H1 _ ⟨vn, _, e⟩ => ?_) ?_ ?_
        · have e : (fun x => if x ∈ (mem st2 (hi st2 (a, b))).take 0 then hi st2 (a, b) else hd ((a, b) :: st2) x) = hd ((a, b) :: st2) := by
            funext x
            rw [List.take_zero, if_neg (by simp)]
          rw [e]
          show G4 = upd G4 h (.lst (nats (labels n ((a, b) :: st2))))
          rw [updId hh4]
        · rw [e]
          exact SqT.of ((Kp.lst hh4).tup hmo4)
        · rintro i y σ H1 hi' ⟨vn, rfl, rfl⟩
          obtain ⟨x, rfl, hx⟩ := nats_at hi'
          have hxm : x ∈ mem st2 (hi st2 (a, b)) := List.mem_of_getElem? hx
          have hxn : x < n := mem_lt ok2 (hd_hi st2 (a, b)) hilt hxm
          refine ⟨_, rfl, _, rfl, p, C, dx, _, _, rfl, (Kp.lst hh4).ins hp4, T.cl, T.nH, fl_heads h m j, _, rfl, h, _, _, x, rfl, rfl, upd_same, ?_, ?_⟩
          · unfold ixN
            rw [nats_len, List.length_map, List.length_range, if_pos (Int.natCast_nonneg x), if_pos (by omega)]
            rfl
          · refine ⟨_, rfl, ?_⟩
            rw [upd_upd, nats_set, labels_set]
            congr 3
            apply List.map_congr_left
            intro y _
            have tk : (mem st2 (hi st2 (a, b))).take (i + 1) = (mem st2 (hi st2 (a, b))).take i ++ [x] := by
              rw [List.take_succ, hx]
              rfl
            rw [tk]
            by_cases c : y = x
            · rw [if_pos c, if_pos (by rw [c]; simp)]
            · rw [if_neg c]
              by_cases d : y ∈ (mem st2 (hi st2 (a, b))).take i
              · rw [if_pos d, if_pos (List.mem_append_left _ d)]
              · rw [if_neg d, if_neg (by simp [c, d])]
        · rintro σ H1' ⟨vn, rfl, rfl⟩
          have el : (List.range n).map (fun x => if x ∈ (mem st2 (hi st2 (a, b))).take (nats (mem st2 (hi st2 (a, b)))).length then hi st2 (a, b) else hd ((a, b) :: st2) x) = labels n st2 := by
            unfold labels
            apply List.map_congr_left
            intro x _
            rw [nats_len, List.take_length, hd_cons]
            by_cases c : hd st2 x = hi st2 (a, b)
            · rw [if_pos ((mem_iff st2 (hd_hi st2 (a, b))).mpr c), c]
            · rw [if_neg (fun z => c ((mem_iff st2 (hd_hi st2 (a, b))).mp z)), if_neg c]
          rw [el]
          have k5 : Kp G4 (upd G4 h (.lst (nats (labels n st2)))) [h] := Kp.lst hh4
          have kx : Kp H1 (upd G4 h (.lst (nats (labels n st2)))) [h, m, j] :=
            (((k1.then k2).trans k3 (L := [m, j]) (by simp) (by simp) fun x hx => R1.kind x (by simp at hx ⊢; rcases hx with e | e <;> simp [e])).trans k4 (L := [m, j]) (by simp) (by simp) fun x hx => R1.kind x (by simp at hx ⊢; rcases hx with e | e <;> simp [e])).trans k5 (by simp) (by simp) R1.kind
          refine ⟨st2, _, _, _, _, rfl, rfl, by omega, R1.mk2 kx (kvs := putK (putK kvs (ik (lo st2 (a, b))) (.ref t2)) (ik (hi st2 (a, b))) (.ref mo)) (us := us2) upd_same ((upd_ne R1.mh).trans hm4) ?_ ?_ (rowsKp kx hU) ok2 sz2, kp.trans kx (by simp) (by simp) R.kind, dr⟩
          · have ikn : ∀ {x y : Nat}, x ≠ y → ik x ≠ ik y := fun {x y} h z => h (by have z : (x : Int) = (y : Int) := Sum.inl.inj z; omega)
            refine ⟨nd_put (nd_put hM.nd), fun x l y => ?_, fun key v y => ?_⟩
            · rw [valV_put, valV_put]
              by_cases c : x = hi st2 (a, b)
              · refine ⟨mo, if_pos (by rw [c]), ?_⟩
                rw [c]
                exact k5.tup hmo4
              · rw [if_neg (ikn c)]
                by_cases d : x = lo st2 (a, b)
                · refine ⟨t2, if_pos (by rw [d]), ?_⟩
                  rw [d]
                  exact k5.tup (k4.tup (k3.tup ht2'))
                · obtain ⟨t, t1, t3⟩ := hM.has x l (head_after y fun _ => c)
                  rw [mem_cons, if_neg ne, if_neg d] at t3
                  refine ⟨t, ?_, kx.tup t3⟩
                  rw [if_neg (ikn d)]
                  exact t1
            · rw [valV_put, valV_put] at y
              by_cases c : key = ik (hi st2 (a, b))
              · exact ⟨_, c, hilt, hd_hi st2 (a, b)⟩
              · rw [if_neg c] at y
                by_cases d : key = ik (lo st2 (a, b))
                · exact ⟨_, d, lolt, hd_lo st2 (a, b)⟩
                · rw [if_neg d] at y
                  obtain ⟨x, x1, x2, x3⟩ := hM.only key v y
                  exact ⟨x, x1, x2, (head_before x3).1⟩
          · rw [upd_ne R1.hj.symm]
            exact k4.keep _ _ (k3.keep _ _ (k2.keep _ _ hj1 (by simp)) (nm1 R1.mj.symm)) (nm1 R1.mj.symm)
      · have e : hd st2 a = hd st2 b := by
          by_cases e : hd st2 a = hd st2 b
          · exact e
          · refine absurd (decide_eq_true ?_) npos
            show (0 : Int) < ((mvd st2 (a, b)).length : Nat)
            rw [show mvd st2 (a, b) = mem st2 (hi st2 (a, b)) from if_neg e]
            have := List.length_pos_of_mem (mem_self st2 (hd_hi st2 (a, b)))
            omega
        have hd' : ∀ x, hd ((a, b) :: st2) x = hd st2 x := hd_eqv (j := (a, b)) e
        have hM' : MemOk H1 kvs n st2 := ⟨hM.nd, fun x l y => by
          obtain ⟨t, t1, t2⟩ := hM.has x l (by rw [hd']; exact y)
          rw [mem_cons, if_pos e] at t2
          exact ⟨t, t1, t2⟩, fun key v y => by
          obtain ⟨x, x1, x2, x3⟩ := hM.only key v y
          exact ⟨x, x1, x2, by rw [← hd']; exact x3⟩⟩
        have kx : Kp H1 G1 [h, m, j] := k1.up (by simp) R1.kind
        refine ⟨st2, _, _, _, _, rfl, rfl, by omega, R1.mk2 kx (kvs := kvs) (us := us2) ?_ (k1.keep _ _ hm (nm1 R1.mj)) (hM'.kp kx) hj1 (rowsKp kx hU) ok2 sz2, kp.trans kx (by simp) (by simp) R.kind, dr⟩
        rw [← labels_eqv hd']
        exact k1.keep _ _ R1.hs (nm1 R1.hj)
  · have ge : ¬ (c : Int) < (i : Int) := fun z => ge (decide_eq_true z)
    have eic : i = c := by omega
    have est : st1 = st.drop (st.length - c) := by
      rw [← ed, eic, Nat.sub_self]
      rfl
    subst est
    generalize hst : st.drop (st.length - c) = st1 at *
    -- the numbers
    refine ⟨fun i σ' H' => ∃ n1 : Nat, σ' = [some (.ref p), some (.int (c : Int)), some (.int (n' : Int)), v3, v4, v5, v6] ∧ n1 = i ∧ n' ≤ n1 ∧ FAt C H' p h m j n1 st1 ∧ Kp H H' [h, m, j], ⟨n, n, rfl, rfl, nl, R1, kp⟩, ?_⟩
    rintro i2 σ' H2 ⟨n1, rfl, rfl, ge2, R2, kp2⟩
    obtain ⟨dx, hp⟩ := R2.ob
    obtain ⟨kvs, hm, hM⟩ := R2.ms
    obtain ⟨us, hj, hU⟩ := R2.js
    refine ⟨_, rfl, p, C, dx, _, _, rfl, hp, T.cl, T.nH, fl_heads h m j, h, _, rfl, .inl (SqL.of R2.hs), _, rfl, _, _, rfl, rfl, _, rfl, ?_⟩
    rw [nats_len, labels_len]
    refine ite2 (fun lt => ?_) (fun ge => ?_)
    · have lt := of_decide_eq_true lt
      obtain ⟨n2, rfl⟩ : ∃ n2, n1 = n2 + 1 := ⟨n1 - 1, by omega⟩
      have hn2 : hd st1 n2 = n2 := hd_out ok' (by omega)
      have eh : nats (labels (n2 + 1) st1) = nats (labels n2 st1) ++ [V.int (n2 : Int)] := by
        rw [nats_snoc]
        unfold labels
        rw [List.range_succ, List.map_append]
        show nats (_ ++ [hd st1 n2]) = _
        rw [hn2]
      have hh := R2.hs
      rw [eh] at hh
      obtain ⟨t, t1, t2⟩ := hM.has n2 (Nat.lt_succ_self n2) hn2
      refine ⟨fun σ2 H3 => ∃ n1 : Nat, σ2 = [some (.ref p), some (.int (c : Int)), some (.int (n' : Int)), v3, v4, v5, v6] ∧ n1 = n2 ∧ n' ≤ n1 ∧ FAt C H3 p h m j n1 st1 ∧ Kp H H3 [h, m, j], fun σ2 H3 hN => ⟨n2, by omega, hN⟩, ?_⟩
      refine ⟨_, rfl, p, C, dx, _, _, rfl, hp, T.cl, T.nM, fl_members h m j, m, rfl, .inl ⟨_, Rd.of hm⟩, _, rfl, p, C, dx, _, _, rfl, hp, T.cl, T.nH, fl_heads h m j, .inl ⟨rfl, _, SqL.of hh⟩, h, _, V.int (n2 : Int), rfl, rfl, hh, by simp, ?_⟩
      rw [List.dropLast_concat]
      have k1 : Kp H2 (upd H2 h (.lst (nats (labels n2 st1)))) [h] := Kp.lst hh
      have hm1 := k1.keep _ _ hm (nm1 R2.mh)
      refine ⟨kvs, ik n2, _, hm1, rfl, t1, ?_⟩
      have k2 : Kp (upd H2 h (.lst (nats (labels n2 st1)))) (upd (upd H2 h (.lst (nats (labels n2 st1)))) m (.dK (dropK kvs (ik n2)))) [m] := Kp.dic hm1
      have kx := k1.trans k2 (L := [h, m, j]) (by simp) (by simp) R2.kind
      refine ⟨n2, rfl, rfl, by omega, R2.mk2 kx (kvs := dropK kvs (ik n2)) (us := us) ((upd_ne R2.mh.symm).trans upd_same) upd_same ?_ (k2.keep _ _ (k1.keep _ _ hj (nm1 R2.hj.symm)) (nm1 R2.mj.symm)) (rowsKp kx hU) (ok'.mono (by omega)) ⟨by have := R2.sz.1; omega, R2.sz.2⟩, kp2.trans kx (by simp) (by simp) R.kind⟩
      refine ⟨nd_dropK hM.nd, fun x l y => ?_, fun key v y => ?_⟩
      · obtain ⟨t, t1, t2⟩ := hM.has x (by omega) y
        refine ⟨t, ?_, kx.tup t2⟩
        rw [valV_drop, if_neg (fun z => by have z : (x : Int) = (n2 : Int) := Sum.inl.inj z; omega)]
        exact t1
      · rw [valV_drop] at y
        by_cases d : key = ik n2
        · rw [if_pos d] at y
          cases y
        · rw [if_neg d] at y
          obtain ⟨x, x1, x2, x3⟩ := hM.only key v y
          refine ⟨x, x1, ?_, x3⟩
          have : x ≠ n2 := fun z => d (by rw [x1, z])
          omega
    · have ge : ¬ (n' : Int) < (n1 : Int) := fun z => ge (decide_eq_true z)
      have e : n1 = n' := by omega
      rw [e] at R2
      exact go H2 R2 kp2
end
end K15

set_option Elab.async false
set_option maxRecDepth 100000
set_option maxHeartbeats 8000000
namespace K15
open PySem L2
def spCopy (C : Addr) : Sp := fun vs H Q _ => ∃ (p h m j : Addr) (n : Nat) (st : List Jn), vs = [.ref p] ∧ FAt C H p h m j n st ∧
  ∀ (H' : Hp) (p2 h2 m2 j2 : Addr), FAt C H' p2 h2 m2 j2 n st → Kp H H' [] → H h2 = none → H m2 = none → H j2 = none → Q (.ref p2) H'
theorem fl_puts (h m j a b c : Addr) : putF "heads" (.ref a) (fl h m j) = fl a m j ∧ putF "members" (.ref b) (fl h m j) = fl h b j ∧ putF "joins" (.ref c) (fl h m j) = fl h m c := by
  have n1 : ¬ ("heads" : Str) = "members" := by decide +kernel
  have n2 : ¬ ("heads" : Str) = "joins" := by decide +kernel
  have n3 : ¬ ("members" : Str) = "joins" := by decide +kernel
  unfold fl
  refine ⟨?_, ?_, ?_⟩ <;> simp [putF, n1, n2, n3, Ne.symm n1, Ne.symm n2, Ne.symm n3]
section
variable {P : Program} {w : World} {K : PySem.W.Frag} {mg : Str → Option Value} {base : Heap}
theorem sc_copy : FnScope ["self", "found"] ["self"] (defScope s_Forest_copy) := ⟨rfl, rfl, rfl, by decide +kernel, rfl, by decide +kernel, by decide +kernel⟩
theorem ok_copy {f C Cn f1 : Addr} {fd fd1 : FuncData} (F : Fun K "copy" "Forest.copy" s_Forest_copy f fd) (T : Txt K mg C Cn) (M_Forest : Mk K C f1) (G_Forest___init__ : FnOk P w K mg base CX0 1 f1 fd1 ["self"] (spInit C)) (b_Forest___init__ : Binds K fd1 ["self"] []) :
    FnOk P w K mg base CX0 3 f fd ["self"] (spCopy C) := by
  refine F.ok sc_copy (fun vs H Q E h => ?_) (fun cdv A outer s H vs Q E hr h => ?_)
  · obtain ⟨p, h, m, j, n, st, rfl, _⟩ := h
    rfl
  obtain ⟨p, h, m, j, n, st, rfl, R, k⟩ := h
  have nd := sc_copy.nd
  refine ⟨_, (pss_cons (ps_set (i := 1) nd rfl (.inl rfl) (pe_make0 M_Forest G_Forest___init__ hr (by rfl) T.mgC b_Forest___init__ .nil pass0))
    (pss_cons (ps_fld (pv 1) (pe_callTy call_list_of (by rfl) T.B.list (by decide +kernel) (pa_cons (pe_fld (pv 0) rfl) pa_nil)) rfl)
    (pss_cons (ps_fld (pv 1) (pe_callTy call_dictD (by rfl) T.B.dict (by decide +kernel) (pa_cons (pe_fld (pv 0) rfl) pa_nil)) rfl)
    (pss_cons (ps_fld (pv 1) (pe_callTy call_list_of (by rfl) T.B.list (by decide +kernel) (pa_cons (pe_fld (pv 0) rfl) pa_nil)) rfl)
    (pss_one (ps_ret (pv 1))))))), ?_⟩
  intro x dx0 hx hdx ndx
  refine ⟨x, dx0, rfl, upd_same, fun H1 h0 m0 j0 R0 kp1 e1 e2 e3 => ⟨rfl, ?_⟩⟩
  have k1 : Kp H H1 [] := ⟨fun c o e _ => kp1 c o (by rw [upd_ne (ne_of_none e hx), upd_ne (ne_of_none e hdx)]; exact e) (ne_of_none e hx), fun _ h => (nomatch h)⟩
  have R1 := R.more k1
  obtain ⟨dx, hp⟩ := R1.ob
  obtain ⟨dy, hy⟩ := R0.ob
  have xp : x ≠ p := fun z => by
    obtain ⟨_, e⟩ := R.ob
    rw [← z, hx] at e
    cases e
  -- found.heads = list(self.heads)
  refine ⟨_, rfl, p, C, dx, _, _, rfl, hp, T.cl, T.nH, fl_heads h m j, h, _, rfl, .inl (SqL.of R1.hs), fun a ha => ?_⟩
  have xa : x ≠ a := ne_of_none hy ha
  refine ⟨_, rfl, x, C, dy, _, rfl, (upd_ne xa).trans hy, T.cl, T.nH, (by show 3 < 1000; decide), ?_⟩
  rw [(fl_puts h0 m0 j0 a 0 0).1]
  generalize hG1 : upd (upd H1 a (.lst (nats (labels n st)))) x (.ins C dy (fl a m0 j0)) = G1
  have hx1 : H x = none := hx
  have s1 : ∀ c o, H1 c = some o → c ≠ x → G1 c = some o := fun c o e n => by
    rw [← hG1, upd_ne n, upd_ne (ne_of_none e ha)]
    exact e
  have g1 : G1 x = some (.ins C dy (fl a m0 j0)) := by rw [← hG1, upd_same]
  have ga : G1 a = some (.lst (nats (labels n st))) := by rw [← hG1, upd_ne xa.symm, upd_same]
  -- found.members = dict(self.members)
  obtain ⟨kvs, hm0, hM⟩ := R.ms
  obtain ⟨us, hj0, hU⟩ := R.js
  have hm := k1.keep _ _ hm0 (by simp)
  have hj := k1.keep _ _ hj0 (by simp)
  have mx : m ≠ x := fun z => by rw [z, hy] at hm; cases hm
  have jx : j ≠ x := fun z => by rw [z, hy] at hj; cases hj
  refine ⟨_, rfl, p, C, dx, _, _, rfl, s1 _ _ hp xp.symm, T.cl, T.nM, fl_members h m j, m, kvs, rfl, .inl (s1 _ _ hm mx), fun b hb => ?_⟩
  have xb : x ≠ b := ne_of_none g1 hb
  refine ⟨_, rfl, x, C, dy, _, rfl, (upd_ne xb).trans g1, T.cl, T.nM, (by show 3 < 1000; decide), ?_⟩
  rw [(fl_puts a m0 j0 0 b 0).2.1]
  generalize hG2 : upd (upd G1 b (.dK kvs)) x (.ins C dy (fl a b j0)) = G2
  have s2 : ∀ c o, G1 c = some o → c ≠ x → G2 c = some o := fun c o e n => by
    rw [← hG2, upd_ne n, upd_ne (ne_of_none e hb)]
    exact e
  have g2 : G2 x = some (.ins C dy (fl a b j0)) := by rw [← hG2, upd_same]
  have gb : G2 b = some (.dK kvs) := by rw [← hG2, upd_ne xb.symm, upd_same]
  -- found.joins = list(self.joins)
  refine ⟨_, rfl, p, C, dx, _, _, rfl, s2 _ _ (s1 _ _ hp xp.symm) xp.symm, T.cl, T.nJ, fl_joins h m j, j, _, rfl, .inl (SqL.of (s2 _ _ (s1 _ _ hj jx) jx)), fun c hc => ?_⟩
  have xc : x ≠ c := ne_of_none g2 hc
  refine ⟨_, rfl, x, C, dy, _, rfl, (upd_ne xc).trans g2, T.cl, T.nJ, (by show 3 < 1000; decide), ?_⟩
  rw [(fl_puts a b j0 0 0 c).2.2]
  generalize hG3 : upd (upd G2 c (.lst (us.reverse.map V.ref))) x (.ins C dy (fl a b c)) = G3
  have s3 : ∀ c o, G2 c = some o → c ≠ x → G3 c = some o := fun c o e n => by
    rw [← hG3, upd_ne n, upd_ne (ne_of_none e hc)]
    exact e
  have kp3 : Kp H G3 [] := ⟨fun c o e _ => s3 c o (s2 c o (s1 c o (k1.keep c o e (by simp)) (ne_of_none e hx)) (ne_of_none e hx)) (ne_of_none e hx), fun _ h => (nomatch h)⟩
  have ax : a ≠ x := xa.symm
  refine ⟨_, rfl, k G3 x a b c ⟨⟨dy, by rw [← hG3, upd_same]⟩, s3 _ _ (s2 _ _ ga ax) ax, ⟨kvs, s3 _ _ gb xb.symm, ?_⟩, ⟨us, by rw [← hG3, upd_ne xc.symm, upd_same], ?_⟩, R.ok, ?_, R.sz⟩ kp3 (k1.free ha (by simp)) ?_ ?_⟩
  · exact hM.kp kp3
  · exact rowsKp kp3 hU
  · exact fun z => by
      have e := s2 _ _ ga ax
      rw [z, hc] at e
      cases e
  · cases e : H b with
    | none => rfl
    | some o =>
      have z := s1 b o (k1.keep b o e (by simp)) (ne_of_none e hx)
      rw [hb] at z
      cases z
  · cases e : H c with
    | none => rfl
    | some o =>
      have z := s2 c o (s1 c o (k1.keep c o e (by simp)) (ne_of_none e hx)) (ne_of_none e hx)
      rw [hc] at z
      cases z
end
end K15

set_option Elab.async false
set_option maxRecDepth 100000
set_option maxHeartbeats 8000000
namespace K15
open PySem L2
theorem pairedAt {α β : Type} {F : α → β → Prop} {l : List α} {m : List β} (q : Paired F l m) : ∀ {i : Nat} {a : α}, l[i]? = some a → ∃ b, m[i]? = some b ∧ F a b := by
  induction q with
  | nil => intro i a h; simp at h
  | cons x y ih =>
    intro i a h
    cases i with
    | zero => exact ⟨_, rfl, by have e := Option.some.inj h; subst e; exact x⟩
    | succ i => exact ih (by simpa using h)
theorem pairedTake {α β : Type} {F : α → β → Prop} {l : List α} {m : List β} (q : Paired F l m) : ∀ n : Nat, Paired F (l.take n) (m.take n) := by
  induction q with
  | nil => intro n; rw [List.take_nil, List.take_nil]; exact .nil
  | cons x y ih =>
    intro n
    cases n with
    | zero => exact .nil
    | succ n => exact .cons x (ih n)
theorem pairedSnoc {α β : Type} {F : α → β → Prop} {l : List α} {m : List β} (q : Paired F l m) {a : α} {b : β} (h : F a b) : Paired F (l ++ [a]) (m ++ [b]) := by
  induction q with
  | nil => exact .cons h .nil
  | cons x y ih => exact .cons x ih
theorem pairedRev {α β : Type} {F : α → β → Prop} {l : List α} {m : List β} (q : Paired F l m) : Paired F l.reverse m.reverse := by
  induction q with
  | nil => exact .nil
  | cons x y ih =>
    rw [List.reverse_cons, List.reverse_cons]
    exact pairedSnoc ih x
def EdgeAt (H : Hp) (u : Addr) (e : Edge) : Prop := H u = some (.tup [.int (e.1 : Int), .int (e.2.1 : Int), .bl e.2.2])
def BesAt (H : Hp) (d : Addr) (kvs : List (Key × V)) (f : Nat → List Edge) : Prop := H d = some (.dK kvs) ∧ ∀ v : Nat, (valV kvs (ik v) = none ∧ f v = []) ∨ ∃ (l : Addr) (us : List Addr), valV kvs (ik v) = some (.ref l) ∧ H l = some (.lst (us.map V.ref)) ∧ Paired (EdgeAt H) us (f v)
theorem EdgeAt.kp {H H' : Hp} {M : List Addr} (k : Kp H H' M) {u : Addr} {e : Edge} (h : EdgeAt H u e) : EdgeAt H' u e := k.tup h
theorem BesAt.kp {H H' : Hp} {d : Addr} {kvs : List (Key × V)} {f : Nat → List Edge} (b : BesAt H d kvs f) (k : Kp H H' []) : BesAt H' d kvs f :=
  ⟨k.keep _ _ b.1 (by simp), fun v => (b.2 v).imp id fun ⟨l, us, a, c, e⟩ => ⟨l, us, a, k.keep _ _ c (by simp), Paired.mapP e fun _ _ z => z.kp k⟩⟩
theorem BesAt.look {H : Hp} {d : Addr} {kvs : List (Key × V)} {f : Nat → List Edge} (b : BesAt H d kvs f) (v : Nat) {e : Addr} (he : H e = some (.lst [])) :
    ∃ (o : Option V) (q : Addr) (us : List Addr), DGet H d (.int (v : Int)) o ∧ o.getD (.ref e) = .ref q ∧ H q = some (.lst (us.map V.ref)) ∧ Paired (EdgeAt H) us (f v) ∧ (q = e ∨ valV kvs (ik v) = some (.ref q)) := by
  rcases b.2 v with ⟨h1, h2⟩ | ⟨l, us, h1, h2, h3⟩
  · refine ⟨none, e, [], by rw [← h1]; exact .k (k := ik v) b.1, rfl, he, by rw [h2]; exact .nil, .inl rfl⟩
  · exact ⟨some (.ref l), l, us, by rw [← h1]; exact .k (k := ik v) b.1, rfl, h2, h3, .inr h1⟩
theorem BesAt.put {H : Hp} {d : Addr} {kvs : List (Key × V)} {f : Nat → List Edge} (b : BesAt H d kvs f) {v : Nat} {e : Edge} {l : Addr} {us : List Addr} (hl : H l = some (.lst (us.map V.ref))) (p : Paired (EdgeAt H) us (f v ++ [e])) :
    BesAt (upd H d (.dK (putK kvs (ik v) (.ref l)))) d (putK kvs (ik v) (.ref l)) (addE f v e) := by
  have k : Kp H (upd H d (.dK (putK kvs (ik v) (.ref l)))) [d] := Kp.dic b.1
  refine ⟨upd_same, fun x => ?_⟩
  rw [valV_put]
  by_cases c : x = v
  · refine .inr ⟨l, us, by rw [c, if_pos rfl], (upd_ne (dne b.1 hl).symm).trans hl, ?_⟩
    unfold addE
    rw [if_pos c]
    exact Paired.mapP p fun _ _ z => z.kp k
  · rw [if_neg (fun z => c (by have z : (x : Int) = (v : Int) := Sum.inl.inj z; omega))]
    unfold addE
    rw [if_neg c]
    refine (b.2 x).imp id fun ⟨l, us, a, c, e⟩ => ⟨l, us, a, (upd_ne (dne b.1 c).symm).trans c, Paired.mapP e fun _ _ z => z.kp k⟩
def spBeside (C : Addr) : Sp := fun vs H Q _ => ∃ (p h m j : Addr) (n : Nat) (st : List Jn), vs = [.ref p] ∧ FAt C H p h m j n st ∧
  ∀ (H' : Hp) (d : Addr) (kvs : List (Key × V)) (f : Nat → List Edge), Kp H H' [] → BesAt H' d kvs f → Adj (rows st).reverse (rows st).length f → Q (.ref d) H'
section
variable {P : Program} {w : World} {K : PySem.W.Frag} {mg : Str → Option Value} {base : Heap}
theorem sc_beside : FnScope ["self", "found", "place", "one", "other", "_", "moved"] ["self"] (defScope s_Forest_beside) := ⟨rfl, rfl, rfl, by decide +kernel, rfl, by decide +kernel, by decide +kernel⟩
theorem ok_beside {f C Cn : Addr} {fd : FuncData} (F : Fun K "beside" "Forest.beside" s_Forest_beside f fd) (T : Txt K mg C Cn) : FnOk P w K mg base CX0 1 f fd ["self"] (spBeside C) := by
  refine F.ok sc_beside (fun vs H Q E h => ?_) (fun cdv A outer s H vs Q E hr h => ?_)
  · obtain ⟨p, h, m, j, n, st, rfl, _⟩ := h
    rfl
  obtain ⟨p, h, m, j, n, st, rfl, R, go⟩ := h
  have hu := hu_of hr
  have nd := sc_beside.nd
  refine ⟨_, (pss_cons (ps_set (i := 1) nd rfl (.inl rfl) pe_dnewK)
    (pss_cons (ps_for PassesOwn.never rfl (pi_enum (by rfl) T.B.enumerate (pa_cons (pe_fld (pv 0) rfl) pa_nil)) (pg_tup rfl (pgs_cons (pg_name (i := 2) nd rfl (.inl rfl)) (pgs_cons (pg_tup rfl (pgs_cons (pg_name (i := 3) nd rfl (.inl rfl)) (pgs_cons (pg_name (i := 4) nd rfl (.inl rfl)) (pgs_cons (pg_name (i := 5) nd rfl (.inl rfl)) (pgs_cons (pg_name (i := 6) nd rfl (.inl rfl)) pgs_nil))))) pgs_nil))) 
      (pss_one (ps_if (pt_cmpR op_gt (pe_callB call_len_seq (by rfl) T.B.len (by decide +kernel) (pa_cons (pv 6) pa_nil)) pe_int (nomark _)) 
        (pss_cons (ps_dput hu (pv 1) (pv 3) (pe_lst (StX.pa_star (pe_dget2 hu (pv 1) (pv 3) (pe_lst pa_nil) ⟨rfl, rfl, rfl, rfl⟩) (pa_cons (pe_tup (pa_cons (pv 4) (pa_cons (pv 2) (pa_cons pe_bl pa_nil)))) pa_nil))) rfl)
        (pss_one (ps_dput hu (pv 1) (pv 4) (pe_lst (StX.pa_star (pe_dget2 hu (pv 1) (pv 4) (pe_lst pa_nil) ⟨rfl, rfl, rfl, rfl⟩) (pa_cons (pe_tup (pa_cons (pv 3) (pa_cons (pv 2) (pa_cons pe_bl pa_nil)))) pa_nil))) rfl))) pss_nil)))
    (pss_one (ps_ret (pv 1))))), ?_⟩
  obtain ⟨dx, hp⟩ := R.ob
  obtain ⟨us, hj, hU⟩ := R.js
  intro d hd
  have k0 : Kp H (upd H d (.dK [])) [] := Kp.new hd
  refine ⟨_, rfl, p, C, dx, _, _, rfl, k0.ins hp, T.cl, T.nJ, fl_joins h m j, j, _, rfl, SqL.of (k0.keep _ _ hj (by simp)), ?_⟩
  refine for_it (walk_enum (K := K) (a := j) (xs := us.reverse.map V.ref))
    (fun i σ H1 => ∃ (v2 v3 v4 v5 v6 : Option V) (kvs : List (Key × V)) (f : Nat → List Edge), σ = [some (.ref p), some (.ref d), v2, v3, v4, v5, v6] ∧ Kp H H1 [] ∧ BesAt H1 d kvs f ∧ kvs.length ≤ 2 * i ∧ (∀ v, (f v).length ≤ 2 * i) ∧ Adj (rows st).reverse i f)
    ⟨none, none, none, none, none, [], fun _ => [], rfl, k0, ⟨upd_same, fun v => .inl ⟨rfl, rfl⟩⟩, Nat.zero_le _, fun _ => Nat.zero_le _, .nil⟩ (fun i σ H1 _ ⟨_, _, _, _, _, _, _, _, kp, _⟩ => SqL.of (kp.keep _ _ hj (by simp))) ?_ ?_
  · rintro i x σ H1 H2 hi ⟨v2, v3, v4, v5, v6, kvs, f, rfl, kp, B, kl, fl2, ad⟩ ⟨t, x1, x2, rfl, ht, rfl, e1, e2⟩
    have e1 := Option.some.inj e1
    subst e1
    have e2 : (us.reverse.map V.ref)[i]? = some x2 := e2
    rw [List.getElem?_map] at e2
    cases eu : us.reverse[i]? with
    | none => rw [eu] at e2; cases e2
    | some u =>
    rw [eu] at e2
    cases e2
    obtain ⟨r, hr, q, mo, hu1, hq1, hmo⟩ := pairedAt (pairedRev hU) eu
    have k1 : Kp H1 (upd H1 t (.tup [.int (i : Int), .ref u])) [] := Kp.new ht
    have ht1 : upd H1 t (.tup [.int (i : Int), .ref u]) t = some (.tup [.int (i : Int), .ref u]) := upd_same
    generalize upd H1 t (.tup [.int (i : Int), .ref u]) = G1 at k1 ht1 ⊢
    have kp1 := kp.then k1
    have hmo1 := kp1.tup hmo
    refine ⟨t, _, rfl, SqT.of ht1, rfl, _, _, rfl, _, _, rfl, u, _, rfl, SqT.of (kp1.tup hu1), rfl, _, _, rfl, _, _, rfl, _, _, rfl, _, _, rfl, rfl, rfl, ?_⟩
    refine ⟨_, rfl, mo, _, rfl, .inr (SqT.of hmo1), _, _, rfl, rfl, _, rfl, ?_⟩
    rw [nats_len]
    refine ite2 (fun pos => ?_) (fun npos => ?_)
    · have ne : r.2.2 ≠ [] := fun e => by
        have pos := of_decide_eq_true pos
        rw [e] at pos
        exact absurd pos (by decide)
      have il : i < 1000 := by
        have a := (List.getElem?_eq_some_iff.mp hr).1
        rw [List.length_reverse, rows_len] at a
        have := R.sz.2
        omega
      have B1 := B.kp k1
      -- found[one] = [*found.get(one, []), (other, place, True)]
      refine ⟨_, rfl, d, rfl, .inl ⟨_, Rd.of B1.1⟩, _, rfl, Nat.zero_le _, fun e he => ?_⟩
      have k2 : Kp G1 (upd G1 e (.lst [])) [] := Kp.new he
      have B2 := B1.kp k2
      have he2 : upd G1 e (.lst []) e = some (.lst []) := upd_same
      generalize upd G1 e (.lst []) = G2 at k2 B2 he2 ⊢
      obtain ⟨o, q1, us1, d1, d2, d3, d4, _⟩ := B2.look r.1 he2
      refine ⟨o, d1, q1, us1.map V.ref, d2, .inr (SqL.of d3), _, rfl, _, rfl, (by show 3 ≤ sizeLine; decide), fun u1 hu1 => ?_⟩
      have k3 : Kp G2 (upd G2 u1 (.tup [.int (r.2.1 : Int), .int (i : Int), .bl true])) [] := Kp.new hu1
      have hu1' : EdgeAt (upd G2 u1 (.tup [.int (r.2.1 : Int), .int (i : Int), .bl true])) u1 (r.2.1, i, true) := upd_same
      have d3 := k3.keep _ _ d3 (by simp)
      have d4 := Paired.mapP d4 fun _ _ z => EdgeAt.kp k3 z
      have B3 := B2.kp k3
      generalize upd G2 u1 (.tup [.int (r.2.1 : Int), .int (i : Int), .bl true]) = G3 at k3 hu1' d3 d4 B3 ⊢
      have l1 : us1.length = (f r.1).length := Paired.length d4
      have f1 := fl2 r.1
      refine ⟨?_, fun l hl => ?_⟩
      · show (us1.map V.ref ++ [V.ref u1]).length ≤ sizeLine
        rw [List.length_append, List.length_map]
        exact Nat.le_trans (show _ ≤ 3000 by simp; omega) (by decide)
      have ea : us1.map V.ref ++ [V.ref u1] = (us1 ++ [u1]).map V.ref := by rw [List.map_append]; rfl
      rw [ea]
      have k4 : Kp G3 (upd G3 l (.lst ((us1 ++ [u1]).map V.ref))) [] := Kp.new hl
      have hl' : upd G3 l (.lst ((us1 ++ [u1]).map V.ref)) l = some (.lst ((us1 ++ [u1]).map V.ref)) := upd_same
      have B4 := B3.kp k4
      have p4 : Paired (EdgeAt (upd G3 l (.lst ((us1 ++ [u1]).map V.ref)))) (us1 ++ [u1]) (f r.1 ++ [(r.2.1, i, true)]) := pairedSnoc (Paired.mapP d4 fun _ _ z => EdgeAt.kp k4 z) (hu1'.kp k4)
      generalize upd G3 l (.lst ((us1 ++ [u1]).map V.ref)) = G4 at k4 hl' B4 p4 ⊢
      have lk : kvs.length < sizeLine := Nat.lt_of_le_of_lt (show _ ≤ 3000 by omega) (by decide)
      have k0d : Kp H G4 [] := (((kp1.then k2).then k3).then k4)
      have hdn : H d = none := hd
      refine ⟨_, rfl, _, rfl, d, _, rfl, .k (k := ik r.1) B4.1 lk, ?_⟩
      have B5 := B4.put hl' p4
      have k5 : Kp H (upd G4 d (.dK (putK kvs (ik r.1) (.ref l)))) [] := k0d.fresh (Kp.dic B4.1) fun x hx => by rw [List.mem_singleton.mp hx]; exact hdn
      have kl5 : (putK kvs (ik r.1) (.ref l)).length ≤ 2 * i + 1 := Nat.le_trans (length_putK _ _ _) (by omega)
      generalize upd G4 d (.dK (putK kvs (ik r.1) (.ref l))) = G5 at k5 B5 ⊢
      -- found[other] = [*found.get(other, []), (one, place, False)]
      refine ⟨_, rfl, d, rfl, .inl ⟨_, Rd.of B5.1⟩, _, rfl, Nat.zero_le _, fun e he => ?_⟩
      have k6 : Kp G5 (upd G5 e (.lst [])) [] := Kp.new he
      have B6 := B5.kp k6
      have he2 : upd G5 e (.lst []) e = some (.lst []) := upd_same
      generalize upd G5 e (.lst []) = G6 at k6 B6 he2 ⊢
      obtain ⟨o, q2, us2, d1, d2, d3, d4, _⟩ := B6.look r.2.1 he2
      refine ⟨o, d1, q2, us2.map V.ref, d2, .inr (SqL.of d3), _, rfl, _, rfl, (by show 3 ≤ sizeLine; decide), fun u2 hu2 => ?_⟩
      have k7 : Kp G6 (upd G6 u2 (.tup [.int (r.1 : Int), .int (i : Int), .bl false])) [] := Kp.new hu2
      have hu2' : EdgeAt (upd G6 u2 (.tup [.int (r.1 : Int), .int (i : Int), .bl false])) u2 (r.1, i, false) := upd_same
      have d3 := k7.keep _ _ d3 (by simp)
      have d4 := Paired.mapP d4 fun _ _ z => EdgeAt.kp k7 z
      have B7 := B6.kp k7
      generalize upd G6 u2 (.tup [.int (r.1 : Int), .int (i : Int), .bl false]) = G7 at k7 hu2' d3 d4 B7 ⊢
      have l2 : us2.length = (addE f r.1 (r.2.1, i, true) r.2.1).length := Paired.length d4
      have fa : ∀ v, (addE f r.1 (r.2.1, i, true) v).length ≤ 2 * i + 1 := fun v => by
        unfold addE
        split
        · rw [List.length_append]
          have := fl2 r.1
          simp
          omega
        · have := fl2 v
          omega
      have f2 := fa r.2.1
      refine ⟨?_, fun l' hl' => ?_⟩
      · show (us2.map V.ref ++ [V.ref u2]).length ≤ sizeLine
        rw [List.length_append, List.length_map]
        exact Nat.le_trans (show _ ≤ 3000 by simp; omega) (by decide)
      have ea : us2.map V.ref ++ [V.ref u2] = (us2 ++ [u2]).map V.ref := by rw [List.map_append]; rfl
      rw [ea]
      have k8 : Kp G7 (upd G7 l' (.lst ((us2 ++ [u2]).map V.ref))) [] := Kp.new hl'
      have hl2 : upd G7 l' (.lst ((us2 ++ [u2]).map V.ref)) l' = some (.lst ((us2 ++ [u2]).map V.ref)) := upd_same
      have B8 := B7.kp k8
      have p8 : Paired (EdgeAt (upd G7 l' (.lst ((us2 ++ [u2]).map V.ref)))) (us2 ++ [u2]) (addE f r.1 (r.2.1, i, true) r.2.1 ++ [(r.1, i, false)]) := pairedSnoc (Paired.mapP d4 fun _ _ z => EdgeAt.kp k8 z) (hu2'.kp k8)
      generalize upd G7 l' (.lst ((us2 ++ [u2]).map V.ref)) = G8 at k8 hl2 B8 p8 ⊢
      have lk8 : (putK kvs (ik r.1) (.ref l)).length < sizeLine := Nat.lt_of_le_of_lt (show _ ≤ 3000 by omega) (by decide)
      refine ⟨_, rfl, _, rfl, d, _, rfl, .k (k := ik r.2.1) B8.1 lk8, ?_⟩
      have k9 : Kp H (upd G8 d (.dK (putK (putK kvs (ik r.1) (.ref l)) (ik r.2.1) (.ref l')))) [] := (((k5.then k6).then k7).then k8).fresh (Kp.dic B8.1) fun x hx => by rw [List.mem_singleton.mp hx]; exact hdn
      refine ⟨_, _, _, _, _, _, _, rfl, k9, B8.put hl2 p8, Nat.le_trans (length_putK _ _ _) (by omega), fun v => ?_, ad.step hr ne⟩
      show (if v = r.2.1 then addE f r.1 (r.2.1, i, true) r.2.1 ++ [(r.1, i, false)] else addE f r.1 (r.2.1, i, true) v).length ≤ _
      split
      · rw [List.length_append]
        simp
        omega
      · have := fa v
        omega
    · have e : r.2.2 = [] := by
        cases c : r.2.2 with
        | nil => rfl
        | cons a l => exact absurd (decide_eq_true (by rw [c]; simp)) npos
      exact ⟨_, _, _, _, _, kvs, f, rfl, kp1, B.kp k1, by omega, fun v => by have := fl2 v; omega, ad.skip hr e⟩
  · rintro σ H1 ⟨v2, v3, v4, v5, v6, kvs, f, rfl, kp, B, kl, fl2, ad⟩
    refine ⟨_, rfl, go H1 d kvs f kp B ?_⟩
    have e : (us.reverse.map V.ref).length = (rows st).length := by rw [List.length_map, List.length_reverse, Paired.length hU]
    rw [← e]
    exact ad
end
end K15

set_option Elab.async false
set_option maxRecDepth 100000
set_option maxHeartbeats 8000000
namespace K15
open PySem L2
def StepAt (H : Hp) (u : Addr) (s : Nat × Bool) : Prop := H u = some (.tup [.int (s.1 : Int), .bl s.2])
def StepsAt (H : Hp) (t : Addr) (ss : List (Nat × Bool)) : Prop := ∃ us : List Addr, H t = some (.tup (us.map V.ref)) ∧ Paired (StepAt H) us ss
def spWay (C Cn : Addr) : Sp := fun vs H Q E => ∃ (p h m j : Addr) (n : Nat) (st : List Jn) (v1 v2 : V), vs = [.ref p, v1, v2] ∧ FAt C H p h m j n st ∧ Numb v1 ∧ Numb v2 ∧
  (∀ a b : Nat, a < n → b < n → v1 = .int (a : Int) → v2 = .int (b : Int) → hd st a = hd st b → ∀ (H' : Hp) (t : Addr) (ss : List (Nat × Bool)), Kp H H' [] → StepsAt H' t ss → ss.length ≤ 60 → WayOk (rows st).reverse b a [a] ss → Q (.ref t) H') ∧
  ((inR v1 0 ((n : Int) - 1) = false ∨ inR v2 0 ((n : Int) - 1) = false ∨ ∃ a b : Nat, a < n ∧ b < n ∧ v1 = .int (a : Int) ∧ v2 = .int (b : Int) ∧ hd st a ≠ hd st b) → E (.ref Cn) none H)
def CameAt (H : Hp) (c : Addr) (kvs : List (Key × V)) (t : Tr) : Prop := H c = some (.dK kvs) ∧ (∀ v : Nat, v ∉ keys t → valV kvs (ik v) = none) ∧ ∀ v e, (v, e) ∈ t → match e with
  | none => valV kvs (ik v) = some .non
  | some (y, pl, b) => ∃ u, valV kvs (ik v) = some (.ref u) ∧ H u = some (.tup [.int ((y : Nat) : Int), .int ((pl : Nat) : Int), .bl b])
theorem CameAt.kp {H H' : Hp} {M : List Addr} {c : Addr} {kvs : List (Key × V)} {t : Tr} (b : CameAt H c kvs t) (k : Kp H H' M) (n : c ∉ M) : CameAt H' c kvs t :=
  ⟨k.keep _ _ b.1 n, b.2.1, fun v e h => by
    have z := b.2.2 v e h
    match e, z with
    | none, z => exact z
    | some (y, pl, b), ⟨u, z1, z2⟩ => exact ⟨u, z1, k.tup z2⟩⟩
theorem CameAt.add {H : Hp} {c u : Addr} {kvs : List (Key × V)} {t : Tr} (b : CameAt H c kvs t) {x y pl : Nat} {fw : Bool} (hx : x ∉ keys t) (hu : H u = some (.tup [.int (y : Int), .int (pl : Int), .bl fw])) :
    CameAt (upd H c (.dK (putK kvs (ik x) (.ref u)))) c (putK kvs (ik x) (.ref u)) ((x, some (y, pl, fw)) :: t) := by
  have k : Kp H (upd H c (.dK (putK kvs (ik x) (.ref u)))) [c] := Kp.dic b.1
  have ikn : ∀ {x y : Nat}, x ≠ y → ik x ≠ ik y := fun {x y} h z => h (by have z : (x : Int) = (y : Int) := Sum.inl.inj z; omega)
  refine ⟨upd_same, fun v hv => ?_, fun v e h => ?_⟩
  · rw [valV_put, if_neg (ikn fun z => hv (by rw [z]; exact List.mem_cons_self))]
    exact b.2.1 v fun q => hv (List.mem_cons_of_mem _ q)
  · rcases List.mem_cons.mp h with q | q
    · cases q
      refine ⟨u, ?_, k.tup hu⟩
      rw [valV_put, if_pos rfl]
    · have ne : v ≠ x := fun z => hx (by rw [← z]; exact List.mem_map.mpr ⟨_, q, rfl⟩)
      rw [valV_put, if_neg (ikn ne)]
      have z := b.2.2 v e q
      match e, z with
      | none, z => exact z
      | some (y, pl, b), ⟨u, z1, z2⟩ => exact ⟨u, z1, k.tup z2⟩
theorem BesAt.kpM {H H' : Hp} {M : List Addr} {d : Addr} {kvs : List (Key × V)} {f : Nat → List Edge} (b : BesAt H d kvs f) (k : Kp H H' M) (n : d ∉ M) (nl : ∀ v l, valV kvs (ik v) = some (.ref l) → l ∉ M) : BesAt H' d kvs f :=
  ⟨k.keep _ _ b.1 n, fun v => (b.2 v).imp id fun ⟨l, us, a, c, e⟩ => ⟨l, us, a, k.keep _ _ c (nl v l a), Paired.mapP e fun _ _ z => z.kp k⟩⟩
/-- within a round of the search -/
structure WInv (H0 H : Hp) (bd c ll : Addr) (kvb : List (Key × V)) (f : Nat → List Edge) (t : Tr) (kvs : List (Key × V)) (later : List Nat) : Prop where
  kp : Kp H0 H []
  bes : BesAt H bd kvb f
  came : CameAt H c kvs t
  lat : H ll = some (.lst (nats later))
  nin : ∀ v l, valV kvb (ik v) = some (.ref l) → l ≠ ll ∧ l ≠ c
  bc : bd ≠ c
  cn : H0 c = none
  ln : H0 ll = none
  kl : kvs.length ≤ t.length
theorem WInv.more {H0 H H' : Hp} {bd c ll : Addr} {kvb : List (Key × V)} {f : Nat → List Edge} {t : Tr} {kvs : List (Key × V)} {later : List Nat} (W : WInv H0 H bd c ll kvb f t kvs later) (k : Kp H H' []) : WInv H0 H' bd c ll kvb f t kvs later :=
  ⟨W.kp.then k, W.bes.kp k, W.came.kp k (by simp), k.keep _ _ W.lat (by simp), W.nin, W.bc, W.cn, W.ln, W.kl⟩
theorem WInv.cl {H0 H : Hp} {bd c ll : Addr} {kvb : List (Key × V)} {f : Nat → List Edge} {t : Tr} {kvs : List (Key × V)} {later : List Nat} (W : WInv H0 H bd c ll kvb f t kvs later) : c ≠ ll := dne W.came.1 W.lat
theorem WInv.bl {H0 H : Hp} {bd c ll : Addr} {kvb : List (Key × V)} {f : Nat → List Edge} {t : Tr} {kvs : List (Key × V)} {later : List Nat} (W : WInv H0 H bd c ll kvb f t kvs later) : bd ≠ ll := dne W.bes.1 W.lat
theorem WInv.add {H0 H : Hp} {bd c ll u : Addr} {kvb : List (Key × V)} {f : Nat → List Edge} {t : Tr} {kvs : List (Key × V)} {later : List Nat} (W : WInv H0 H bd c ll kvb f t kvs later) {x y pl : Nat} {fw : Bool} (hx : x ∉ keys t) (hu : H u = some (.tup [.int (y : Int), .int (pl : Int), .bl fw])) :
    (upd H c (.dK (putK kvs (ik x) (.ref u)))) ll = some (.lst (nats later)) ∧ Kp H (upd (upd H c (.dK (putK kvs (ik x) (.ref u)))) ll (.lst (nats (later ++ [x])))) [c, ll] ∧ WInv H0 (upd (upd H c (.dK (putK kvs (ik x) (.ref u)))) ll (.lst (nats (later ++ [x])))) bd c ll kvb f ((x, some (y, pl, fw)) :: t) (putK kvs (ik x) (.ref u)) (later ++ [x]) := by
  have k1 : Kp H (upd H c (.dK (putK kvs (ik x) (.ref u)))) [c] := Kp.dic W.came.1
  have hl := k1.keep _ _ W.lat (nm1 W.cl.symm)
  have k2 : Kp (upd H c (.dK (putK kvs (ik x) (.ref u)))) (upd (upd H c (.dK (putK kvs (ik x) (.ref u)))) ll (.lst (nats (later ++ [x])))) [ll] := Kp.lst hl
  have kk := k1.trans k2 (L := [c, ll]) (by simp) (by simp) fun x hx => by
    simp only [List.mem_cons, List.not_mem_nil, or_false] at hx
    rcases hx with e | e <;> rw [e]
    · exact .inr ⟨_, W.came.1⟩
    · exact .inl ⟨_, W.lat⟩
  refine ⟨hl, kk, ⟨W.kp.fresh kk fun x hx => ?_, W.bes.kpM kk (by simp [W.bc, W.bl]) fun v l e => by simp [W.nin v l e], (W.came.add hx hu).kp k2 (nm1 W.cl), upd_same, W.nin, W.bc, W.cn, W.ln, ?_⟩⟩
  · simp only [List.mem_cons, List.not_mem_nil, or_false] at hx
    rcases hx with e | e <;> rw [e]
    · exact W.cn
    · exact W.ln
  · exact Nat.le_trans (length_putK _ _ _) (Nat.succ_le_succ W.kl)
section
variable {P : Program} {w : World} {K : PySem.W.Frag} {mg : Str → Option Value} {base : Heap}
theorem sc_way : FnScope ["self", "one", "other", "beside", "came", "edge", "later", "here", "there", "place", "forth", "found"] ["self", "one", "other"] (defScope s_Forest_way) := ⟨rfl, rfl, rfl, by decide +kernel, rfl, by decide +kernel, by decide +kernel⟩
theorem ok_way {f C Cn f1 f2 : Addr} {fd fd1 fd2 : FuncData} (F : Fun K "way" "Forest.way" s_Forest_way f fd) (T : Txt K mg C Cn) (G_Forest_find : FnOk P w K mg base (L2N.CX P w) 2 f1 fd1 ["self", "number"] (spFind C Cn)) (b_Forest_find : Binds K fd1 ["self", "number"] []) (m_Forest_find : Meth K C "find" f1)
    (G_Forest_beside : FnOk P w K mg base CX0 1 f2 fd2 ["self"] (spBeside C)) (b_Forest_beside : Binds K fd2 ["self"] []) (m_Forest_beside : Meth K C "beside" f2) :
    FnOk P w K mg base (L2N.CX P w) 3 f fd ["self", "one", "other"] (spWay C Cn) := by
  refine okN F sc_way (fun vs H Q E h => ?_) (fun cdv A outer s H vs Q E hr h => ?_)
  · obtain ⟨p, h, m, j, n, st, v1, v2, rfl, _⟩ := h
    rfl
  obtain ⟨p, h, m, j, n, st, v1, v2, rfl, R, hv1, hv2, go, ke⟩ := h
  have hu := hu_of hr
  have nd := sc_way.nd
  have hr1 : Room 1 _ := hr.mono (by decide)
  refine ⟨_, (pss_cons (ps_if (pt_cmpR op_ne (pe_meth (pv 0) T.cl m_Forest_find G_Forest_find hr b_Forest_find .nil (passN rfl rfl rfl rfl) (pa_cons (pv 1) pa_nil)) (pe_meth (pv 0) T.cl m_Forest_find G_Forest_find hr b_Forest_find .nil (passN rfl rfl rfl rfl) (pa_cons (pv 2) pa_nil)) (nomark _)) 
      (pss_one (L2N.ps_raise rfl (L2N.takes_of rfl rfl rfl rfl) (L2N.pmk_own PySem.F.excBase_ValueError T.qN T.gN T.kN (raises_own T.bN T.tN) (by exact rfl)))) pss_nil)
    (pss_cons (ps_set (i := 3) nd rfl (.inl rfl) (pe_meth0 (pv 0) T.cl m_Forest_beside G_Forest_beside hr1 b_Forest_beside .nil pass0))
    (pss_cons (ps_set (i := 4) nd rfl (.inl rfl) (pe_disp (pps_cons (pv 1) pe_non pps_nil) (by rfl) (by rfl) (fun z => by cases z) (by decide)))
    (pss_cons (ps_set (i := 5) nd rfl (.inl rfl) (pe_lst (pa_cons (pv 1) pa_nil)))
    (pss_cons (ps_while PassesOwn.leaving (pt_cmp (pc_dnotin hu (pv 2) (pv 4))) 
      (pss_cons (ps_set (i := 6) nd rfl (.inl rfl) (pe_lst pa_nil))
      (pss_cons (ps_for PassesOwn.leaving rfl (pi_list (pv 5)) (pg_name (i := 7) nd rfl (.inl rfl)) 
        (pss_one (ps_for PassesOwn.leaving rfl (pi_list (pe_dget2 hu (pv 3) (pv 7) (pe_lst pa_nil) ⟨rfl, rfl, rfl, rfl⟩)) (pg_tup rfl (pgs_cons (pg_name (i := 8) nd rfl (.inl rfl)) (pgs_cons (pg_name (i := 9) nd rfl (.inl rfl)) (pgs_cons (pg_name (i := 10) nd rfl (.inl rfl)) pgs_nil)))) 
          (pss_one (ps_if (pt_cmp (pc_dnotin hu (pv 8) (pv 4))) 
            (pss_cons (ps_dput hu (pv 4) (pv 8) (pe_tup (pa_cons (pv 7) (pa_cons (pv 9) (pa_cons (pv 10) pa_nil)))) rfl)
            (pss_one (ps_expr (pe_bm PySem.F.plainAttrs_list PySem.F.slot_list_append PySem.F.type_list_append mt_append (pv 6) (pa_cons (pv 8) pa_nil))))) pss_nil)))))
      (pss_one (ps_set (i := 5) nd rfl (.inl rfl) (pv 6))))))
    (pss_cons (ps_set (i := 11) nd rfl (.inl rfl) (pe_lst pa_nil))
    (pss_cons (ps_while PassesOwn.leaving (pt_cmpR op_notN (pe_dget hu (pv 4) (pv 2) (fun _ _ => rfl)) pe_non (nomark _)) 
      (pss_cons (ps_asg (pe_dget hu (pv 4) (pv 2) (fun _ _ => rfl)) (pg_tup rfl (pgs_cons (pg_name (i := 2) nd rfl (.inl rfl)) (pgs_cons (pg_name (i := 9) nd rfl (.inl rfl)) (pgs_cons (pg_name (i := 10) nd rfl (.inl rfl)) pgs_nil)))))
      (pss_one (ps_expr (pe_bm PySem.F.plainAttrs_list PySem.F.slot_list_append PySem.F.type_list_append mt_append (pv 11) (pa_cons (pe_tup (pa_cons (pv 9) (pa_cons (pv 10) pa_nil))) pa_nil))))))
    (pss_one (ps_ret (pe_callTy call_tuple_of (by rfl) T.B.tuple (by decide +kernel) (pa_cons (pe_revL (pv 11)) pa_nil))))))))))), ?_⟩
  obtain ⟨dx, hp⟩ := R.ob
  refine ⟨_, rfl, p, dx, _, rfl, hp, fl_no h m j (by decide +kernel) (by decide +kernel) (by decide +kernel), _, rfl, ?_⟩
  refine ⟨p, h, m, j, n, st, v1, rfl, R, hv1, fun a ha ea => ?_, fun z => ke (.inl z)⟩
  refine ⟨_, rfl, p, dx, _, rfl, hp, fl_no h m j (by decide +kernel) (by decide +kernel) (by decide +kernel), _, rfl, ?_⟩
  refine ⟨p, h, m, j, n, st, v2, rfl, R, hv2, fun b hb eb => ?_, fun z => ke (.inr (.inl z))⟩
  refine ⟨rfl, _, rfl, ?_⟩
  by_cases same : hd st a = hd st b
  case neg =>
    rw [decide_eq_false (fun z => same (by have := V.int.inj z; omega))]
    exact ke (.inr (.inr ⟨a, b, ha, hb, ea, eb, same⟩))
  rw [decide_eq_true (by rw [same])]
  subst ea eb
  refine ⟨_, rfl, p, dx, _, rfl, hp, fl_no h m j (by decide +kernel) (by decide +kernel) (by decide +kernel), ?_⟩
  refine ⟨p, h, m, j, n, st, rfl, R, fun H1 bd kvb f k1 B1 ad => ?_⟩
  intro c hc
  refine ⟨_, rfl, upd_same, [(ik a, .non)], rfl, (by show 1 ≤ 15; decide), ?_⟩
  rw [upd_upd, show mergeK [] [(ik a, V.non)] = [(ik a, V.non)] from rfl]
  have k2 : Kp H1 (upd H1 c (.dK [(ik a, .non)])) [] := Kp.new hc
  have B2 := B1.kp k2
  have hc2 : upd H1 c (.dK [(ik a, .non)]) c = some (.dK [(ik a, .non)]) := upd_same
  have bc : bd ≠ c := fun z => by
    have e := B1.1
    rw [z, hc] at e
    cases e
  have nc : ∀ v l, valV kvb (ik v) = some (.ref l) → l ≠ c := fun v l e z => by
    rcases B1.2 v with ⟨e1, _⟩ | ⟨l2, us, e1, e2, _⟩
    · rw [e1] at e; cases e
    · rw [e1] at e
      cases e
      rw [z, hc] at e2
      cases e2
  have cn : H c = none := k1.free hc (by simp)
  generalize upd H1 c (.dK [(ik a, .non)]) = H2 at k2 B2 hc2 ⊢
  have k12 := k1.then k2
  refine ⟨_, rfl, (by show 1 ≤ sizeLine; decide), fun eg heg => ?_⟩
  have k3 : Kp H2 (upd H2 eg (.lst [.int (a : Int)])) [] := Kp.new heg
  have heg3 : upd H2 eg (.lst [.int (a : Int)]) eg = some (.lst (nats [a])) := upd_same
  have C3 : CameAt (upd H2 eg (.lst [.int (a : Int)])) c [(ik a, .non)] [(a, none)] := ⟨k3.keep _ _ hc2 (by simp), fun v hv => by
    rw [valV_neg (fun z => hv (by have z : (a : Int) = (v : Int) := Sum.inl.inj z; rw [show v = a by omega]; exact List.mem_cons_self))]
    rfl, fun v e hve => by
    rw [List.mem_singleton] at hve
    cases hve
    exact valV_pos rfl⟩
  have B3 := B2.kp k3
  have k13 := k12.then k3
  generalize upd H2 eg (.lst [.int (a : Int)]) = H3 at k3 heg3 C3 B3 k13 ⊢
  have hrs : ∀ r ∈ (rows st).reverse, r.1 < n ∧ r.2.1 < n := fun r hr => rows_lt R.ok r (List.mem_reverse.mp hr)
  -- while other not in came
  refine ⟨fun i σ H' => ∃ (t : Tr) (edge : List Nat) (kvs : List (Key × V)) (eg : Addr) (v6 v7 v8 v9 v10 : Option V), σ = [some (.ref p), some (.int (a : Int)), some (.int (b : Int)), some (.ref bd), some (.ref c), some (.ref eg), v6, v7, v8, v9, v10, none] ∧
      Kp H H' [] ∧ BesAt H' bd kvb f ∧ CameAt H' c kvs t ∧ kvs.length ≤ t.length ∧ H' eg = some (.lst (nats edge)) ∧ Srch (rows st).reverse a f t edge [] ∧ i = 61 - t.length,
    ⟨60, [(a, none)], [a], _, eg, none, none, none, none, none, rfl, k13, B3, C3, Nat.le_refl _, heg3, .start, rfl⟩, ?_⟩
  rintro i σ' H4 ⟨t, edge, kvs, eg, v6, v7, v8, v9, v10, rfl, kp, B, Cm, kl, heg, S, rfl⟩
  have tl : t.length ≤ n := S.tr.len ha hrs
  have n60 := R.sz.1
  by_cases hin : b ∈ keys t
  · -- it was found
    have hv : ∃ v, valV kvs (ik b) = some v := by
      obtain ⟨⟨x, e⟩, hx, hb'⟩ := List.mem_map.mp hin
      have hb' : x = b := hb'
      subst hb'
      have z := Cm.2.2 x e hx
      match e, z with
      | none, z => exact ⟨_, z⟩
      | some (y, pl, q), ⟨u, z, _⟩ => exact ⟨_, z⟩
    obtain ⟨v, hv⟩ := hv
    refine ⟨_, rfl, _, rfl, c, some v, rfl, by rw [← hv]; exact .k (k := ik b) Cm.1, _, rfl, ?_⟩
    refine ⟨Nat.zero_le _, fun fd hfd => ?_⟩
    have k5 : Kp H4 (upd H4 fd (.lst [])) [] := Kp.new hfd
    have Cm5 := Cm.kp k5 (by simp)
    have hfd5 : upd H4 fd (.lst []) fd = some (.lst []) := upd_same
    have kp5 := kp.then k5
    have fn : H fd = none := kp.free hfd (by simp)
    generalize upd H4 fd (.lst []) = H5 at k5 Cm5 hfd5 kp5 ⊢
    obtain ⟨k0, hk0, Bk⟩ := BackAt.start (rs := (rows st).reverse) (one := a) hin
    -- while came[other] is not None
    refine ⟨fun i σ H' => ∃ (cur : Nat) (ss : List (Nat × Bool)) (us : List Addr) (v9 v10 : Option V), σ = [some (.ref p), some (.int (a : Int)), some (.int (cur : Int)), some (.ref bd), some (.ref c), some (.ref eg), v6, v7, v8, v9, v10, some (.ref fd)] ∧
        Kp H H' [] ∧ CameAt H' c kvs t ∧ H' fd = some (.lst (us.map V.ref)) ∧ Paired (StepAt H') us ss.reverse ∧ BackAt (rows st).reverse a b t cur ss i ∧ ss.length + i ≤ t.length,
      ⟨k0, b, [], [], v9, v10, rfl, kp5, Cm5, hfd5, .nil, Bk, by simp; omega⟩, ?_⟩
    rintro i σ H6 ⟨cur, ss, us, v9, v10, rfl, kp6, Cm6, hfd6, hp6, Bk6, sl⟩
    have tl := S.tr.len ha hrs
    have lu : us.length = ss.length := by rw [Paired.length hp6, List.length_reverse]
    rcases Bk6.look S.tr with ⟨hin6, e6, ns, hs, hnd, hcn⟩ | ⟨y, pl, fw, k', hin6, hk', Bk7⟩
    · have z : valV kvs (ik cur) = some .non := Cm6.2.2 cur none hin6
      refine ⟨_, rfl, _, rfl, c, .non, rfl, by rw [← z]; exact .k (k := ik cur) Cm6.1, rfl, _, rfl, ?_⟩
      refine ⟨_, rfl, fd, _, rfl, SqL.of hfd6, fun q1 hq1 => ?_⟩
      have k7 : Kp H6 (upd H6 q1 (.lst (us.map V.ref).reverse)) [] := Kp.new hq1
      refine ⟨q1, _, rfl, .inl ⟨SqL.of upd_same, fun q2 hq2 => ?_⟩⟩
      have k8 : Kp (upd H6 q1 (.lst (us.map V.ref).reverse)) (upd (upd H6 q1 (.lst (us.map V.ref).reverse)) q2 (.tup (us.map V.ref).reverse)) [] := Kp.new hq2
      refine go a b ha hb rfl rfl same _ q2 ss ((kp6.then k7).then k8) ⟨us.reverse, ?_, ?_⟩ (by omega) ?_
      · rw [upd_same, List.map_reverse]
      · have z := pairedRev hp6
        rw [List.reverse_reverse] at z
        exact Paired.mapP z fun _ _ e => k8.tup (k7.tup e)
      · rw [e6] at hs hcn
        exact hs.way hnd fun x hx q => hcn (by rw [List.mem_singleton.mp q] at hx; exact hx)
    · obtain ⟨u, z1, z2⟩ := Cm6.2.2 cur (some (y, pl, fw)) hin6
      have dg : DGet H6 c (.int (cur : Int)) (some (.ref u)) := by rw [← z1]; exact .k (k := ik cur) Cm6.1
      refine ⟨_, rfl, _, rfl, c, .ref u, rfl, dg, rfl, _, rfl, ?_⟩
      refine ⟨fun σ2 H7 => ∃ (cur : Nat) (ss : List (Nat × Bool)) (us : List Addr) (v9 v10 : Option V), σ2 = [some (.ref p), some (.int (a : Int)), some (.int (cur : Int)), some (.ref bd), some (.ref c), some (.ref eg), v6, v7, v8, v9, v10, some (.ref fd)] ∧
        Kp H H7 [] ∧ CameAt H7 c kvs t ∧ H7 fd = some (.lst (us.map V.ref)) ∧ Paired (StepAt H7) us ss.reverse ∧ BackAt (rows st).reverse a b t cur ss k' ∧ ss.length + k' ≤ t.length, fun σ2 H7 hN => ⟨k', hk', hN⟩, ?_⟩
      refine ⟨_, rfl, _, rfl, c, .ref u, rfl, dg, u, _, rfl, SqT.of z2, rfl, _, _, rfl, _, _, rfl, _, _, rfl, rfl, ?_⟩
      refine ⟨_, rfl, .inl ⟨rfl, _, SqL.of hfd6⟩, _, rfl, _, rfl, (by show 2 ≤ sizeLine; decide), fun u2 hu2 => ?_⟩
      have k7 : Kp H6 (upd H6 u2 (.tup [.int (pl : Int), .bl fw])) [] := Kp.new hu2
      have hu7 : StepAt (upd H6 u2 (.tup [.int (pl : Int), .bl fw])) u2 (pl, fw) := upd_same
      have hfd7 := k7.keep _ _ hfd6 (by simp)
      have Cm7 := Cm6.kp k7 (by simp)
      have hp7 := Paired.mapP hp6 fun _ _ e => show StepAt _ _ _ from k7.tup e
      have kp7 := kp6.then k7
      generalize upd H6 u2 (.tup [.int (pl : Int), .bl fw]) = H7 at k7 hu7 hfd7 Cm7 hp7 kp7 ⊢
      refine ⟨fd, _, _, rfl, rfl, hfd7, ?_, ?_⟩
      · rw [List.length_map]
        exact Nat.lt_of_le_of_lt (show _ ≤ 60 by omega) (by decide)
      · have k8 : Kp H7 (upd H7 fd (.lst (us.map V.ref ++ [V.ref u2]))) [fd] := Kp.lst hfd7
        refine ⟨y, (pl, fw) :: ss, us ++ [u2], _, _, rfl, kp7.fresh k8 fun x hx => by rw [List.mem_singleton.mp hx]; exact fn, Cm7.kp k8 (nm1 (dne Cm7.1 hfd7)), ?_, ?_, Bk7, by simp; omega⟩
        · rw [upd_same, List.map_append]
          rfl
        · rw [List.reverse_cons]
          exact pairedSnoc (Paired.mapP hp7 fun _ _ e => show StepAt _ _ _ from k8.tup e) (k8.tup hu7)
  · refine ⟨_, rfl, _, rfl, c, none, rfl, by rw [← Cm.2.1 b hin]; exact .k (k := ik b) Cm.1, _, rfl, ?_⟩
    refine ⟨fun σ2 H5 => ∃ (t2 : Tr) (edge : List Nat) (kvs : List (Key × V)) (eg : Addr) (v6 v7 v8 v9 v10 : Option V), σ2 = [some (.ref p), some (.int (a : Int)), some (.int (b : Int)), some (.ref bd), some (.ref c), some (.ref eg), v6, v7, v8, v9, v10, none] ∧
      Kp H H5 [] ∧ BesAt H5 bd kvb f ∧ CameAt H5 c kvs t2 ∧ kvs.length ≤ t2.length ∧ H5 eg = some (.lst (nats edge)) ∧ Srch (rows st).reverse a f t2 edge [] ∧ t.length < t2.length, fun σ2 H5 ⟨t2, edge, kvs, eg, v6, v7, v8, v9, v10, e1, e2, e3, e4, e5, e6, e7, e8⟩ => ⟨61 - t2.length, by have := e7.tr.len ha hrs; omega, t2, edge, kvs, eg, v6, v7, v8, v9, v10, e1, e2, e3, e4, e5, e6, e7, rfl⟩, ?_⟩
    refine ⟨Nat.zero_le _, fun ll hll => ?_⟩
    have k5 : Kp H4 (upd H4 ll (.lst [])) [] := Kp.new hll
    have hegl : eg ≠ ll := ne_of_none heg hll
    have W0 : WInv H (upd H4 ll (.lst [])) bd c ll kvb f t kvs [] := ⟨kp.then k5, B.kp k5, Cm.kp k5 (by simp), upd_same, fun v l e => ⟨(fun z => by
      rcases B.2 v with ⟨e1, _⟩ | ⟨l2, us, e1, e2, _⟩
      · rw [e1] at e; cases e
      · rw [e1] at e
        cases e
        rw [z, hll] at e2
        cases e2), nc v l e⟩, bc, cn, kp.free hll (by simp), kl⟩
    have heg5 := k5.keep _ _ heg (by simp)
    generalize upd H4 ll (.lst []) = H5 at k5 W0 heg5 ⊢
    -- for here in edge
    refine ⟨_, rfl, eg, rfl, ⟨_, SqL.of heg5⟩, for_list (K := K) (a := eg) (xs := nats edge)
      (fun i σ H' => ∃ (t2 : Tr) (kvs2 : List (Key × V)) (later : List Nat) (v7 v8 v9 v10 : Option V), σ = [some (.ref p), some (.int (a : Int)), some (.int (b : Int)), some (.ref bd), some (.ref c), some (.ref eg), some (.ref ll), v7, v8, v9, v10, none] ∧
        WInv H H' bd c ll kvb f t2 kvs2 later ∧ H' eg = some (.lst (nats edge)) ∧ Srch (rows st).reverse a f t2 (edge.drop i) later ∧ t2.length = t.length + later.length ∧ ∃ ext, t2 = ext ++ t)
      ⟨t, kvs, [], v7, v8, v9, v10, rfl, W0, heg5, S, rfl, [], rfl⟩ (fun i σ H' _ ⟨_, _, _, _, _, _, _, _, _, e, _⟩ => SqL.of e) ?_ ?_⟩
    · rintro i y σ H6 hi ⟨t2, kvs2, later, v7, v8, v9, v10, rfl, W, heg6, S2, tl2, ext, ex2⟩
      obtain ⟨x, rfl, hx⟩ := nats_at hi
      have dr : edge.drop i = x :: edge.drop (i + 1) := by
        rw [List.drop_eq_getElem_cons (List.getElem?_eq_some_iff.mp hx).1, (List.getElem?_eq_some_iff.mp hx).2]
      rw [dr] at S2
      have hxt : x ∈ keys t2 := S2.sub2 x List.mem_cons_self
      refine ⟨_, rfl, bd, rfl, .inl ⟨_, Rd.of W.bes.1⟩, _, rfl, Nat.zero_le _, fun e he => ?_⟩
      have k6 : Kp H6 (upd H6 e (.lst [])) [] := Kp.new he
      have W7 := W.more k6
      have he7 : upd H6 e (.lst []) e = some (.lst []) := upd_same
      have heg7 := k6.keep _ _ heg6 (by simp)
      have ell : e ≠ ll := fun z => by
        have q := W.lat
        rw [← z, he] at q
        cases q
      generalize upd H6 e (.lst []) = H7 at k6 W7 he7 heg7 ⊢
      obtain ⟨o, q1, us1, d1, d2, d3, d4, d5⟩ := W7.bes.look x he7
      have q1l : q1 ≠ ll := by
        rcases d5 with z | z
        · rw [z]; exact ell
        · exact (W7.nin x q1 z).1
      refine ⟨o, d1, q1, d2, ⟨_, SqL.of d3⟩, for_list (K := K) (a := q1) (xs := us1.map V.ref)
        (fun k σ H' => ∃ (t3 : Tr) (kvs3 : List (Key × V)) (later3 : List Nat) (v8 v9 v10 : Option V), σ = [some (.ref p), some (.int (a : Int)), some (.int (b : Int)), some (.ref bd), some (.ref c), some (.ref eg), some (.ref ll), some (.int (x : Int)), v8, v9, v10, none] ∧
          WInv H H' bd c ll kvb f t3 kvs3 later3 ∧ H' eg = some (.lst (nats edge)) ∧ Srch (rows st).reverse a f t3 (x :: edge.drop (i + 1)) later3 ∧ t3.length = t.length + later3.length ∧ (∃ ext, t3 = ext ++ t) ∧ (∀ d ∈ (f x).take k, d.1 ∈ keys t3) ∧ H' q1 = some (.lst (us1.map V.ref)) ∧ Paired (EdgeAt H') us1 (f x) ∧ x ∈ keys t3)
        ⟨t2, kvs2, later, v8, v9, v10, rfl, W7, heg7, S2, tl2, ⟨ext, ex2⟩, fun d hd => by simp at hd, d3, d4, hxt⟩ (fun i σ H' _ ⟨_, _, _, _, _, _, _, _, _, _, _, _, _, e, _⟩ => SqL.of e) ?_ ?_⟩
      · rintro k z σ H8 hk ⟨t3, kvs3, later3, v8, v9, v10, rfl, W8, heg8, S3, tl3, ⟨ext3, ex3⟩, dn, hq1, hp8, hxt3⟩
        rw [List.getElem?_map] at hk
        cases eu : us1[k]? with
        | none => rw [eu] at hk; cases hk
        | some u =>
        rw [eu] at hk
        cases hk
        obtain ⟨⟨y, pl, fw⟩, hd, hu8⟩ := pairedAt hp8 eu
        have hu8 : H8 u = some (.tup [.int (y : Int), .int (pl : Int), .bl fw]) := hu8
        have tk : (f x).take (k + 1) = (f x).take k ++ [(y, pl, fw)] := by
          rw [List.take_succ, hd]
          rfl
        have t3l : t3.length ≤ n := S3.tr.len ha hrs
        refine ⟨u, _, rfl, SqT.of hu8, rfl, _, _, rfl, _, _, rfl, _, _, rfl, rfl, ?_⟩
        by_cases hy : y ∈ keys t3
        · have hv : ∃ v, valV kvs3 (ik y) = some v := by
            obtain ⟨⟨x, e⟩, hx, hb'⟩ := List.mem_map.mp hy
            have hb' : x = y := hb'
            subst hb'
            have z := W8.came.2.2 x e hx
            match e, z with
            | none, z => exact ⟨_, z⟩
            | some (y, pl, q), ⟨u, z, _⟩ => exact ⟨_, z⟩
          obtain ⟨v, hv⟩ := hv
          refine ⟨_, rfl, _, rfl, c, some v, rfl, by rw [← hv]; exact .k (k := ik y) W8.came.1, _, rfl, ?_⟩
          refine ⟨t3, kvs3, later3, _, _, _, rfl, W8, heg8, S3, tl3, ⟨ext3, ex3⟩, fun d hd => ?_, hq1, hp8, hxt3⟩
          rw [tk] at hd
          rcases List.mem_append.mp hd with q | q
          · exact dn d q
          · rw [List.mem_singleton.mp q]
            exact hy
        · refine ⟨_, rfl, _, rfl, c, none, rfl, by rw [← W8.came.2.1 y hy]; exact .k (k := ik y) W8.came.1, _, rfl, ?_⟩
          refine ⟨_, rfl, _, rfl, _, rfl, (by show 3 ≤ sizeLine; decide), fun u2 hu2 => ?_⟩
          have k9 : Kp H8 (upd H8 u2 (.tup [.int (x : Int), .int (pl : Int), .bl fw])) [] := Kp.new hu2
          have hu9 : upd H8 u2 (.tup [.int (x : Int), .int (pl : Int), .bl fw]) u2 = some (.tup [.int (x : Int), .int (pl : Int), .bl fw]) := upd_same
          have W9 := W8.more k9
          have heg9 := k9.keep _ _ heg8 (by simp)
          have hq9 := k9.keep _ _ hq1 (by simp)
          have hp9 := Paired.mapP hp8 fun _ _ z => EdgeAt.kp k9 z
          generalize upd H8 u2 (.tup [.int (x : Int), .int (pl : Int), .bl fw]) = H9 at k9 hu9 W9 heg9 hq9 hp9 ⊢
          have lk : kvs3.length < sizeLine := Nat.lt_of_le_of_lt (Nat.le_trans W9.kl (Nat.le_trans t3l n60)) (by decide)
          obtain ⟨hl, kk, WA⟩ := W9.add hy hu9
          refine ⟨_, rfl, _, rfl, c, _, rfl, .k (k := ik y) W9.came.1 lk, ?_⟩
          refine ⟨_, rfl, .inl ⟨rfl, _, SqL.of hl⟩, _, rfl, ll, _, _, rfl, rfl, hl, ?_, ?_⟩
          · rw [nats_len]
            exact Nat.lt_of_le_of_lt (show _ ≤ 60 by omega) (by decide)
          · rw [nats_snoc]
            have hE : EdgeOk (rows st).reverse x (y, pl, fw) := ad.sound x _ (List.mem_of_getElem? hd)
            refine ⟨_, _, later3 ++ [y], _, _, _, rfl, WA, kk.keep _ _ heg9 (by simp [hegl, (dne W9.came.1 heg9).symm]), S3.add hxt3 hy hE, ?_, ⟨_ :: ext3, by rw [ex3]; rfl⟩, fun d hd => ?_, kk.keep _ _ hq9 (by simp [q1l, (dne W9.came.1 hq9).symm]), Paired.mapP hp9 fun _ _ z => EdgeAt.kp kk z, List.mem_cons_of_mem _ hxt3⟩
            · rw [List.length_cons, List.length_append, tl3]
              rfl
            · rw [tk] at hd
              rcases List.mem_append.mp hd with q | q
              · exact List.mem_cons_of_mem _ (dn d q)
              · rw [List.mem_singleton.mp q]
                exact List.mem_cons_self
      · rintro σ H8 ⟨t3, kvs3, later3, v8, v9, v10, rfl, W8, heg8, S3, tl3, ⟨ext3, ex3⟩, dn, hq1, hp8, hxt3⟩
        have el : (us1.map V.ref).length = (f x).length := by rw [List.length_map, Paired.length hp8]
        rw [el, List.take_length] at dn
        exact ⟨t3, kvs3, later3, _, v8, v9, v10, rfl, W8, heg8, S3.next dn, tl3, ext3, ex3⟩
    · rintro σ H6 ⟨t2, kvs2, later, v7, v8, v9, v10, rfl, W, heg6, S2, tl2, ext, ex2⟩
      rw [nats_len, List.drop_length] at S2
      refine ⟨_, rfl, t2, later, kvs2, ll, _, v7, v8, v9, v10, rfl, W.kp, W.bes, W.came, W.kl, W.lat, S2.round, ?_⟩
      cases later with
      | cons y l =>
        rw [tl2, List.length_cons]
        omega
      | nil =>
        exfalso
        have e0 : ext = [] := by
          cases ext with
          | nil => rfl
          | cons q l =>
            rw [ex2, List.length_append] at tl2
            simp at tl2
        rw [e0] at ex2
        have z := S2.all ad same
        rw [ex2] at z
        exact hin z
end
end K15

set_option Elab.async false
set_option maxRecDepth 100000
set_option maxHeartbeats 8000000
namespace K15
open PySem L2
/-- alike in kind and worth, n deep: numbers, None, lists, tuples -/
def Alk (H : Hp) : Nat → V → V → Prop
  | 0, x, y => (∃ i, x = .int i ∧ y = .int i) ∨ (x = .non ∧ y = .non)
  | n + 1, x, y => Alk H n x y ∨ (∃ a b xs ys, x = .ref a ∧ y = .ref b ∧ H a = some (.lst xs) ∧ H b = some (.lst ys) ∧ Paired (Alk H n) xs ys ∧ ys.length ≤ 1000) ∨
    ∃ a b xs ys, x = .ref a ∧ y = .ref b ∧ H a = some (.tup xs) ∧ H b = some (.tup ys) ∧ Paired (Alk H n) xs ys ∧ ys.length ≤ 1000
theorem Alk.kp {H H' : Hp} (k : Kp H H' []) : ∀ {n : Nat} {x y : V}, Alk H n x y → Alk H' n x y
  | 0, _, _, h => h
  | n + 1, _, _, .inl h => .inl (Alk.kp k h)
  | n + 1, _, _, .inr (.inl ⟨a, b, xs, ys, e1, e2, h1, h2, p, l⟩) => .inr (.inl ⟨a, b, xs, ys, e1, e2, k.keep _ _ h1 (by simp), k.keep _ _ h2 (by simp), Paired.mapP p fun _ _ z => Alk.kp k z, l⟩)
  | n + 1, _, _, .inr (.inr ⟨a, b, xs, ys, e1, e2, h1, h2, p, l⟩) => .inr (.inr ⟨a, b, xs, ys, e1, e2, k.tup h1, k.tup h2, Paired.mapP p fun _ _ z => Alk.kp k z, l⟩)
def spAlike (n : Nat) : Sp := fun vs H Q _ => ∃ (x y : V), vs = [x, y] ∧ Alk H n x y ∧ ∀ H', Kp H H' [] → Q (.bl true) H'
section
variable {X : Cx}
theorem ixQK (K : PySem.W.Frag) (h : X.K = K := by rfl) : IxR X (rIx K) := by subst h; exact ix_seq
theorem ixLK (K : PySem.W.Frag) (h : X.K = K := by rfl) : IxR X (rIxL K) := by subst h; exact ix_list
theorem ixTK (K : PySem.W.Frag) (h : X.K = K := by rfl) : IxR X (rIxT K) := by subst h; exact ix_tup
theorem slTK (K : PySem.W.Frag) (h : X.K = K := by rfl) : SlR X (rSlT K) := by subst h; exact sl_tup
def rTupOf (K : PySem.W.Frag) : List V → Hp → VK → Prop := fun xs H Q => ∃ p ys, xs = [V.ref p] ∧ ((SqL K H p ys ∧ ∀ l, H l = none → Q (.ref l) (upd H l (.tup ys))) ∨ (SqT K H p ys ∧ Q (.ref p) H))
theorem tupOfK (K : PySem.W.Frag) (h : X.K = K := by rfl) : CallR X (.type "tuple") (rTupOf K) := by subst h; exact call_tuple_of
theorem neDK (K : PySem.W.Frag) (hu : X.A.units + 64 < cLine) (h : X.K = K := by rfl) : OpR X (compareOp .NotEq) (rNeD K) := by subst h; exact op_neD hu
end
section
variable {P : Program} {w : World} {K : PySem.W.Frag} {mg : Str → Option Value} {base : Heap}
theorem sc_alike : FnScope ["found", "due", "k"] ["found", "due"] (defScope s__law_alike) := ⟨rfl, rfl, rfl, by decide +kernel, rfl, by decide +kernel, by decide +kernel⟩
/-- what stands behind the first if -/
def Atom (x y : V) : Prop := (∃ i, x = .int i ∧ y = .int i) ∨ (x = .non ∧ y = .non)
theorem ok_alike_step {f C Cn : Addr} {fd : FuncData} (F : Fun K "_law_alike" "_law_alike" s__law_alike f fd) (T : Txt K mg C Cn) (b : Binds K fd ["found", "due"] []) (g : mg "_law_alike" = some (.ref f)) {k : Nat} {sp0 : Sp} (G : FnOk P w K mg base CX0 k f fd ["found", "due"] sp0)
    {Ak : Hp → V → V → Prop} (h0 : ∀ H x y, Ak H x y → ∀ Q E, (∀ H', Kp H H' [] → Q (.bl true) H') → sp0 [x, y] H Q E) (hk : ∀ H H' x y, Kp H H' [] → Ak H x y → Ak H' x y) :
    FnOk P w K mg base CX0 (k + 1) f fd ["found", "due"] (fun vs H Q _ => ∃ (x y : V), vs = [x, y] ∧ (Atom x y ∨ (∃ a b xs ys, x = .ref a ∧ y = .ref b ∧ H a = some (.lst xs) ∧ H b = some (.lst ys) ∧ Paired (Ak H) xs ys ∧ ys.length ≤ 1000) ∨
      ∃ a b xs ys, x = .ref a ∧ y = .ref b ∧ H a = some (.tup xs) ∧ H b = some (.tup ys) ∧ Paired (Ak H) xs ys ∧ ys.length ≤ 1000) ∧ ∀ H', Kp H H' [] → Q (.bl true) H') := by
  refine F.ok sc_alike (fun vs H Q E h => ?_) (fun cdv A outer s H vs Q E hr h => ?_)
  · obtain ⟨x, y, rfl, _⟩ := h
    rfl
  obtain ⟨x, y, rfl, hA, go⟩ := h
  have nd := sc_alike.nd
  have hv := hr.units
  refine ⟨_, (pss_cons (ps_if (PW.pt (pw_or (pt_val (pe_callB call_isi (by rfl) T.B.isinstance (by decide +kernel) (pa_cons (pv 1) (pa_cons (pe_bltn (v := .ty "list") (by rfl) T.B.list (by decide +kernel) rfl) pa_nil)))) (pw_or1 (pt_val (pe_callB call_isi (by rfl) T.B.isinstance (by decide +kernel) (pa_cons (pv 1) (pa_cons (pe_bltn (v := .ty "tuple") (by rfl) T.B.tuple (by decide +kernel) rfl) pa_nil))))))) 
      (pss_cons (ps_if (PW.pt (pw_or (pt_cmpR op_ne (pe_callB call_isi (by rfl) T.B.isinstance (by decide +kernel) (pa_cons (pv 0) (pa_cons (pe_bltn (v := .ty "list") (by rfl) T.B.list (by decide +kernel) rfl) pa_nil))) (pe_callB call_isi (by rfl) T.B.isinstance (by decide +kernel) (pa_cons (pv 1) (pa_cons (pe_bltn (v := .ty "list") (by rfl) T.B.list (by decide +kernel) rfl) pa_nil))) (nomark _)) (pw_or1 (pt_cmpR op_ne (pe_callB call_isi (by rfl) T.B.isinstance (by decide +kernel) (pa_cons (pv 0) (pa_cons (pe_bltn (v := .ty "tuple") (by rfl) T.B.tuple (by decide +kernel) rfl) pa_nil))) (pe_callB call_isi (by rfl) T.B.isinstance (by decide +kernel) (pa_cons (pv 1) (pa_cons (pe_bltn (v := .ty "tuple") (by rfl) T.B.tuple (by decide +kernel) rfl) pa_nil))) (nomark _))))) 
        (pss_one (ps_ret pe_bl)) pss_nil)
      (pss_one (ps_ret (pe_and (pe_cmpR op_eq (pe_callB call_len_seq (by rfl) T.B.len (by decide +kernel) (pa_cons (pv 0) pa_nil)) (pe_callB call_len_seq (by rfl) T.B.len (by decide +kernel) (pa_cons (pv 1) pa_nil)) (nomark _)) (pe_one (pe_cmpR (op_eqD hv) (pe_lc (own := [("k", 2)]) (g := gName 2) rfl nd (pi_range1 (by rfl) T.B.range (pa_cons (pe_callB call_len_seq (by rfl) T.B.len (by decide +kernel) (pa_cons (pv 1) pa_nil)) pa_nil)) (blkOk_by (N := ["found", "due", "k"]) (sc := defScope s__law_alike) (by decide +kernel)) (fun _ _ _ _ _ => (pg_name (i := 2) nd rfl (.inl rfl))) (fun _ _ _ _ _ => (pts_one (pt_not (pt_val (pe_call G hr (by rfl) g F.kp b .nil pass0 (pa_cons (pe_ix (ixQK K) (pv 0) (pv 2) (fun _ _ => rfl)) (pa_cons (pe_ix (ixQK K) (pv 1) (pv 2) (fun _ _ => rfl)) pa_nil))))))) (fun _ _ _ _ _ => (pv 2))) (pe_lst pa_nil) (nomark _))))))) pss_nil)
    (pss_cons (ps_if (pt_cmpR op_isN (pv 1) pe_non (nomark _)) 
      (pss_one (ps_ret (pe_cmpR op_isN (pv 0) pe_non (nomark _)))) pss_nil)
    (pss_cons (ps_if (PW.pt (pw_or (pt_val (pe_callB call_isi (by rfl) T.B.isinstance (by decide +kernel) (pa_cons (pv 1) (pa_cons (pe_bltn (v := .ty "bool") (by rfl) T.B.bool (by decide +kernel) rfl) pa_nil)))) (pw_or1 (pt_val (pe_callB call_isi (by rfl) T.B.isinstance (by decide +kernel) (pa_cons (pv 0) (pa_cons (pe_bltn (v := .ty "bool") (by rfl) T.B.bool (by decide +kernel) rfl) pa_nil))))))) 
      (pss_one (ps_ret (pe_and (pe_callB call_isi (by rfl) T.B.isinstance (by decide +kernel) (pa_cons (pv 0) (pa_cons (pe_bltn (v := .ty "bool") (by rfl) T.B.bool (by decide +kernel) rfl) pa_nil))) (pe_and (pe_callB call_isi (by rfl) T.B.isinstance (by decide +kernel) (pa_cons (pv 1) (pa_cons (pe_bltn (v := .ty "bool") (by rfl) T.B.bool (by decide +kernel) rfl) pa_nil))) (pe_one (pe_cmpR op_eq (pv 0) (pv 1) (nomark _))))))) pss_nil)
    (pss_cons (ps_if (pt_val (pe_callB call_isi (by rfl) T.B.isinstance (by decide +kernel) (pa_cons (pv 1) (pa_cons (pe_bltn (v := .ty "int") (by rfl) T.B.int (by decide +kernel) rfl) pa_nil)))) 
      (pss_one (ps_ret (pe_and (pe_callB call_isi (by rfl) T.B.isinstance (by decide +kernel) (pa_cons (pv 0) (pa_cons (pe_bltn (v := .ty "int") (by rfl) T.B.int (by decide +kernel) rfl) pa_nil))) (pe_one (pe_cmpR op_eq (pv 0) (pv 1) (nomark _)))))) pss_nil)
    (pss_one (ps_ret (pe_and (pe_callB call_isi (by rfl) T.B.isinstance (by decide +kernel) (pa_cons (pv 0) (pa_cons (pe_bltn (v := .ty "str") (by rfl) T.B.str (by decide +kernel) rfl) pa_nil))) (pe_one (pe_cmpR op_eq (pv 0) (pv 1) (nomark _)))))))))), ?_⟩
  rcases hA with hA | ⟨a, b, xs, ys, rfl, rfl, ha, hb, hp, hl⟩ | ⟨a, b, xs, ys, rfl, rfl, ha, hb, hp, hl⟩
  · rcases hA with ⟨i, rfl, rfl⟩ | ⟨rfl, rfl⟩
    · refine ⟨_, rfl, _, .ty "list", _, _, false, rfl, .ty _, .base (.int _), kit_ty (by decide +kernel), false, rfl, ?_⟩
      refine ⟨_, rfl, _, .ty "tuple", _, _, false, rfl, .ty _, .base (.int _), kit_ty (by decide +kernel), false, rfl, ?_⟩
      refine ⟨_, rfl, rfl, _, rfl, ?_⟩
      rw [decide_eq_false (show ¬ V.int i = V.non from fun z => nomatch z)]
      refine ⟨_, rfl, _, .ty "bool", _, _, false, rfl, .ty _, .base (.int _), kit_ty (by decide +kernel), false, rfl, ?_⟩
      refine ⟨_, rfl, _, .ty "bool", _, _, false, rfl, .ty _, .base (.int _), kit_ty (by decide +kernel), false, rfl, ?_⟩
      refine ⟨_, rfl, _, .ty "int", _, _, true, rfl, .ty _, .base (.int _), kit_ty (by decide +kernel), true, rfl, ?_⟩
      refine ⟨_, rfl, _, .ty "int", _, _, true, rfl, .ty _, .base (.int _), kit_ty (by decide +kernel), true, rfl, ?_⟩
      refine ⟨_, rfl, _, rfl, rfl, ?_⟩
      rw [decide_eq_true rfl]
      exact go H (Kp.refl H)
    · refine ⟨_, rfl, _, .ty "list", _, _, false, rfl, .ty _, .base .non, kit_ty (by decide +kernel), false, rfl, ?_⟩
      refine ⟨_, rfl, _, .ty "tuple", _, _, false, rfl, .ty _, .base .non, kit_ty (by decide +kernel), false, rfl, ?_⟩
      refine ⟨_, rfl, rfl, _, rfl, ?_⟩
      rw [decide_eq_true rfl]
      refine ⟨_, rfl, rfl, ?_⟩
      rw [decide_eq_true rfl]
      exact go H (Kp.refl H)
  · -- two lists
    refine ⟨_, rfl, _, .ty "list", _, _, true, rfl, .ty _, .base (.lst hb), kit_ty (by decide +kernel), true, rfl, ?_⟩
    refine ⟨_, rfl, _, .ty "list", _, _, true, rfl, .ty _, .base (.lst ha), kit_ty (by decide +kernel), _, rfl, _, .ty "list", _, _, true, rfl, .ty _, .base (.lst hb), kit_ty (by decide +kernel), rfl, false, rfl, ?_⟩
    refine ⟨_, rfl, _, .ty "tuple", _, _, false, rfl, .ty _, .base (.lst ha), kit_ty (by decide +kernel), _, rfl, _, .ty "tuple", _, _, false, rfl, .ty _, .base (.lst hb), kit_ty (by decide +kernel), rfl, false, rfl, ?_⟩
    have el : xs.length = ys.length := Paired.length hp
    refine ⟨_, rfl, a, xs, rfl, .inl (SqL.of ha), _, rfl, b, ys, rfl, .inl (SqL.of hb), rfl, true, congrArg V.bl (decide_eq_true (by rw [el])), ?_⟩
    refine ⟨_, rfl, b, ys, rfl, .inl (SqL.of hb), _, rfl, (by omega), (by omega), fun D hD => ?_⟩
    rw [Int.toNat_natCast]
    refine lc_range (fun i H' => Kp H H' [] ∧ H' D = some (.lst [])) ⟨Kp.new hD, upd_same⟩ (fun i H' hi ⟨kp, hD'⟩ => ?_) (fun H' ⟨kp, hD'⟩ => ?_)
    · obtain ⟨z, hz⟩ : ∃ z, xs[i]? = some z := ⟨xs[i]'(by omega), List.getElem?_eq_getElem (by omega)⟩
      obtain ⟨y, hy, hzy⟩ := pairedAt hp hz
      refine ⟨rfl, _, rfl, _, rfl, .inl ⟨a, xs, _, z, rfl, rfl, SqL.of (kp.keep _ _ ha (by simp)), at_of (j := i) (by simp) hz, _, rfl, _, rfl, .inl ⟨b, ys, _, y, rfl, rfl, SqL.of (kp.keep _ _ hb (by simp)), at_of (j := i) (by simp) hy, ?_⟩⟩⟩
      exact h0 _ z y (hk _ _ _ _ kp hzy) _ _ fun H2 k2 => ⟨true, rfl, kp.then k2, k2.keep _ _ hD' (by simp)⟩
    · refine ⟨Nat.zero_le _, fun e he => ?_⟩
      refine ⟨.list [], .list [], .lst (SqL.of ((upd_ne (ne_of_none hD' he)).trans hD')) .nil, .lst (SqL.of upd_same) .nil, rfl, rfl, ?_⟩
      exact go _ (kp.then (Kp.new he))
  · -- two tuples
    refine ⟨_, rfl, _, .ty "list", _, _, false, rfl, .ty _, .base (.tup hb), kit_ty (by decide +kernel), false, rfl, ?_⟩
    refine ⟨_, rfl, _, .ty "tuple", _, _, true, rfl, .ty _, .base (.tup hb), kit_ty (by decide +kernel), true, rfl, ?_⟩
    refine ⟨_, rfl, _, .ty "list", _, _, false, rfl, .ty _, .base (.tup ha), kit_ty (by decide +kernel), _, rfl, _, .ty "list", _, _, false, rfl, .ty _, .base (.tup hb), kit_ty (by decide +kernel), rfl, false, rfl, ?_⟩
    refine ⟨_, rfl, _, .ty "tuple", _, _, true, rfl, .ty _, .base (.tup ha), kit_ty (by decide +kernel), _, rfl, _, .ty "tuple", _, _, true, rfl, .ty _, .base (.tup hb), kit_ty (by decide +kernel), rfl, false, rfl, ?_⟩
    have el : xs.length = ys.length := Paired.length hp
    refine ⟨_, rfl, a, xs, rfl, .inr (SqT.of ha), _, rfl, b, ys, rfl, .inr (SqT.of hb), rfl, true, congrArg V.bl (decide_eq_true (by rw [el])), ?_⟩
    refine ⟨_, rfl, b, ys, rfl, .inr (SqT.of hb), _, rfl, (by omega), (by omega), fun D hD => ?_⟩
    rw [Int.toNat_natCast]
    refine lc_range (fun i H' => Kp H H' [] ∧ H' D = some (.lst [])) ⟨Kp.new hD, upd_same⟩ (fun i H' hi ⟨kp, hD'⟩ => ?_) (fun H' ⟨kp, hD'⟩ => ?_)
    · obtain ⟨z, hz⟩ : ∃ z, xs[i]? = some z := ⟨xs[i]'(by omega), List.getElem?_eq_getElem (by omega)⟩
      obtain ⟨y, hy, hzy⟩ := pairedAt hp hz
      refine ⟨rfl, _, rfl, _, rfl, .inr (.inl ⟨a, xs, _, z, rfl, rfl, SqT.of (kp.tup ha), at_of (j := i) (by simp) hz, _, rfl, _, rfl, .inr (.inl ⟨b, ys, _, y, rfl, rfl, SqT.of (kp.tup hb), at_of (j := i) (by simp) hy, ?_⟩)⟩)⟩
      exact h0 _ z y (hk _ _ _ _ kp hzy) _ _ fun H2 k2 => ⟨true, rfl, kp.then k2, k2.keep _ _ hD' (by simp)⟩
    · refine ⟨Nat.zero_le _, fun e he => ?_⟩
      refine ⟨.list [], .list [], .lst (SqL.of ((upd_ne (ne_of_none hD' he)).trans hD')) .nil, .lst (SqL.of upd_same) .nil, rfl, rfl, ?_⟩
      exact go _ (kp.then (Kp.new he))
end
/-- for each depth -/
theorem ok_alike {P : Program} {w : World} {K : PySem.W.Frag} {mg : Str → Option Value} {base : Heap} {f C Cn : Addr} {fd : FuncData} (F : Fun K "_law_alike" "_law_alike" s__law_alike f fd) (T : Txt K mg C Cn) (b : Binds K fd ["found", "due"] []) (g : mg "_law_alike" = some (.ref f)) : ∀ n : Nat, FnOk P w K mg base CX0 (n + 2) f fd ["found", "due"] (spAlike n)
  | 0 => by
    have G : FnOk P w K mg base CX0 1 f fd ["found", "due"] (fun _ _ _ _ => False) := ⟨fun _ _ _ _ h => h.elim, fun _ _ _ _ _ _ _ _ _ _ _ _ _ h => h.elim⟩
    have G2 := ok_alike_step F T b g G (Ak := fun _ _ _ => False) (fun _ _ _ h => h.elim) (fun _ _ _ _ _ h => h)
    refine ⟨fun vs H Q E h => ?_, fun A outer s H args us vs Q E hr e0 hb hv h => G2.run A outer s H args us vs Q E hr e0 hb hv ?_⟩
    · obtain ⟨x, y, rfl, _⟩ := h
      rfl
    · obtain ⟨x, y, rfl, h, go⟩ := h
      exact ⟨x, y, rfl, .inl h, go⟩
  | n + 1 => by
    have G := ok_alike F T b g n (P := P) (w := w) (base := base)
    have G2 := ok_alike_step F T b g G (Ak := fun H x y => Alk H n x y) (fun H x y h Q E q => ⟨x, y, rfl, h, q⟩) (fun H H' x y k h => h.kp k)
    refine ⟨fun vs H Q E h => ?_, fun A outer s H args us vs Q E hr e0 hb hv h => ?_⟩
    · obtain ⟨x, y, rfl, _⟩ := h
      rfl
    · obtain ⟨x, y, rfl, h | h | h, go⟩ := h
      · exact G.run A outer s H args us [x, y] Q E (hr.mono (Nat.le_succ _)) e0 hb hv ⟨x, y, rfl, h, go⟩
      · exact G2.run A outer s H args us [x, y] Q E hr e0 hb hv ⟨x, y, rfl, .inr (.inl h), go⟩
      · exact G2.run A outer s H args us [x, y] Q E hr e0 hb hv ⟨x, y, rfl, .inr (.inr h), go⟩
end K15

set_option Elab.async false
set_option maxRecDepth 100000
set_option maxHeartbeats 8000000
namespace K15
open PySem L2
/-- the classes of errors -/
structure Ers (K : PySem.W.Frag) (mg : Str → Option Value) (Ce Co Cm Cn Cr Ct : Addr) : Prop where
  gE : mg "EqualError" = some (.ref Ce)
  gO : mg "OutOfRange" = some (.ref Co)
  gM : mg "Malformed" = some (.ref Cm)
  gN : mg "NotThere" = some (.ref Cn)
  gR : mg "Refused" = some (.ref Cr)
  gT : mg "TooMuch" = some (.ref Ct)
  kO : PySem.W.kitOne K (.ref Cn) (.ref Co) = some false
  kM : PySem.W.kitOne K (.ref Cn) (.ref Cm) = some false
  kN : PySem.W.kitOne K (.ref Cn) (.ref Cn) = some true
  kR : PySem.W.kitOne K (.ref Cn) (.ref Cr) = some false
  kT : PySem.W.kitOne K (.ref Cn) (.ref Ct) = some false
  ex : ExcC K Cn
  em : PySem.W.exmOne K (.ref Cn) (.ref Ce) = some true
def Zw (Cn : Addr) : Obj → Prop := fun o => Zc (.ref Cn) none o ∧ ∃ vs, o.data = .fields vs
def spWord : Addr → Sp := fun a vs H Q _ => vs = [.ref a] ∧ ∀ H', Kp H H' [] → Q (.str "none") H'
section
variable {P : Program} {w : World} {K : PySem.W.Frag} {mg : Str → Option Value} {base : Heap}
theorem sc_word : FnScope ["e", "kinds", "kind"] ["e"] (defScope s__law_word) := ⟨rfl, rfl, rfl, by decide +kernel, rfl, by decide +kernel, by decide +kernel⟩
theorem ok_word {f C Ce Co Cm Cn Cr Ct : Addr} {fd : FuncData} (F : Fun K "_law_word" "_law_word" s__law_word f fd) (T : Txt K mg C Cn) (R : Ers K mg Ce Co Cm Cn Cr Ct) : GE.FnW P w K mg base CX0 1 f fd ["e"] (Zw Cn) spWord := by
  refine GE.Fun.okW F sc_word (fun a vs H Q E h => ?_) (fun cdv A outer s H vs Q E p hot hz hB hr h => ?_)
  · rw [h.1]
    rfl
  obtain ⟨rfl, go⟩ := h
  have nd := sc_word.nd
  have isP : CallR (L2H.cxH CX0 P w K mg base ["e", "kinds", "kind"] "_law_word" (defScope s__law_word) f cdv A outer s H E p) (.builtin "isinstance") (rIsE K Cn p.1) := GE.call_isP (oe := p.2) R.ex List.mem_cons_self hz.1 hz.2
  refine ⟨_, (pss_cons (ps_set (i := 1) nd rfl (.inl rfl) (pe_lst (pa_cons (pe_callB isP (by rfl) T.B.isinstance (by decide +kernel) (pa_cons (pv 0) (pa_cons (pe_glob (v := .ref Co) (by rfl) R.gO rfl) pa_nil))) (pa_cons (pe_callB isP (by rfl) T.B.isinstance (by decide +kernel) (pa_cons (pv 0) (pa_cons (pe_glob (v := .ref Cm) (by rfl) R.gM rfl) pa_nil))) (pa_cons (pe_callB isP (by rfl) T.B.isinstance (by decide +kernel) (pa_cons (pv 0) (pa_cons (pe_glob (v := .ref Cn) (by rfl) R.gN rfl) pa_nil))) (pa_cons (pe_callB isP (by rfl) T.B.isinstance (by decide +kernel) (pa_cons (pv 0) (pa_cons (pe_glob (v := .ref Cr) (by rfl) R.gR rfl) pa_nil))) (pa_cons (pe_callB isP (by rfl) T.B.isinstance (by decide +kernel) (pa_cons (pv 0) (pa_cons (pe_glob (v := .ref Ct) (by rfl) R.gT rfl) pa_nil))) pa_nil)))))))
    (pss_cons (ps_if (pt_cmpR op_ne (pe_callB call_len_seq (by rfl) T.B.len (by decide +kernel) (pa_cons (GE.pe_lcTrue (own := [("kind", 2)]) (i := 2) hB nd (pv 1) (blkOk_by (N := ["e", "kinds", "kind"]) (sc := defScope s__law_word) (by decide +kernel)) (by decide) (by show 2 < 3; decide) (fun _ _ _ _ _ => (pg_name (i := 2) nd rfl (.inl rfl))) (fun _ _ _ _ _ => (pts_one (pt_val (pv 2)))) (fun _ _ _ _ _ => (pv 2))) pa_nil)) pe_int (nomark _)) 
      (pss_one (ps_ret pe_str)) pss_nil)
    (pss_one (ps_ret (pe_ix ix_list (pe_lst (pa_cons pe_str (pa_cons pe_str (pa_cons pe_str (pa_cons pe_str (pa_cons pe_str pa_nil)))))) (pe_bm PySem.F.plainAttrs_list PySem.F.slot_list_index PySem.F.type_list_index mt_index (pv 1) (pa_cons pe_bl pa_nil)) (fun _ _ => rfl)))))), ?_⟩
  have rv : ∀ {c : Addr} (u : Value), RelV (.ref c) u → u = .ref c := fun u r => r
  refine ⟨_, rfl, _, _, false, rfl, rv, R.kO, ?_⟩
  refine ⟨_, rfl, _, _, false, rfl, rv, R.kM, ?_⟩
  refine ⟨_, rfl, _, _, true, rfl, rv, R.kN, ?_⟩
  refine ⟨_, rfl, _, _, false, rfl, rv, R.kR, ?_⟩
  refine ⟨_, rfl, _, _, false, rfl, rv, R.kT, ?_⟩
  refine ⟨(by show 5 ≤ sizeLine; decide), fun l hl => ?_⟩
  have k1 : Kp H (upd H l (.lst [.bl false, .bl false, .bl true, .bl false, .bl false])) [] := Kp.new hl
  have hl1 : upd H l (.lst [.bl false, .bl false, .bl true, .bl false, .bl false]) l = some (.lst [.bl false, .bl false, .bl true, .bl false, .bl false]) := upd_same
  generalize upd H l (.lst [.bl false, .bl false, .bl true, .bl false, .bl false]) = H1 at k1 hl1 ⊢
  refine ⟨_, rfl, l, [false, false, true, false, false], rfl, SqL.of hl1, fun D hD => ?_⟩
  have k2 : Kp H1 (upd H1 D (.lst [.bl true])) [] := Kp.new hD
  have hl2 := k2.keep _ _ hl1 (by simp)
  refine ⟨D, [.bl true], rfl, .inl (SqL.of upd_same), ?_⟩
  refine ⟨rfl, _, rfl, ?_⟩
  refine ⟨(by show 5 ≤ sizeLine; decide), fun l2 hl3 => ?_⟩
  have k3 := k2.then (Kp.new (o := .lst [.str "range", .str "form", .str "none", .str "refused", .str "much"]) hl3)
  refine ⟨_, rfl, .inl ⟨rfl, _, SqL.of (k3.keep _ _ hl1 (by simp))⟩, l, [.bl false, .bl false, .bl true, .bl false, .bl false], .bl true, 2, .bl true, rfl, rfl, SqL.of (k3.keep _ _ hl1 (by simp)), rfl, rfl, rfl, rfl, fun m z' hm e => ?_, ?_⟩
  · match m, hm, e with
    | 0, _, e => cases e; rfl
    | 1, _, e => cases e; rfl
  · exact ⟨l2, _, 2, _, rfl, rfl, SqL.of upd_same, at_of (j := 2) rfl rfl, go _ (k1.then k3)⟩
def spTold (C : Addr) : Sp := fun vs H Q _ => ∃ (p h m j : Addr) (n : Nat) (st : List Jn) (wh : Nat) (v1 v2 : V), vs = [.ref p, .int (wh : Int), v1, v2] ∧ FAt C H p h m j n st ∧ Numb v1 ∧ Numb v2 ∧
  ((wh = 2 ∧ st.length < 1000 ∧ ∃ a b : Nat, a < n ∧ b < n ∧ v1 = .int (a : Int) ∧ v2 = .int (b : Int) ∧ ∀ H' r, FAt C H' p h m j n ((a, b) :: st) → Kp H H' [h, m, j] → JoinRes H' st a b r → Q r H') ∨
   (((wh = 0 ∨ wh = 1) ∧ inR v1 0 ((n : Int) - 1) = false ∨ wh = 2 ∧ st.length < 1000 ∧ (inR v1 0 ((n : Int) - 1) = false ∨ inR v2 0 ((n : Int) - 1) = false) ∨
      wh = 3 ∧ (inR v1 0 ((n : Int) - 1) = false ∨ inR v2 0 ((n : Int) - 1) = false ∨ ∃ a b : Nat, a < n ∧ b < n ∧ v1 = .int (a : Int) ∧ v2 = .int (b : Int) ∧ hd st a ≠ hd st b)) ∧
     ∀ H', Kp H H' [] → Q (.str "none") H'))
theorem takesF {X : Cx} : L2N.Takes X (fun _ _ _ _ => False) := fun _ _ ⟨_, _, _, _, _, _, _, _, _, _, _, _, _, _, _, _, w⟩ => w.elim
theorem pass0At {X : Cx} {E : St → XK} : ∀ σ, PassesAt CX0 X σ (E σ) := fun _ _ _ _ _ _ _ h => h.elim
theorem sc_told : FnScope ["forest", "which", "one", "other", "e"] ["forest", "which", "one", "other"] (defScope s__law_told) := ⟨rfl, rfl, rfl, by decide +kernel, rfl, by decide +kernel, by decide +kernel⟩
theorem inR_k {n k : Nat} (h : k < n) : inR (.int (k : Int)) 0 ((n : Int) - 1) = true := by
  show (decide ((0 : Int) ≤ k) && decide ((k : Int) ≤ (n : Int) - 1)) = true
  rw [decide_eq_true (Int.natCast_nonneg k), decide_eq_true (by omega)]
  rfl
theorem ok_told {f C Ce Co Cm Cn Cr Ct f1 f2 f3 f4 f5 : Addr} {fd fd1 fd2 fd3 fd4 fd5 : FuncData} (F : Fun K "_law_told" "_law_told" s__law_told f fd) (T : Txt K mg C Cn) (R : Ers K mg Ce Co Cm Cn Cr Ct)
    (G_find : FnOk P w K mg base (L2N.CX P w) 2 f1 fd1 ["self", "number"] (spFind C Cn)) (b_find : Binds K fd1 ["self", "number"] []) (m_find : Meth K C "find" f1)
    (G_mem : FnOk P w K mg base (L2N.CX P w) 3 f2 fd2 ["self", "number"] (spMembers C Cn)) (b_mem : Binds K fd2 ["self", "number"] []) (m_mem : Meth K C "members_of" f2)
    (G_join : FnOk P w K mg base (L2N.CX P w) 3 f3 fd3 ["self", "one", "other", "reason"] (spJoin C Cn)) (b_join : Binds K fd3 ["self", "one", "other", "reason"] []) (m_join : Meth K C "join" f3)
    (G_way : FnOk P w K mg base (L2N.CX P w) 3 f4 fd4 ["self", "one", "other"] (spWay C Cn)) (b_way : Binds K fd4 ["self", "one", "other"] []) (m_way : Meth K C "way" f4)
    (G_word : GE.FnW P w K mg base CX0 1 f5 fd5 ["e"] (Zw Cn) spWord) (k_word : PySem.W.keepIn K (.ref f5) = true) (b_word : Binds K fd5 ["e"] []) (g_word : mg "_law_word" = some (.ref f5)) :
    FnOk P w K mg base CX0 4 f fd ["forest", "which", "one", "other"] (spTold C) := by
  refine F.ok sc_told (fun vs H Q E h => ?_) (fun cdv A outer s H vs Q E hr h => ?_)
  · obtain ⟨p, h, m, j, n, st, wh, v1, v2, rfl, _⟩ := h
    rfl
  obtain ⟨p, h, m, j, n, st, wh, v1, v2, rfl, FA, hv1, hv2, hc⟩ := h
  have nd := sc_told.nd
  have hr2 : Room 2 _ := hr.mono (by decide)
  have hu := hu_of hr
  refine ⟨_, pss_one (L2N.ps_try_as (i := 4) rfl rfl nd rfl rfl ⟨by rfl, by decide, .inl R.gE⟩ takesF
    (fun W pn xe tk pw =>
      (pss_cons (ps_if (pt_cmpR op_eq (pv 1) pe_int (nomark _)) (pss_one (ps_ret (GE.pe_methA (E := WE W) (pv 0) T.cl m_find G_find hr2 b_find (L2N.passAt tk) (pa_cons (pv 2) pa_nil)))) pss_nil)
      (pss_cons (ps_if (pt_cmpR op_eq (pv 1) pe_int (nomark _)) (pss_one (ps_ret (GE.pe_methA (E := WE W) (pv 0) T.cl m_mem G_mem hr b_mem (L2N.passAt tk) (pa_cons (pv 2) pa_nil)))) pss_nil)
      (pss_cons (ps_if (pt_cmpR op_eq (pv 1) pe_int (nomark _)) (pss_one (ps_ret (GE.pe_methA (E := WE W) (pv 0) T.cl m_join G_join hr b_join (L2N.passAt tk) (pa_cons (pv 2) (pa_cons (pv 3) (pa_cons (pe_tup (pa_cons pe_str (pa_cons pe_int pa_nil))) pa_nil)))))) pss_nil)
      (pss_one (ps_ret (GE.pe_methA (E := WE W) (pv 0) T.cl m_way G_way hr b_way (L2N.passAt tk) (pa_cons (pv 2) (pa_cons (pv 3) pa_nil)))))))))
    (fun a oe cls d pn hz hf => GE.pss_when (p := cls = .ref Cn ∧ d = none) fun hp =>
      pss_one (ps_ret (GE.pe_callW (E := fun _ => XF) (a := a) (oe := oe) G_word ⟨(hr.mono (by decide : 1 ≤ 3)).dp, (hr.mono (by decide : 1 ≤ 3)).un⟩ ⟨rfl, hf.elim fun vs e => ⟨vs, e, hz.2.2 vs e⟩⟩ List.mem_cons_self ⟨⟨by rw [← hp.1]; exact hz.1, by rw [← hp.2]; exact hz.2.1⟩, hf⟩ (by rfl) g_word k_word b_word pass0At (pa_cons (pv 4) pa_nil))))), ?_⟩
  obtain ⟨dx, hp⟩ := FA.ob
  have nf : (fl h m j).lookup ("find" : Str) = none := fl_no h m j (by decide +kernel) (by decide +kernel) (by decide +kernel)
  have nm : (fl h m j).lookup ("members_of" : Str) = none := fl_no h m j (by decide +kernel) (by decide +kernel) (by decide +kernel)
  have nj : (fl h m j).lookup ("join" : Str) = none := fl_no h m j (by decide +kernel) (by decide +kernel) (by decide +kernel)
  have ny : (fl h m j).lookup ("way" : Str) = none := fl_no h m j (by decide +kernel) (by decide +kernel) (by decide +kernel)
  have ne : ∀ {x : Nat} {y : Int}, (x : Int) ≠ y → decide (V.int (x : Int) = V.int y) = false := fun h => decide_eq_false fun z => h (V.int.inj z)
  have eq : ∀ {x : Nat} {y : Int}, (x : Int) = y → decide (V.int (x : Int) = V.int y) = true := fun h => decide_eq_true (by rw [h])
  rcases hc with ⟨rfl, sl, a, b, ha, hb, rfl, rfl, go⟩ | ⟨bad, go⟩
  · refine ⟨_, rfl, rfl, _, rfl, ?_⟩
    rw [ne (by decide)]
    refine ⟨_, rfl, rfl, _, rfl, ?_⟩
    rw [ne (by decide)]
    refine ⟨_, rfl, rfl, _, rfl, ?_⟩
    rw [eq (by decide)]
    refine ⟨_, rfl, p, dx, _, rfl, hp, nj, _, rfl, _, rfl, (by show 2 ≤ sizeLine; decide), fun q hq => ?_⟩
    have k1 : Kp H (upd H q (.tup [.str "said", .int 0])) [] := Kp.new hq
    refine ⟨p, h, m, j, n, st, _, _, q, rfl, FA.more k1, upd_same, hv1, hv2, sl, fun a' b' ha' hb' e1 e2 H' r F' k' jr => ?_, fun z => ?_⟩
    · have e1 : a = a' := by have := V.int.inj e1; omega
      have e2 : b = b' := by have := V.int.inj e2; omega
      subst e1 e2
      exact go H' r F' (k1.pre k' FA.kind) jr
    · rcases z with z | z
      · rw [inR_k ha] at z
        cases z
      · rw [inR_k hb] at z
        cases z
  · rcases bad with ⟨w01, z⟩ | ⟨rfl, sl, z⟩ | ⟨rfl, z⟩
    · rcases w01 with rfl | rfl
      · refine ⟨_, rfl, rfl, _, rfl, ?_⟩
        rw [eq (by decide)]
        refine ⟨_, rfl, p, dx, _, rfl, hp, nf, _, rfl, p, h, m, j, n, st, v1, rfl, FA, hv1, fun k hk e => ?_, fun _ => ⟨true, R.em, fun _ a ha => ⟨⟨rfl, rfl⟩, _, rfl, rfl, fun H' k => go H' k⟩, fun z => nomatch z⟩⟩
        rw [e, inR_k hk] at z
        cases z
      · refine ⟨_, rfl, rfl, _, rfl, ?_⟩
        rw [ne (by decide)]
        refine ⟨_, rfl, rfl, _, rfl, ?_⟩
        rw [eq (by decide)]
        refine ⟨_, rfl, p, dx, _, rfl, hp, nm, _, rfl, p, h, m, j, n, st, v1, rfl, FA, hv1, fun k hk e => ?_, fun _ => ⟨true, R.em, fun _ a ha => ⟨⟨rfl, rfl⟩, _, rfl, rfl, fun H' k => go H' k⟩, fun z => nomatch z⟩⟩
        rw [e, inR_k hk] at z
        cases z
    · refine ⟨_, rfl, rfl, _, rfl, ?_⟩
      rw [ne (by decide)]
      refine ⟨_, rfl, rfl, _, rfl, ?_⟩
      rw [ne (by decide)]
      refine ⟨_, rfl, rfl, _, rfl, ?_⟩
      rw [eq (by decide)]
      refine ⟨_, rfl, p, dx, _, rfl, hp, nj, _, rfl, _, rfl, (by show 2 ≤ sizeLine; decide), fun q hq => ?_⟩
      have k1 : Kp H (upd H q (.tup [.str "said", .int 0])) [] := Kp.new hq
      refine ⟨p, h, m, j, n, st, v1, v2, q, rfl, FA.more k1, upd_same, hv1, hv2, sl, fun a' b' ha' hb' e1 e2 => ?_, fun _ => ⟨true, R.em, fun _ a ha => ⟨⟨rfl, rfl⟩, _, rfl, rfl, fun H' k => go H' (k1.then k)⟩, fun z => nomatch z⟩⟩
      rw [e1, e2, inR_k ha', inR_k hb'] at z
      rcases z with z | z <;> cases z
    · refine ⟨_, rfl, rfl, _, rfl, ?_⟩
      rw [ne (by decide)]
      refine ⟨_, rfl, rfl, _, rfl, ?_⟩
      rw [ne (by decide)]
      refine ⟨_, rfl, rfl, _, rfl, ?_⟩
      rw [ne (by decide)]
      refine ⟨_, rfl, p, dx, _, rfl, hp, ny, _, rfl, _, rfl, p, h, m, j, n, st, v1, v2, rfl, FA, hv1, hv2, fun a' b' ha' hb' e1 e2 e3 => ?_, fun _ => ⟨true, R.em, fun _ a ha => ⟨⟨rfl, rfl⟩, _, rfl, rfl, fun H' k => go H' k⟩, fun z => nomatch z⟩⟩
      rcases z with z | z | ⟨a, b, ha, hb, f1, f2, f3⟩
      · rw [e1, inR_k ha'] at z
        cases z
      · rw [e2, inR_k hb'] at z
        cases z
      · rw [e1] at f1
        rw [e2] at f2
        have f1 : a' = a := by have := V.int.inj f1; omega
        have f2 : b' = b := by have := V.int.inj f2; omega
        subst f1 f2
        exact absurd e3 f3
end
end K15

set_option Elab.async false
set_option maxRecDepth 100000
set_option maxHeartbeats 8000000
namespace K15
open PySem L2
def P2At (H : Hp) (u : Addr) (j : Jn) : Prop := H u = some (.tup [.int (j.1 : Int), .int (j.2 : Int)])
def JAt (H : Hp) (l : Addr) (st : List Jn) : Prop := ∃ us : List Addr, H l = some (.lst (us.map V.ref)) ∧ Paired (P2At H) us st.reverse
theorem JAt.kp {H H' : Hp} {M : List Addr} {l : Addr} {st : List Jn} (j : JAt H l st) (k : Kp H H' M) (n : l ∉ M) : JAt H' l st := let ⟨us, a, b⟩ := j; ⟨us, k.keep _ _ a n, Paired.mapP b fun _ _ z => k.tup z⟩
def spLabels : Sp := fun vs H Q _ => ∃ (l : Addr) (n : Nat) (st : List Jn), vs = [.int (n : Int), .ref l] ∧ JAt H l st ∧ Ok n st ∧ n ≤ 60 ∧ st.length ≤ 1000 ∧ ∀ H' q, Kp H H' [] → H q = none → H' q = some (.lst (nats (labels n st))) → Q (.ref q) H'
/-- the first k joins -/
def pre (st : List Jn) (k : Nat) : List Jn := st.drop (st.length - k)
theorem pre_zero (st : List Jn) : pre st 0 = [] := by unfold pre; rw [Nat.sub_zero, List.drop_length]
theorem pre_all (st : List Jn) : pre st st.length = st := by unfold pre; rw [Nat.sub_self]; rfl
theorem pre_succ {st : List Jn} {k : Nat} {j : Jn} (h : st.reverse[k]? = some j) : pre st (k + 1) = j :: pre st k := by
  have l : k < st.length := by
    have := (List.getElem?_eq_some_iff.mp h).1
    rwa [List.length_reverse] at this
  rw [List.getElem?_reverse l] at h
  unfold pre
  have e : st.length - (k + 1) = st.length - 1 - k := by omega
  have e2 : st.length - k = st.length - 1 - k + 1 := by omega
  rw [e, e2, List.drop_eq_getElem_cons (List.getElem?_eq_some_iff.mp h).1, (List.getElem?_eq_some_iff.mp h).2]
theorem labels_step {n : Nat} {st : List Jn} {j : Jn} : (labels n st).map (fun x => if x = hi st j then lo st j else x) = labels n (j :: st) := by
  unfold labels
  rw [List.map_map]
  apply List.map_congr_left
  intro x _
  rw [hd_cons]
  rfl
section
variable {P : Program} {w : World} {K : PySem.W.Frag} {mg : Str → Option Value} {base : Heap}
theorem sc_labels : FnScope ["many", "joins", "label", "changed", "one", "other", "low", "high", "here"] ["many", "joins"] (defScope s__law_labels) := ⟨rfl, rfl, rfl, by decide +kernel, rfl, by decide +kernel, by decide +kernel⟩
theorem ok_labels {f C Cn : Addr} {fd : FuncData} (F : Fun K "_law_labels" "_law_labels" s__law_labels f fd) (T : Txt K mg C Cn) : FnOk P w K mg base CX0 1 f fd ["many", "joins"] spLabels := by
  refine F.ok sc_labels (fun vs H Q E h => ?_) (fun cdv A outer s H vs Q E hr h => ?_)
  · obtain ⟨l, n, st, rfl, _⟩ := h
    rfl
  obtain ⟨l, n, st, rfl, J, ok, n60, sl, go⟩ := h
  have nd := sc_labels.nd
  refine ⟨_, (pss_cons (ps_par (i := 2) (j := 3) rfl nd rfl rfl (by decide) rfl rfl (pa_cons (pe_listRg rfl (by rfl) T.B.list (prg_1 (by rfl) T.B.range (pv 0))) (pa_cons pe_bl pa_nil)) (by rfl))
    (pss_cons (ps_while PassesOwn.never (pt_val (pv 3)) 
      (pss_cons (ps_set (i := 3) nd rfl (.inl rfl) pe_bl)
      (pss_one (ps_for PassesOwn.never rfl (pi_list (pv 1)) (pg_tup rfl (pgs_cons (pg_name (i := 4) nd rfl (.inl rfl)) (pgs_cons (pg_name (i := 5) nd rfl (.inl rfl)) pgs_nil))) 
        (pss_one (ps_if (pt_cmpR op_ne (pe_ix ix_list (pv 2) (pv 4) (fun _ _ => rfl)) (pe_ix ix_list (pv 2) (pv 5) (fun _ _ => rfl)) (nomark _)) 
          (pss_cons (ps_set (i := 3) nd rfl (.inl rfl) pe_bl)
          (pss_cons (ps_asg (pe_tup (pa_cons (pe_callB (call_min2 rfl) (by rfl) T.B.min (by decide +kernel) (pa_cons (pe_ix ix_list (pv 2) (pv 4) (fun _ _ => rfl)) (pa_cons (pe_ix ix_list (pv 2) (pv 5) (fun _ _ => rfl)) pa_nil))) (pa_cons (pe_callB (call_max2 rfl) (by rfl) T.B.max (by decide +kernel) (pa_cons (pe_ix ix_list (pv 2) (pv 4) (fun _ _ => rfl)) (pa_cons (pe_ix ix_list (pv 2) (pv 5) (fun _ _ => rfl)) pa_nil))) pa_nil))) (pg_tup rfl (pgs_cons (pg_name (i := 6) nd rfl (.inr rfl)) (pgs_cons (pg_name (i := 7) nd rfl (.inr rfl)) pgs_nil))))
          (pss_one (ps_setLc (i := 2) (own := [("here", 8)]) (g := gName 8) (tt := tYes) rfl nd rfl rfl (sw_true rfl rfl rfl (by decide +kernel)) (pi_list (pv 2)) (blkOk_by (N := ["many", "joins", "label", "changed", "one", "other", "low", "high", "here"]) (sc := defScope s__law_labels) (by decide +kernel)) (fun _ _ _ _ _ => (pg_name (i := 8) nd rfl (.inl rfl))) (fun _ _ _ _ _ => pts_nil) (fun _ _ _ _ _ => (pe_ifExp (pt_cmpR op_eq (pv 8) (pv 7) (nomark _)) (pv 6) (pv 8))))))) pss_nil))))))
    (pss_one (ps_ret (pv 2))))), ?_⟩
  obtain ⟨us, hl, hU⟩ := J
  have ul : us.length = st.length := by rw [Paired.length hU, List.length_reverse]
  refine ⟨_, rfl, _, rfl, RgOk.of_le (by omega) (by omega) (by omega) (by omega), fun q hq => ?_⟩
  have eq : rgV 0 (n : Int) = nats (labels n []) := by
    unfold rgV nats labels
    rw [List.map_map, show ((n : Int) - 0).toNat = n by omega]
    apply List.map_congr_left
    intro x _
    show V.int ((0 : Int) + (x : Int)) = V.int ((hd [] x : Nat) : Int)
    rw [Int.zero_add]
    rfl
  rw [eq]
  have k1 : Kp H (upd H q (.lst (nats (labels n [])))) [] := Kp.new hq
  refine ⟨_, _, rfl, ?_⟩
  -- while changed
  refine ⟨fun i σ H' => ∃ (lb : Addr) (T : List Jn) (ch : Bool) (v4 v5 v6 v7 v8 : Option V), σ = [some (.int (n : Int)), some (.ref l), some (.ref lb), some (.bl ch), v4, v5, v6, v7, v8] ∧ Kp H H' [] ∧ H lb = none ∧ H' lb = some (.lst (nats (labels n T))) ∧
      ((i = 2 ∧ ch = true ∧ T = []) ∨ (i = 1 ∧ ch = true ∧ T = st) ∨ (i = 0 ∧ ch = false ∧ T = st)), ⟨2, q, [], true, none, none, none, none, none, rfl, k1, hq, upd_same, .inl ⟨rfl, rfl, rfl⟩⟩, ?_⟩
  rintro i σ' H1 ⟨lb, T, ch, v4, v5, v6, v7, v8, rfl, kp, ln, hlb, hT⟩
  refine ⟨_, rfl, _, rfl, ?_⟩
  cases ch with
  | false =>
    have eT : T = st := by
      rcases hT with ⟨_, e, _⟩ | ⟨_, e, _⟩ | ⟨_, _, e⟩
      · cases e
      · cases e
      · exact e
    rw [eT] at hlb
    exact ⟨_, rfl, go H1 lb kp ln hlb⟩
  | true =>
    -- a pass
    obtain ⟨ini, i0, eT⟩ : ∃ ini : Bool, i = (if ini then 2 else 1) ∧ T = (if ini then [] else st) := by
      rcases hT with ⟨e1, _, e2⟩ | ⟨e1, _, e2⟩ | ⟨_, e, _⟩
      · exact ⟨true, e1, e2⟩
      · exact ⟨false, e1, e2⟩
      · cases e
    refine ⟨fun σ2 H2 => ∃ i2, i2 < i ∧ ∃ (lb : Addr) (T : List Jn) (ch : Bool) (v4 v5 v6 v7 v8 : Option V), σ2 = [some (.int (n : Int)), some (.ref l), some (.ref lb), some (.bl ch), v4, v5, v6, v7, v8] ∧ Kp H H2 [] ∧ H lb = none ∧ H2 lb = some (.lst (nats (labels n T))) ∧
      ((i2 = 2 ∧ ch = true ∧ T = []) ∨ (i2 = 1 ∧ ch = true ∧ T = st) ∨ (i2 = 0 ∧ ch = false ∧ T = st)), fun σ2 H2 ⟨i2, h1, h2⟩ => ⟨i2, h1, h2⟩, ?_⟩
    refine ⟨_, rfl, l, rfl, ⟨_, SqL.of (kp.keep _ _ hl (by simp))⟩, for_list (K := K) (a := l) (xs := us.map V.ref)
      (fun k σ H' => ∃ (lb : Addr) (ch : Bool) (v4 v5 v6 v7 v8 : Option V), σ = [some (.int (n : Int)), some (.ref l), some (.ref lb), some (.bl ch), v4, v5, v6, v7, v8] ∧ Kp H H' [] ∧ H lb = none ∧ H' lb = some (.lst (nats (labels n (if ini then pre st k else st)))) ∧ (ini = false → ch = false))
      ⟨lb, false, v4, v5, v6, v7, v8, rfl, kp, ln, ?_, fun _ => rfl⟩ (fun k σ H' _ ⟨_, _, _, _, _, _, _, _, kp, _⟩ => SqL.of (kp.keep _ _ hl (by simp))) ?_ ?_⟩
    · rw [hlb, eT, pre_zero]
    · rintro k x σ H2 hk ⟨lb, ch, v4, v5, v6, v7, v8, rfl, kp2, ln2, hlb2, hch⟩
      rw [List.getElem?_map] at hk
      cases eu : us[k]? with
      | none => rw [eu] at hk; cases hk
      | some u =>
      rw [eu] at hk
      cases hk
      obtain ⟨⟨a, b⟩, hj, hu⟩ := pairedAt hU eu
      have hu : H u = some (.tup [.int (a : Int), .int (b : Int)]) := hu
      have hin : (a, b) ∈ st := List.mem_reverse.mp (List.mem_of_getElem? hj)
      have hab := ok (a, b) hin
      have ha : a < n := hab.1
      have hb : b < n := hab.2
      generalize hT : (if ini = true then pre st k else st) = Tk at hlb2
      have g1 : atI (nats (labels n Tk)) (a : Int) = some (.int ((hd Tk a : Nat) : Int)) := at_of (j := a) rfl (nats_get (labels_get ha))
      have g2 : atI (nats (labels n Tk)) (b : Int) = some (.int ((hd Tk b : Nat) : Int)) := at_of (j := b) rfl (nats_get (labels_get hb))
      refine ⟨u, _, rfl, SqT.of (kp2.tup hu), rfl, _, _, rfl, _, _, rfl, rfl, ?_⟩
      refine ⟨_, rfl, _, rfl, lb, _, _, _, rfl, rfl, SqL.of hlb2, g1, _, rfl, _, rfl, lb, _, _, _, rfl, rfl, SqL.of hlb2, g2, rfl, _, rfl, ?_⟩
      by_cases e : hd Tk a = hd Tk b
      · rw [decide_eq_true (by rw [e])]
        refine ⟨lb, ch, _, _, v6, v7, v8, rfl, kp2, ln2, ?_, hch⟩
        cases ini with
        | false =>
          have hT : st = Tk := hT
          subst hT
          exact hlb2
        | true =>
          have hT : pre st k = Tk := hT
          show H2 lb = some (.lst (nats (labels n (pre st (k + 1)))))
          rw [pre_succ hj, hT, labels_eqv (hd_eqv (j := (a, b)) e)]
          exact hlb2
      · have hini : ini = true := by
          cases ini with
          | true => rfl
          | false =>
            have hT : st = Tk := hT
            rw [← hT] at e
            exact absurd (hd_same hin) e
        subst hini
        have hT : pre st k = Tk := hT
        rw [decide_eq_false (fun z => e (by have := V.int.inj z; omega))]
        refine ⟨_, rfl, _, rfl, lb, _, _, _, rfl, rfl, SqL.of hlb2, g1, _, rfl, _, rfl, lb, _, _, _, rfl, rfl, SqL.of hlb2, g2, _, _, rfl, ?_⟩
        refine ⟨_, rfl, _, rfl, lb, _, _, _, rfl, rfl, SqL.of hlb2, g1, _, rfl, _, rfl, lb, _, _, _, rfl, rfl, SqL.of hlb2, g2, _, _, rfl, ?_⟩
        have elo : (if ((hd Tk b : Nat) : Int) < ((hd Tk a : Nat) : Int) then ((hd Tk b : Nat) : Int) else ((hd Tk a : Nat) : Int)) = ((lo Tk (a, b) : Nat) : Int) := by
          show _ = ((min (hd Tk a) (hd Tk b) : Nat) : Int)
          split <;> omega
        have ehi : (if ((hd Tk b : Nat) : Int) > ((hd Tk a : Nat) : Int) then ((hd Tk b : Nat) : Int) else ((hd Tk a : Nat) : Int)) = ((hi Tk (a, b) : Nat) : Int) := by
          show _ = ((max (hd Tk a) (hd Tk b) : Nat) : Int)
          split <;> omega
        rw [elo, ehi]
        refine ⟨(by show 2 ≤ sizeLine; decide), fun t ht => ?_⟩
        have k3 : Kp H2 (upd H2 t (.tup [.int ((lo Tk (a, b) : Nat) : Int), .int ((hi Tk (a, b) : Nat) : Int)])) [] := Kp.new ht
        refine ⟨t, _, rfl, SqT.of upd_same, rfl, _, _, rfl, _, _, rfl, rfl, ?_⟩
        have hlb3 := k3.keep _ _ hlb2 (by simp)
        have kp3 := kp2.then k3
        generalize upd H2 t (.tup [.int ((lo Tk (a, b) : Nat) : Int), .int ((hi Tk (a, b) : Nat) : Int)]) = H3 at k3 hlb3 kp3 ⊢
        refine ⟨_, rfl, lb, rfl, ⟨_, SqL.of hlb3⟩, fun D hD => ?_⟩
        have dn : H D = none := kp3.free hD (by simp)
        have nlD : lb ≠ D := ne_of_none hlb3 hD
        refine lc_list (K := K) (a := lb) (xs := nats (labels n Tk)) (fun i H' => Kp H3 H' [] ∧ H' D = some (.lst (nats (((labels n Tk).take i).map fun x => if x = hi Tk (a, b) then lo Tk (a, b) else x)))) ⟨Kp.new hD, upd_same⟩ (fun i H' _ ⟨k4, _⟩ => SqL.of (k4.keep _ _ hlb3 (by simp))) (fun i x H' hx ⟨k4, hD4⟩ => ?_) (fun H' ⟨k4, hD4⟩ => ?_)
        · obtain ⟨y, rfl, hy⟩ := nats_at hx
          have tk : (labels n Tk).take (i + 1) = (labels n Tk).take i ++ [y] := by
            rw [List.take_succ, hy]
            rfl
          have li : i < n := by
            have := (List.getElem?_eq_some_iff.mp hy).1
            rwa [labels_len] at this
          have lacc : (nats (((labels n Tk).take i).map fun x => if x = hi Tk (a, b) then lo Tk (a, b) else x)).length < sizeLine := by
            rw [nats_len, List.length_map, List.length_take, labels_len]
            exact Nat.lt_of_le_of_lt (show _ ≤ 60 by omega) (by decide)
          have fin : ∀ z : Nat, z = (if y = hi Tk (a, b) then lo Tk (a, b) else y) → ∃ acc, H' D = some (.lst acc) ∧ acc.length < sizeLine ∧ Kp H3 (upd H' D (.lst (acc ++ [V.int (z : Int)]))) [] ∧ (upd H' D (.lst (acc ++ [V.int (z : Int)]))) D = some (.lst (nats (((labels n Tk).take (i + 1)).map fun x => if x = hi Tk (a, b) then lo Tk (a, b) else x))) := fun z hz => by
            refine ⟨_, hD4, lacc, k4.fresh (Kp.lst hD4) fun x hx => by rw [List.mem_singleton.mp hx]; exact hD, ?_⟩
            rw [upd_same, nats_snoc, tk, List.map_append, hz]
            rfl
          refine ⟨rfl, _, rfl, _, rfl, rfl, _, rfl, ?_⟩
          by_cases c : y = hi Tk (a, b)
          · rw [decide_eq_true (by rw [c])]
            exact ⟨_, rfl, fin (lo Tk (a, b)) (by rw [if_pos c])⟩
          · rw [decide_eq_false (fun z => c (by have := V.int.inj z; omega))]
            exact ⟨_, rfl, fin y (by rw [if_neg c])⟩
        · rw [nats_len, List.take_length, labels_step] at hD4
          refine ⟨D, true, _, _, _, _, _, rfl, kp3.then k4, dn, ?_, fun z => nomatch z⟩
          show H' D = some (.lst (nats (labels n (pre st (k + 1)))))
          rw [pre_succ hj, hT]
          exact hD4
    · rintro σ H2 ⟨lb, ch, v4, v5, v6, v7, v8, rfl, kp2, ln2, hlb2, hch⟩
      rw [List.length_map, ul, pre_all, show (if ini = true then st else st) = st by split <;> rfl] at hlb2
      cases ini with
      | true =>
        rw [i0]
        cases ch with
        | true => exact ⟨1, by decide, lb, st, true, v4, v5, v6, v7, v8, rfl, kp2, ln2, hlb2, .inr (.inl ⟨rfl, rfl, rfl⟩)⟩
        | false => exact ⟨0, by decide, lb, st, false, v4, v5, v6, v7, v8, rfl, kp2, ln2, hlb2, .inr (.inr ⟨rfl, rfl, rfl⟩)⟩
      | false =>
        rw [i0]
        have hch := hch rfl
        subst hch
        exact ⟨0, by decide, lb, st, false, v4, v5, v6, v7, v8, rfl, kp2, ln2, hlb2, .inr (.inr ⟨rfl, rfl, rfl⟩)⟩
end
end K15

set_option Elab.async false
set_option maxRecDepth 100000
set_option maxHeartbeats 8000000
namespace K15
open PySem L2
def R3At (H : Hp) (u : Addr) (j : Jn) : Prop := ∃ q, H u = some (.tup [.int (j.1 : Int), .int (j.2 : Int), .ref q]) ∧ SaidAt H q
theorem R3At.kp {H H' : Hp} {M : List Addr} (k : Kp H H' M) {u : Addr} {j : Jn} (h : R3At H u j) : R3At H' u j := let ⟨q, a, b⟩ := h; ⟨q, k.tup a, k.tup b⟩
def StAt (M : List Addr) (H : Hp) (v : V) (n : Nat) (st : List Jn) : Prop := ∃ (s l1 l2 t : Addr) (us : List Addr), v = .ref s ∧ H s = some (.tup [.int (n : Int), .ref l1, .ref l2, .ref t]) ∧ H l1 = some (.lst (us.map V.ref)) ∧ Paired (R3At H) us st.reverse ∧
  H l2 = some (.lst (nats (labels n st))) ∧ TupN H t (heads n st) ∧ l1 ∉ M ∧ l2 ∉ M
theorem StAt.kp {M N : List Addr} {H H' : Hp} {v : V} {n : Nat} {st : List Jn} (h : StAt M H v n st) (k : Kp H H' N) (s : ∀ x ∈ N, x ∈ M) : StAt M H' v n st := by
  obtain ⟨s1, l1, l2, t, us, e, a, b, c, d, f, g, i⟩ := h
  exact ⟨s1, l1, l2, t, us, e, k.tup a, k.keep _ _ b fun z => g (s _ z), Paired.mapP c fun _ _ z => z.kp k, k.keep _ _ d fun z => i (s _ z), k.tup f, g, i⟩
def spState (C : Addr) : Sp := fun vs H Q _ => ∃ (p h m j : Addr) (n : Nat) (st : List Jn), vs = [.ref p] ∧ FAt C H p h m j n st ∧ ∀ H' v, Kp H H' [] → (∀ M : List Addr, (∀ x ∈ M, H x ≠ none) → StAt M H' v n st) → Q v H'
section
variable {P : Program} {w : World} {K : PySem.W.Frag} {mg : Str → Option Value} {base : Heap}
theorem sc_state : FnScope ["forest", "rows", "row", "number"] ["forest"] (defScope s__law_state) := ⟨rfl, rfl, rfl, by decide +kernel, rfl, by decide +kernel, by decide +kernel⟩
theorem ok_state {f C Cn f1 f2 f3 : Addr} {fd fd1 fd2 fd3 : FuncData} (F : Fun K "_law_state" "_law_state" s__law_state f fd) (T : Txt K mg C Cn)
    (G_Forest_find : FnOk P w K mg base (L2N.CX P w) 2 f1 fd1 ["self", "number"] (spFind C Cn)) (b_Forest_find : Binds K fd1 ["self", "number"] []) (m_Forest_find : Meth K C "find" f1)
    (G_Forest_many : FnOk P w K mg base CX0 1 f2 fd2 ["self"] (spMany C)) (b_Forest_many : Binds K fd2 ["self"] []) (m_Forest_many : Meth K C "many" f2)
    (G_Forest_classes : FnOk P w K mg base CX0 1 f3 fd3 ["self"] (spClasses C)) (b_Forest_classes : Binds K fd3 ["self"] []) (m_Forest_classes : Meth K C "classes" f3) :
    FnOk P w K mg base CX0 3 f fd ["forest"] (spState C) := by
  refine F.ok sc_state (fun vs H Q E h => ?_) (fun cdv A outer s H vs Q E hr h => ?_)
  · obtain ⟨p, h, m, j, n, st, rfl, _⟩ := h
    rfl
  obtain ⟨p, h, m, j, n, st, rfl, R, go⟩ := h
  have nd := sc_state.nd
  have hr1 : Room 1 _ := hr.mono (by decide)
  refine ⟨_, (pss_cons (ps_setLc (i := 1) (own := [("row", 2)]) (g := gName 2) (tt := tYes) rfl nd rfl rfl (sw_true rfl rfl rfl (by decide +kernel)) (pi_list (pe_fld (pv 0) rfl)) (blkOk_by (N := ["forest", "rows", "row", "number"]) (sc := defScope s__law_state) (by decide +kernel)) (fun _ _ _ _ _ => (pg_name (i := 2) nd rfl (.inl rfl))) (fun _ _ _ _ _ => pts_nil) (fun _ _ _ _ _ => (pe_callTy (tupOfK K) (by rfl) T.B.tuple (by decide +kernel) (pa_cons (pe_slice (slTK K) (pv 2) po_none (po_some pe_int)) pa_nil))))
    (pss_one (ps_ret (pe_tup (pa_cons (pe_meth0 (pv 0) T.cl m_Forest_many G_Forest_many hr1 b_Forest_many .nil pass0) (pa_cons (pv 1) (pa_cons (pe_lc (own := [("number", 3)]) (g := gName 3) (tt := tYes) rfl nd (pi_range1 (by rfl) T.B.range (pa_cons (pe_meth0 (pv 0) T.cl m_Forest_many G_Forest_many hr1 b_Forest_many .nil pass0) pa_nil)) (blkOk_by (N := ["forest", "rows", "row", "number"]) (sc := defScope s__law_state) (by decide +kernel)) (fun _ _ _ _ _ => (pg_name (i := 3) nd rfl (.inl rfl))) (fun _ _ _ _ _ => pts_nil) (fun _ _ _ _ _ => (pe_meth (pv 0) T.cl m_Forest_find G_Forest_find hr b_Forest_find .nil passF (pa_cons (pv 3) pa_nil)))) (pa_cons (pe_meth0 (pv 0) T.cl m_Forest_classes G_Forest_classes hr1 b_Forest_classes .nil pass0) pa_nil)))))))), ?_⟩
  obtain ⟨dx, hp⟩ := R.ob
  obtain ⟨us, hj, hU⟩ := R.js
  have ul : us.length = st.length := (Paired.length hU).trans (rows_len st)
  refine ⟨_, rfl, p, C, dx, _, _, rfl, hp, T.cl, T.nJ, fl_joins h m j, j, rfl, ⟨_, SqL.of hj⟩, fun D hD => ?_⟩
  refine lc_list (K := K) (a := j) (xs := us.reverse.map V.ref) (fun i H' => Kp H H' [] ∧ ∃ ws : List Addr, H' D = some (.lst (ws.map V.ref)) ∧ Paired (R3At H') ws (st.reverse.take i)) ⟨Kp.new hD, [], upd_same, by rw [List.take_zero]; exact .nil⟩ (fun i H' _ ⟨k, _⟩ => SqL.of (k.keep _ _ hj (by simp))) (fun i x H' hx ⟨kp, ws, hD', hw⟩ => ?_) (fun H1 ⟨kp, ws, hD', hw⟩ => ?_)
  · rw [List.getElem?_map] at hx
    cases eu : us.reverse[i]? with
    | none => rw [eu] at hx; cases hx
    | some u =>
    rw [eu] at hx
    cases hx
    obtain ⟨r, hr0, q, mo, hu1, hq1, hmo⟩ := pairedAt (pairedRev hU) eu
    have hjn : st.reverse[i]? = some (r.1, r.2.1) := by
      have e := congrArg List.reverse (rows_jn st)
      rw [← List.map_reverse] at e
      rw [← e, List.getElem?_map, hr0]
      rfl
    have il : i < st.length := by
      have := (List.getElem?_eq_some_iff.mp hjn).1
      rwa [List.length_reverse] at this
    have hu2 := kp.tup hu1
    refine ⟨rfl, _, rfl, _, rfl, u, _, rfl, SqT.of hu2, (fun z => absurd z.2 (show ¬ HT.sIx 4 4 (some 3) = 4 by decide)), fun t3 ht3 => ?_⟩
    have ec : cutV [V.int (r.1 : Int), V.int (r.2.1 : Int), V.ref q, V.ref mo] none (some 3) = [V.int (r.1 : Int), V.int (r.2.1 : Int), V.ref q] := rfl
    rw [ec]
    have k2 : Kp H' (upd H' t3 (.tup [V.int (r.1 : Int), V.int (r.2.1 : Int), V.ref q])) [] := Kp.new ht3
    have ht4 : upd H' t3 (.tup [V.int (r.1 : Int), V.int (r.2.1 : Int), V.ref q]) t3 = some (.tup [V.int (r.1 : Int), V.int (r.2.1 : Int), V.ref q]) := upd_same
    have hD2 := k2.keep _ _ hD' (by simp)
    have hw2 := Paired.mapP hw fun _ _ z => R3At.kp k2 z
    have kp2 := kp.then k2
    generalize upd H' t3 (.tup [V.int (r.1 : Int), V.int (r.2.1 : Int), V.ref q]) = H2 at k2 ht4 hD2 hw2 kp2 ⊢
    have lw : ws.length ≤ i := by
      rw [Paired.length hw, List.length_take]
      exact Nat.min_le_left _ _
    refine ⟨t3, _, rfl, .inr ⟨SqT.of ht4, _, hD2, ?_, kp2.fresh (Kp.lst hD2) fun x hx => by rw [List.mem_singleton.mp hx]; exact hD, ws ++ [t3], ?_, ?_⟩⟩
    · rw [List.length_map]
      have := R.sz.2
      exact Nat.lt_of_le_of_lt (show _ ≤ 1000 by omega) (by decide)
    · rw [upd_same, List.map_append]
      rfl
    · have k3 : Kp H2 (upd H2 D (.lst (ws.map V.ref ++ [V.ref t3]))) [D] := Kp.lst hD2
      rw [List.take_succ, hjn]
      exact pairedSnoc (Paired.mapP hw2 fun _ _ z => R3At.kp k3 z) ⟨q, k3.tup ht4, k3.tup (kp2.tup hq1)⟩
  · rw [List.length_map, List.length_reverse, ul, ← List.length_reverse, List.take_length] at hw
    have R1 := R.more kp
    obtain ⟨dx1, hp1⟩ := R1.ob
    have nm : (fl h m j).lookup ("many" : Str) = none := fl_no h m j (by decide +kernel) (by decide +kernel) (by decide +kernel)
    have nf : (fl h m j).lookup ("find" : Str) = none := fl_no h m j (by decide +kernel) (by decide +kernel) (by decide +kernel)
    have nc : (fl h m j).lookup ("classes" : Str) = none := fl_no h m j (by decide +kernel) (by decide +kernel) (by decide +kernel)
    refine ⟨_, rfl, p, dx1, _, rfl, hp1, nm, p, h, m, j, n, st, rfl, R1, _, rfl, ?_⟩
    refine ⟨_, rfl, p, dx1, _, rfl, hp1, nm, p, h, m, j, n, st, rfl, R1, _, rfl, (by omega), (by have := R.sz.1; omega), fun D2 hD2 => ?_⟩
    rw [Int.toNat_natCast]
    refine lc_range (fun i H' => Kp H1 H' [] ∧ H' D2 = some (.lst (nats ((labels n st).take i)))) ⟨Kp.new hD2, by rw [upd_same, List.take_zero]; rfl⟩ (fun i H' hi ⟨k2, hD3⟩ => ?_) (fun H' ⟨k2, hD3⟩ => ?_)
    · have R2 := R1.more k2
      obtain ⟨dx2, hp2⟩ := R2.ob
      refine ⟨rfl, _, rfl, p, dx2, _, rfl, hp2, nf, _, rfl, p, h, m, j, n, st, _, rfl, R2, .inl ⟨_, rfl⟩, fun k hk e => ?_, fun z => ?_⟩
      · have e : i = k := by have := V.int.inj e; omega
        subst e
        refine ⟨_, hD3, ?_, k2.fresh (Kp.lst hD3) fun x hx => by rw [List.mem_singleton.mp hx]; exact hD2, ?_⟩
        · rw [nats_len, List.length_take, labels_len]
          have := R.sz.1
          exact Nat.lt_of_le_of_lt (show _ ≤ 60 by omega) (by decide)
        · rw [upd_same, nats_snoc, List.take_succ, labels_get hk]
          rfl
      · rw [Int.zero_add, inR_k hi] at z
        cases z
    · rw [List.take_of_length_le (Nat.le_of_eq (labels_len n st))] at hD3
      have R2 := R1.more k2
      obtain ⟨dx2, hp2⟩ := R2.ob
      refine ⟨_, rfl, p, dx2, _, rfl, hp2, nc, p, h, m, j, n, st, rfl, R2, fun H3 t k3 ht => ?_⟩
      refine ⟨(by show 4 ≤ sizeLine; decide), fun s1 hs1 => ?_⟩
      have k4 : Kp H3 (upd H3 s1 (.tup [.int (n : Int), .ref D, .ref D2, .ref t])) [] := Kp.new hs1
      refine go _ (.ref s1) (((kp.then k2).then k3).then k4) fun M hM => ⟨s1, D, D2, t, ws, rfl, upd_same, ?_, ?_, ?_, ?_, ?_, ?_⟩
      · exact k4.keep _ _ (k3.keep _ _ (k2.keep _ _ hD' (by simp)) (by simp)) (by simp)
      · exact Paired.mapP hw fun _ _ z => R3At.kp k4 (R3At.kp k3 (R3At.kp k2 z))
      · exact k4.keep _ _ (k3.keep _ _ hD3 (by simp)) (by simp)
      · exact k4.tup ht
      · exact fun z => hM D z hD
      · exact fun z => hM D2 z (kp.free hD2 (by simp))
end
end K15

set_option Elab.async false
set_option maxRecDepth 100000
set_option maxHeartbeats 8000000
namespace K15
open PySem L2
theorem lay_ints : ∀ l : List Int, PyData.canLayAll0 (l.map PyData.int) = true
  | [] => rfl
  | _ :: r => by
    show (PyData.canLay0 (.int _) && PyData.canLayAll0 (r.map PyData.int)) = true
    rw [lay_ints r]
    rfl
theorem deep_ints : ∀ l : List Int, PyData.depthAll (l.map PyData.int) = 0
  | [] => rfl
  | _ :: r => by
    show max (PyData.depth (.int _)) (PyData.depthAll (r.map PyData.int)) = 0
    rw [deep_ints r]
    rfl
theorem shapedT (l : List Int) : SeqAt.shaped (.tuple (l.map PyData.int)) = true := by
  unfold SeqAt.shaped
  show (PyData.canLayAll0 (l.map PyData.int) && decide (PyData.depthAll (l.map PyData.int) + 1 ≤ 64)) = true
  rw [lay_ints, deep_ints]
  rfl
abbrev natD (l : List Nat) : List PyData := (l.map fun n : Nat => (n : Int)).map PyData.int
theorem dpNats {K : PySem.W.Frag} {H : Hp} : ∀ l : List Nat, DpAll K H (nats l) (natD l)
  | [] => .nil
  | m :: r => .cons (.int _) (dpNats r)
theorem eqvNil {l : List Nat} (h : l ≠ []) : PyData.eqv (.tuple (natD l)) (.tuple []) = false := by
  cases l with
  | nil => exact absurd rfl h
  | cons a r => rfl
theorem flatNats (l : List Nat) : (nats l).all flatV = true := by
  unfold nats
  rw [List.all_map]
  exact List.all_eq_true.mpr fun _ _ => rfl
theorem inNats {x : Nat} {l : List Nat} (h : x ∉ l) : inV (.int (x : Int)) (nats l) = false := by
  unfold inV nats
  rw [List.any_map]
  refine Bool.eq_false_iff.mpr fun q => ?_
  obtain ⟨y, hy, e⟩ := List.any_eq_true.mp q
  have e : ((y : Int) == (x : Int)) = true := e
  have e : (y : Int) = (x : Int) := by simpa using e
  exact h (by rw [← show y = x by omega]; exact hy)
def spWayRight (C : Addr) : Sp := fun vs H Q _ => ∃ (p h m j : Addr) (n : Nat) (st : List Jn) (a b : Nat), vs = [.ref p, .int (a : Int), .int (b : Int)] ∧ FAt C H p h m j n st ∧ a < n ∧ b < n ∧ hd st a = hd st b ∧ ∀ H', Kp H H' [] → Q (.bl true) H'
section
variable {P : Program} {w : World} {K : PySem.W.Frag} {mg : Str → Option Value} {base : Heap}
theorem sc_wr : FnScope ["forest", "one", "other", "here", "seen", "place", "forth", "first", "second", "reason", "moved"] ["forest", "one", "other"] (defScope s__law_way_right) := ⟨rfl, rfl, rfl, by decide +kernel, rfl, by decide +kernel, by decide +kernel⟩
theorem ok_wr {f C Cn f1 : Addr} {fd fd1 : FuncData} (F : Fun K "_law_way_right" "_law_way_right" s__law_way_right f fd) (T : Txt K mg C Cn)
    (G_Forest_way : FnOk P w K mg base (L2N.CX P w) 3 f1 fd1 ["self", "one", "other"] (spWay C Cn)) (b_Forest_way : Binds K fd1 ["self", "one", "other"] []) (m_Forest_way : Meth K C "way" f1) :
    FnOk P w K mg base CX0 4 f fd ["forest", "one", "other"] (spWayRight C) := by
  refine F.ok sc_wr (fun vs H Q E h => ?_) (fun cdv A outer s H vs Q E hr h => ?_)
  · obtain ⟨p, h, m, j, n, st, a, b, rfl, _⟩ := h
    rfl
  obtain ⟨p, h, m, j, n, st, a, b, rfl, R, ha, hb, same, go⟩ := h
  have nd := sc_wr.nd
  have hv := hr.units
  refine ⟨_, (pss_cons (ps_par (i := 3) (j := 4) rfl nd rfl rfl (by decide) rfl rfl (pa_cons (pv 1) (pa_cons (pe_lst (pa_cons (pv 1) pa_nil)) pa_nil)) (by rfl))
    (pss_cons (ps_for PassesOwn.never rfl (pi_tup (pe_meth (pv 0) T.cl m_Forest_way G_Forest_way hr b_Forest_way .nil passF (pa_cons (pv 1) (pa_cons (pv 2) pa_nil)))) (pg_tup rfl (pgs_cons (pg_name (i := 5) nd rfl (.inl rfl)) (pgs_cons (pg_name (i := 6) nd rfl (.inl rfl)) pgs_nil))) 
      (pss_cons (ps_asg (pe_ix ix_list (pe_fld (pv 0) rfl) (pv 5) (fun _ _ => rfl)) (pg_tup rfl (pgs_cons (pg_name (i := 7) nd rfl (.inl rfl)) (pgs_cons (pg_name (i := 8) nd rfl (.inl rfl)) (pgs_cons (pg_name (i := 9) nd rfl (.inl rfl)) (pgs_cons (pg_name (i := 10) nd rfl (.inl rfl)) pgs_nil))))))
      (pss_cons (ps_if (PW.pt (pw_or (pt_cmpR (op_eqD hv) (pv 10) (pe_tup pa_nil) (nomark _)) (pw_or1 (pt_cmpR op_ne (pv 3) (pe_ifExp (pt_val (pv 6)) (pv 7) (pv 8)) (nomark _))))) 
        (pss_one (ps_ret pe_bl)) pss_nil)
      (pss_cons (ps_set (i := 3) nd rfl (.inl rfl) (pe_ifExp (pt_val (pv 6)) (pv 8) (pv 7)))
      (pss_cons (ps_if (pt_cmpR op_in_seq (pv 3) (pv 4) rfl) 
        (pss_one (ps_ret pe_bl)) pss_nil)
      (pss_one (ps_expr (pe_bm PySem.F.plainAttrs_list PySem.F.slot_list_append PySem.F.type_list_append mt_append (pv 4) (pa_cons (pv 3) pa_nil)))))))))
    (pss_one (ps_ret (pe_cmpR op_eq (pv 3) (pv 2) (nomark _)))))), ?_⟩
  refine ⟨_, rfl, _, rfl, (by show 1 ≤ sizeLine; decide), fun sl hsl => ⟨_, _, rfl, ?_⟩⟩
  have k1 : Kp H (upd H sl (.lst [.int (a : Int)])) [] := Kp.new hsl
  have hsl1 : upd H sl (.lst [.int (a : Int)]) sl = some (.lst (nats [a])) := upd_same
  generalize upd H sl (.lst [.int (a : Int)]) = H1 at k1 hsl1 ⊢
  have R1 := R.more k1
  obtain ⟨dx, hp⟩ := R1.ob
  have nw : (fl h m j).lookup ("way" : Str) = none := fl_no h m j (by decide +kernel) (by decide +kernel) (by decide +kernel)
  refine ⟨_, rfl, p, dx, _, rfl, hp, nw, _, rfl, _, rfl, p, h, m, j, n, st, _, _, rfl, R1, .inl ⟨_, rfl⟩, .inl ⟨_, rfl⟩, fun a' b' ha' hb' e1 e2 _ H2 t ss k2 hS sl60 hW => ?_, fun z => ?_⟩
  · have e1 : a = a' := by have := V.int.inj e1; omega
    have e2 : b = b' := by have := V.int.inj e2; omega
    subst e1 e2
    obtain ⟨us, ht, hU⟩ := hS
    have k12 := k1.then k2
    have hsl2 := k2.keep _ _ hsl1 (by simp)
    refine ⟨t, rfl, ⟨_, SqT.of ht⟩, for_tup (K := K) (a := t) (xs := us.map V.ref)
      (fun k σ H' => ∃ (cur : Nat) (seen : List Nat) (v5 v6 v7 v8 v9 v10 : Option V), σ = [some (.ref p), some (.int (a : Int)), some (.int (b : Int)), some (.int (cur : Int)), some (.ref sl), v5, v6, v7, v8, v9, v10] ∧ Kp H H' [] ∧ H' sl = some (.lst (nats seen)) ∧ WayOk (rows st).reverse b cur seen (ss.drop k) ∧ seen.length = k + 1 ∧ H' t = some (.tup (us.map V.ref)) ∧ Paired (StepAt H') us ss)
      ⟨a, [a], none, none, none, none, none, none, rfl, k12, hsl2, hW, rfl, ht, hU⟩ (fun k σ H' _ ⟨_, _, _, _, _, _, _, _, _, _, _, _, _, e, _⟩ => SqT.of e) ?_ ?_⟩
    · rintro k x σ H3 hx ⟨cur, seen, v5, v6, v7, v8, v9, v10, rfl, k3, hsl3, W, sn, ht3, hU3⟩
      rw [List.getElem?_map] at hx
      cases eu : us[k]? with
      | none => rw [eu] at hx; cases hx
      | some u =>
      rw [eu] at hx
      cases hx
      obtain ⟨⟨pl, fw⟩, hs, hu⟩ := pairedAt hU3 eu
      have hu : H3 u = some (.tup [.int (pl : Int), .bl fw]) := hu
      have kl : k < ss.length := (List.getElem?_eq_some_iff.mp hs).1
      rw [List.drop_eq_getElem_cons kl, (List.getElem?_eq_some_iff.mp hs).2] at W
      cases W with
      | @step _ _ _ _ _ r h1 h2 h3 h4 W =>
      have R3 := R.more k3
      obtain ⟨dx3, hp3⟩ := R3.ob
      obtain ⟨ws, hj3, hU4⟩ := R3.js
      obtain ⟨w0, hw0, q, mo, hr1, hq1, hmo⟩ : ∃ w0, ws.reverse[pl]? = some w0 ∧ RowAt H3 w0 r := by
        have pr := pairedRev hU4
        have l : pl < ws.reverse.length := by
          rw [Paired.length pr]
          exact (List.getElem?_eq_some_iff.mp h1).1
        obtain ⟨b2, e1, e2⟩ := pairedAt pr (List.getElem?_eq_getElem l)
        rw [h1] at e1
        cases e1
        exact ⟨_, List.getElem?_eq_getElem l, e2⟩
      have hix : (ws.reverse.map V.ref)[pl]? = some (.ref w0) := by rw [List.getElem?_map, hw0]; rfl
      refine ⟨u, _, rfl, SqT.of hu, rfl, _, _, rfl, _, _, rfl, rfl, ?_⟩
      refine ⟨_, rfl, p, C, dx3, _, _, rfl, hp3, T.cl, T.nJ, fl_joins h m j, _, rfl, j, _, _, _, rfl, rfl, SqL.of hj3, at_of (j := pl) rfl hix, w0, _, rfl, SqT.of hr1, rfl, _, _, rfl, _, _, rfl, _, _, rfl, _, _, rfl, rfl, ?_⟩
      -- if moved == () or here != ..
      refine ⟨_, rfl, by show 0 ≤ sizeLine; decide, fun z hz => ?_⟩
      have k4 : Kp H3 (upd H3 z (.tup [])) [] := Kp.new hz
      refine ⟨.tuple (natD r.2.2), .tuple [], .tup (SqT.of (k4.tup hmo)) (dpNats _), .tup (SqT.of upd_same) .nil, shapedT _, rfl, _, rfl, ?_⟩
      rw [eqvNil h2]
      have k34 := k3.then k4
      have hsl4 := k4.keep _ _ hsl3 (by simp)
      have ht4 := k4.tup ht3
      have hU5 := Paired.mapP hU3 fun _ _ e => show StepAt _ _ _ from k4.tup e
      generalize upd H3 z (.tup []) = H4 at k4 k34 hsl4 ht4 hU5 ⊢
      subst h3
      have lt : (nats seen).length < sizeLine := by
        rw [nats_len, sn]
        exact Nat.lt_of_le_of_lt (show _ ≤ 61 by omega) (by decide)
      cases fw with
      | true =>
        rw [show (if true = true then r.1 else r.2.1) = r.1 from rfl]
        refine ⟨_, rfl, _, rfl, _, rfl, _, rfl, rfl, _, rfl, ?_⟩
        rw [decide_eq_true rfl]
        refine ⟨_, rfl, _, rfl, _, rfl, ?_⟩
        refine ⟨_, rfl, _, rfl, sl, _, rfl, .inl (SqL.of hsl4), rfl, flatNats seen, _, rfl, ?_⟩
        have h4 : r.2.1 ∉ seen := h4
        rw [inNats h4]
        refine ⟨_, rfl, .inl ⟨rfl, _, SqL.of hsl4⟩, _, rfl, sl, _, _, rfl, rfl, hsl4, lt, ?_⟩
        rw [nats_snoc]
        have k5 : Kp H4 (upd H4 sl (.lst (nats (seen ++ [r.2.1])))) [sl] := Kp.lst hsl4
        exact ⟨r.2.1, seen ++ [r.2.1], _, _, _, _, _, _, rfl, k34.fresh k5 fun x hx => by rw [List.mem_singleton.mp hx]; exact hsl, upd_same, W, by rw [List.length_append, sn]; rfl, k5.tup ht4, Paired.mapP hU5 fun _ _ e => show StepAt _ _ _ from k5.tup e⟩
      | false =>
        rw [show (if false = true then r.1 else r.2.1) = r.2.1 from rfl]
        refine ⟨_, rfl, _, rfl, _, rfl, _, rfl, rfl, _, rfl, ?_⟩
        rw [decide_eq_true rfl]
        refine ⟨_, rfl, _, rfl, _, rfl, ?_⟩
        refine ⟨_, rfl, _, rfl, sl, _, rfl, .inl (SqL.of hsl4), rfl, flatNats seen, _, rfl, ?_⟩
        have h4 : r.1 ∉ seen := h4
        rw [inNats h4]
        refine ⟨_, rfl, .inl ⟨rfl, _, SqL.of hsl4⟩, _, rfl, sl, _, _, rfl, rfl, hsl4, lt, ?_⟩
        rw [nats_snoc]
        have k5 : Kp H4 (upd H4 sl (.lst (nats (seen ++ [r.1])))) [sl] := Kp.lst hsl4
        exact ⟨r.1, seen ++ [r.1], _, _, _, _, _, _, rfl, k34.fresh k5 fun x hx => by rw [List.mem_singleton.mp hx]; exact hsl, upd_same, W, by rw [List.length_append, sn]; rfl, k5.tup ht4, Paired.mapP hU5 fun _ _ e => show StepAt _ _ _ from k5.tup e⟩
    · rintro σ H3 ⟨cur, seen, v5, v6, v7, v8, v9, v10, rfl, k3, hsl3, W, sn, ht3, hU3⟩
      rw [List.length_map, Paired.length hU, List.drop_length] at W
      cases W with
      | here =>
      refine ⟨_, rfl, _, rfl, rfl, ?_⟩
      rw [decide_eq_true rfl]
      exact go H3 k3
  · rcases z with z | z | ⟨a', b', _, _, e1, e2, z⟩
    · rw [inR_k ha] at z
      cases z
    · rw [inR_k hb] at z
      cases z
    · have e1 : a = a' := by have := V.int.inj e1; omega
      have e2 : b = b' := by have := V.int.inj e2; omega
      subst e1 e2
      exact absurd same z
end
end K15

set_option Elab.async false
set_option maxRecDepth 100000
set_option maxHeartbeats 8000000
namespace K15
open PySem L2
theorem keys_iff {t : List (Key × V)} {k : Key} : k ∈ t.map (·.1) ↔ ∃ v, valV t k = some v := by
  constructor
  · intro h
    cases e : valV t k with
    | none => exact absurd h (valV_not e)
    | some v => exact ⟨v, rfl⟩
  · rintro ⟨v, e⟩
    exact valV_in e
theorem merge_keys : ∀ (more acc : List (Key × V)), (acc.map (·.1)).Nodup → ((mergeK acc more).map (·.1)).Nodup ∧ ∀ k, k ∈ (mergeK acc more).map (·.1) ↔ k ∈ acc.map (·.1) ∨ k ∈ more.map (·.1)
  | [], acc, h => ⟨h, fun k => by simp [mergeK]⟩
  | p :: more, acc, h => by
    obtain ⟨h1, h2⟩ := merge_keys more (putK acc p.1 p.2) (nd_put h)
    refine ⟨h1, fun k => (h2 k).trans ?_⟩
    rw [keys_iff (t := putK acc p.1 p.2), List.map_cons, List.mem_cons]
    constructor
    · rintro (⟨v, e⟩ | e)
      · rw [valV_put] at e
        by_cases c : k = p.1
        · exact .inr (.inl c)
        · rw [if_neg c] at e
          exact .inl (keys_iff.mpr ⟨v, e⟩)
      · exact .inr (.inr e)
    · rintro (e | e | e)
      · by_cases c : k = p.1
        · exact .inl ⟨p.2, by rw [valV_put, if_pos c]⟩
        · obtain ⟨v, e⟩ := keys_iff.mp e
          exact .inl ⟨v, by rw [valV_put, if_neg c]; exact e⟩
      · exact .inl ⟨p.2, by rw [valV_put, if_pos e]⟩
      · exact .inr e
theorem labels_mem {n x : Nat} {st : List Jn} : x ∈ labels n st ↔ x < n ∧ hd st x = x := by
  unfold labels
  rw [List.mem_map]
  constructor
  · rintro ⟨y, hy, rfl⟩
    exact ⟨hd_lt st (List.mem_range.mp hy), hd_hd st y⟩
  · rintro ⟨h1, h2⟩
    exact ⟨x, List.mem_range.mpr h1, h2⟩
theorem alkNats (H : Hp) : ∀ l : List Nat, Paired (Alk H 0) (nats l) (nats l)
  | [] => .nil
  | x :: r => .cons (.inl ⟨_, rfl, rfl⟩) (alkNats H r)
theorem alkL {H : Hp} {a b : Addr} {l : List Nat} (ha : H a = some (.lst (nats l))) (hb : H b = some (.lst (nats l))) (hl : l.length ≤ 1000) : Alk H 1 (.ref a) (.ref b) := .inr (.inl ⟨a, b, _, _, rfl, rfl, ha, hb, alkNats H l, by rw [nats_len]; exact hl⟩)
theorem alkT {H : Hp} {a b : Addr} {l : List Nat} (ha : TupN H a l) (hb : TupN H b l) (hl : l.length ≤ 1000) : Alk H 1 (.ref a) (.ref b) := .inr (.inr ⟨a, b, _, _, rfl, rfl, ha, hb, alkNats H l, by rw [nats_len]; exact hl⟩)
theorem alkTs {H : Hp} : ∀ {ws vs : List Addr} {L : List (List Nat)}, Paired (fun w x => TupN H w x) ws L → Paired (fun w x => TupN H w x) vs L → (∀ x ∈ L, x.length ≤ 1000) → Paired (Alk H 1) (ws.map V.ref) (vs.map V.ref)
  | _, _, _, .nil, .nil, _ => .nil
  | _, _, _, .cons a r, .cons b q, h => .cons (alkT a b (h _ List.mem_cons_self)) (alkTs r q fun x hx => h x (List.mem_cons_of_mem _ hx))
def spLooked (C : Addr) : Sp := fun vs H Q _ => ∃ (d p h m j l : Addr) (ms : List Int) (n : Nat) (st : List Jn), vs = [.ref d, .ref p, .ref l] ∧ H d = some (.lst (ms.map V.int)) ∧ FAt C H p h m j n st ∧ JAt H l st ∧ 0 < n ∧ d ≠ h ∧ d ≠ j ∧ d ≠ l ∧
  ∀ H' (ks : List Int), Kp H H' [d] → H' d = some (.lst (ks.map V.int)) → ks.length ≤ ms.length → Q (.bl true) H'
section
variable {P : Program} {w : World} {K : PySem.W.Frag} {mg : Str → Option Value} {base : Heap}
theorem sc_lk : FnScope ["draws", "forest", "joins", "many", "label", "classes", "members", "turn", "one", "other", "number", "k", "row"] ["draws", "forest", "joins"] (defScope s__law_looked) := ⟨rfl, rfl, rfl, by decide +kernel, rfl, by decide +kernel, by decide +kernel⟩
theorem ok_lk {f C Cn f1 f2 f3 f4 f5 f6 f7 f8 f9 : Addr} {fd fd1 fd2 fd3 fd4 fd5 fd6 fd7 fd8 fd9 : FuncData} (F : Fun K "_law_looked" "_law_looked" s__law_looked f fd) (T : Txt K mg C Cn)
    (G_Forest_many : FnOk P w K mg base CX0 1 f1 fd1 ["self"] (spMany C)) (b_Forest_many : Binds K fd1 ["self"] []) (m_Forest_many : Meth K C "many" f1)
    (G_Forest_find : FnOk P w K mg base (L2N.CX P w) 2 f2 fd2 ["self", "number"] (spFind C Cn)) (b_Forest_find : Binds K fd2 ["self", "number"] []) (m_Forest_find : Meth K C "find" f2)
    (G_Forest_members_of : FnOk P w K mg base (L2N.CX P w) 3 f3 fd3 ["self", "number"] (spMembers C Cn)) (b_Forest_members_of : Binds K fd3 ["self", "number"] []) (m_Forest_members_of : Meth K C "members_of" f3)
    (G_Forest_classes : FnOk P w K mg base CX0 1 f4 fd4 ["self"] (spClasses C)) (b_Forest_classes : Binds K fd4 ["self"] []) (m_Forest_classes : Meth K C "classes" f4)
    (G__law_labels : FnOk P w K mg base CX0 1 f5 fd5 ["many", "joins"] spLabels) (F__law_labels : Fun K "_law_labels" "_law_labels" s__law_labels f5 fd5) (b__law_labels : Binds K fd5 ["many", "joins"] []) (g__law_labels : mg "_law_labels" = some (.ref f5))
    (G__law_alike : FnOk P w K mg base CX0 5 f6 fd6 ["found", "due"] (spAlike 3)) (F__law_alike : Fun K "_law_alike" "_law_alike" s__law_alike f6 fd6) (b__law_alike : Binds K fd6 ["found", "due"] []) (g__law_alike : mg "_law_alike" = some (.ref f6))
    (G__law_take : FnOk P w K mg base CX0 1 f7 fd7 ["draws", "bound"] spTake) (F__law_take : Fun K "_law_take" "_law_take" sTake f7 fd7) (b__law_take : Binds K fd7 ["draws", "bound"] []) (g__law_take : mg "_law_take" = some (.ref f7))
    (G__law_way_right : FnOk P w K mg base CX0 4 f8 fd8 ["forest", "one", "other"] (spWayRight C)) (F__law_way_right : Fun K "_law_way_right" "_law_way_right" s__law_way_right f8 fd8) (b__law_way_right : Binds K fd8 ["forest", "one", "other"] []) (g__law_way_right : mg "_law_way_right" = some (.ref f8))
    (G__law_told : FnOk P w K mg base CX0 4 f9 fd9 ["forest", "which", "one", "other"] (spTold C)) (F__law_told : Fun K "_law_told" "_law_told" s__law_told f9 fd9) (b__law_told : Binds K fd9 ["forest", "which", "one", "other"] []) (g__law_told : mg "_law_told" = some (.ref f9)) :
    FnOk P w K mg base CX0 6 f fd ["draws", "forest", "joins"] (spLooked C) := by
  refine F.ok sc_lk (fun vs H Q E h => ?_) (fun cdv A outer s H vs Q E hr h => ?_)
  · obtain ⟨d, p, h, m, j, l, ms, n, st, rfl, _⟩ := h
    rfl
  obtain ⟨d, p, h, m, j, l, ms, n, st, rfl, hd0, R, J, npos, dh, dj, dl, go⟩ := h
  have nd := sc_lk.nd
  have hv := hr.units
  have hr1 : Room 1 _ := hr.mono (by decide)
  have hr2 : Room 2 _ := hr.mono (by decide)
  have hr3 : Room 3 _ := hr.mono (by decide)
  have hr4 : Room 4 _ := hr.mono (by decide)
  refine ⟨_, (pss_cons (ps_set (i := 3) nd rfl (.inr rfl) (pe_meth0 (pv 1) T.cl m_Forest_many G_Forest_many hr1 b_Forest_many .nil pass0))
    (pss_cons (ps_set (i := 4) nd rfl (.inr rfl) (pe_call G__law_labels hr1 (by rfl) g__law_labels F__law_labels.kp b__law_labels .nil pass0 (pa_cons (pv 3) (pa_cons (pv 2) pa_nil))))
    (pss_cons (ps_set (i := 5) nd rfl (.inl rfl) (pe_callB cr_sortedI (by rfl) T.B.sorted (by decide +kernel) (pa_cons (pe_callTy (call_list_dK rfl) (by rfl) T.B.list (by decide +kernel) (pa_cons (pe_callTy (call_dictP rfl) (by rfl) T.B.dict (by decide +kernel) (pa_cons (pe_lc (own := [("one", 8)]) (g := gName 8) (tt := tYes) rfl nd (pi_list (pv 4)) (blkOk_by (N := ["draws", "forest", "joins", "many", "label", "classes", "members", "turn", "one", "other", "number", "k", "row"]) (sc := defScope s__law_looked) (by decide +kernel)) (fun _ _ _ _ _ => (pg_name (i := 8) nd rfl (.inl rfl))) (fun _ _ _ _ _ => pts_nil) (fun _ _ _ _ _ => (pe_tup (pa_cons (pv 8) (pa_cons pe_int pa_nil))))) pa_nil)) pa_nil)) pa_nil)))
    (pss_cons (ps_setLc (i := 6) (own := [("number", 10)]) (g := gName 10) (tt := tYes) rfl nd rfl rfl (sw_true rfl rfl rfl (by decide +kernel)) (pi_range1 (by rfl) T.B.range (pa_cons (pv 3) pa_nil)) (blkOk_by (N := ["draws", "forest", "joins", "many", "label", "classes", "members", "turn", "one", "other", "number", "k", "row"]) (sc := defScope s__law_looked) (by decide +kernel)) (fun _ _ _ _ _ => (pg_name (i := 10) nd rfl (.inr rfl))) (fun _ _ _ _ _ => pts_nil) (fun _ _ _ _ _ => (pe_callTy (tupOfK K) (by rfl) T.B.tuple (by decide +kernel) (pa_cons (pe_lc (own := [("k", 11)]) (g := gName 11) rfl nd (pi_range1 (by rfl) T.B.range (pa_cons (pv 3) pa_nil)) (blkOk_by (by rfl)) (fun _ _ _ _ _ => (pg_name (i := 11) nd rfl (.inl rfl))) (fun _ _ _ _ _ => (pts_one (pt_cmpR op_eq (pe_ix (ixLK K) (pv 4) (pv 11) (fun _ _ => rfl)) (pe_ix (ixLK K) (pv 4) (pv 10) (fun _ _ => rfl)) (nomark _)))) (fun _ _ _ _ _ => (pv 11))) pa_nil))))
    (pss_cons (ps_if (pt_not (pt_val (pe_call G__law_alike hr (by rfl) g__law_alike F__law_alike.kp b__law_alike .nil pass0 (pa_cons (pe_lst (pa_cons (pe_lc (own := [("k", 11)]) (g := gName 11) (tt := tYes) rfl nd (pi_range1 (by rfl) T.B.range (pa_cons (pv 3) pa_nil)) (blkOk_by (N := ["draws", "forest", "joins", "many", "label", "classes", "members", "turn", "one", "other", "number", "k", "row"]) (sc := defScope s__law_looked) (by decide +kernel)) (fun _ _ _ _ _ => (pg_name (i := 11) nd rfl (.inl rfl))) (fun _ _ _ _ _ => pts_nil) (fun _ _ _ _ _ => (pe_meth (pv 1) T.cl m_Forest_find G_Forest_find hr2 b_Forest_find .nil passF (pa_cons (pv 11) pa_nil)))) (pa_cons (pe_lc (own := [("k", 11)]) (g := gName 11) (tt := tYes) rfl nd (pi_range1 (by rfl) T.B.range (pa_cons (pv 3) pa_nil)) (blkOk_by (N := ["draws", "forest", "joins", "many", "label", "classes", "members", "turn", "one", "other", "number", "k", "row"]) (sc := defScope s__law_looked) (by decide +kernel)) (fun _ _ _ _ _ => (pg_name (i := 11) nd rfl (.inl rfl))) (fun _ _ _ _ _ => pts_nil) (fun _ _ _ _ _ => (pe_meth (pv 1) T.cl m_Forest_members_of G_Forest_members_of hr3 b_Forest_members_of .nil passF (pa_cons (pv 11) pa_nil)))) (pa_cons (pe_meth0 (pv 1) T.cl m_Forest_classes G_Forest_classes hr1 b_Forest_classes .nil pass0) pa_nil)))) (pa_cons (pe_lst (pa_cons (pv 4) (pa_cons (pv 6) (pa_cons (pe_callTy (tupOfK K) (by rfl) T.B.tuple (by decide +kernel) (pa_cons (pv 5) pa_nil)) pa_nil)))) pa_nil))))) 
      (pss_one (ps_ret pe_bl)) pss_nil)
    (pss_cons (ps_if (pt_cmpR op_ne (pe_callB call_len_seq (by rfl) T.B.len (by decide +kernel) (pa_cons (pe_lc (own := [("row", 12)]) (g := gName 12) rfl nd (pi_list (pe_fld (pv 1) rfl)) (blkOk_by (N := ["draws", "forest", "joins", "many", "label", "classes", "members", "turn", "one", "other", "number", "k", "row"]) (sc := defScope s__law_looked) (by decide +kernel)) (fun _ _ _ _ _ => (pg_name (i := 12) nd rfl (.inl rfl))) (fun _ _ _ _ _ => (pts_one (pt_cmpR (neDK K hv) (pe_ix (ixTK K) (pv 12) pe_int (fun _ _ => rfl)) (pe_tup pa_nil) (nomark _)))) (fun _ _ _ _ _ => (pv 12))) pa_nil)) (pe_op op_sub (pv 3) (pe_callB call_len_seq (by rfl) T.B.len (by decide +kernel) (pa_cons (pv 5) pa_nil))) (nomark _)) 
      (pss_one (ps_ret pe_bl)) pss_nil)
    (pss_cons (ps_for PassesOwn.never rfl (pi_range1 (by rfl) T.B.range (pa_cons pe_int pa_nil)) (pg_name (i := 7) nd rfl (.inl rfl)) 
      (pss_cons (ps_par (i := 8) (j := 9) rfl nd rfl rfl (by decide) rfl rfl (pa_cons (pe_call G__law_take hr1 (by rfl) g__law_take F__law_take.kp b__law_take .nil pass0 (pa_cons (pv 0) (pa_cons (pv 3) pa_nil))) (pa_cons (pe_call G__law_take hr1 (by rfl) g__law_take F__law_take.kp b__law_take .nil pass0 (pa_cons (pv 0) (pa_cons (pv 3) pa_nil))) pa_nil)) (by rfl))
      (pss_cons (ps_if (PW.pt (pw_and (pt_cmpR op_eq (pe_ix ix_list (pv 4) (pv 8) (fun _ _ => rfl)) (pe_ix ix_list (pv 4) (pv 9) (fun _ _ => rfl)) (nomark _)) (pw_and1 (pt_not (pt_val (pe_call G__law_way_right hr4 (by rfl) g__law_way_right F__law_way_right.kp b__law_way_right .nil pass0 (pa_cons (pv 1) (pa_cons (pv 8) (pa_cons (pv 9) pa_nil))))))))) 
        (pss_one (ps_ret pe_bl)) pss_nil)
      (pss_one (ps_if (PW.pt (pw_and (pt_cmpR op_ne (pe_ix ix_list (pv 4) (pv 8) (fun _ _ => rfl)) (pe_ix ix_list (pv 4) (pv 9) (fun _ _ => rfl)) (nomark _)) (pw_and1 (pt_cmpR op_ne (pe_call G__law_told hr4 (by rfl) g__law_told F__law_told.kp b__law_told .nil pass0 (pa_cons (pv 1) (pa_cons pe_int (pa_cons (pv 8) (pa_cons (pv 9) pa_nil))))) pe_str (nomark _))))) 
        (pss_one (ps_ret pe_bl)) pss_nil)))))
    (pss_one (ps_ret pe_bl))))))))), ?_⟩
  have n60 := R.sz.1
  obtain ⟨dx, hp⟩ := R.ob
  have nM : (fl h m j).lookup ("many" : Str) = none := fl_no h m j (by decide +kernel) (by decide +kernel) (by decide +kernel)
  have nF : (fl h m j).lookup ("find" : Str) = none := fl_no h m j (by decide +kernel) (by decide +kernel) (by decide +kernel)
  have nO : (fl h m j).lookup ("members_of" : Str) = none := fl_no h m j (by decide +kernel) (by decide +kernel) (by decide +kernel)
  have nC : (fl h m j).lookup ("classes" : Str) = none := fl_no h m j (by decide +kernel) (by decide +kernel) (by decide +kernel)
  refine ⟨_, rfl, p, dx, _, rfl, hp, nM, p, h, m, j, n, st, rfl, R, ?_⟩
  refine ⟨_, rfl, _, rfl, l, n, st, rfl, J, R.ok, n60, R.sz.2, fun H1 lb k1 lbn hlb1 => ?_⟩
  -- classes = sorted(list(dict([(one, 1) for one in label])))
  refine ⟨_, rfl, lb, rfl, ⟨_, SqL.of hlb1⟩, fun D hD => ?_⟩
  refine lc_list (K := K) (a := lb) (xs := nats (labels n st)) (fun i H' => Kp H1 H' [] ∧ ∃ ws : List Addr, H' D = some (.lst (ws.map V.ref)) ∧ Paired (fun w (x : Nat) => H' w = some (.tup [.int (x : Int), .int 1])) ws ((labels n st).take i)) ⟨Kp.new hD, [], upd_same, by rw [List.take_zero]; exact .nil⟩ (fun i H' _ ⟨k, _⟩ => SqL.of (k.keep _ _ hlb1 (by simp))) (fun i x H' hx ⟨kp, ws, hD', hw⟩ => ?_) (fun H2 ⟨kp, ws, hD', hw⟩ => ?_)
  · obtain ⟨y, rfl, hy⟩ := nats_at hx
    refine ⟨rfl, _, rfl, (by show 2 ≤ sizeLine; decide), fun u hu => ?_⟩
    have k2 : Kp H' (upd H' u (.tup [.int (y : Int), .int 1])) [] := Kp.new hu
    have hD2 := k2.keep _ _ hD' (by simp)
    have k3 : Kp (upd H' u (.tup [.int (y : Int), .int 1])) (upd (upd H' u (.tup [.int (y : Int), .int 1])) D (.lst (ws.map V.ref ++ [V.ref u]))) [D] := Kp.lst hD2
    have lw : ws.length ≤ n := by
      rw [Paired.length hw, List.length_take, labels_len]
      exact Nat.min_le_right _ _
    refine ⟨_, hD2, ?_, (kp.then k2).fresh k3 fun x hx => by rw [List.mem_singleton.mp hx]; exact hD, ws ++ [u], ?_, ?_⟩
    · rw [List.length_map]
      exact Nat.lt_of_le_of_lt (show _ ≤ 60 by omega) (by decide)
    · rw [upd_same, List.map_append]
      rfl
    · rw [List.take_succ, hy]
      exact pairedSnoc (Paired.mapP hw fun _ _ z => k3.tup (k2.tup z)) (k3.tup upd_same)
  · rw [nats_len, List.take_length] at hw
    refine ⟨D, ws, (labels n st).map fun x => (ik x, .int 1), rfl, SqL.of hD', ?_, fun dd hdd => ?_⟩
    · clear hD'
      generalize labels n st = L at hw
      induction hw with
      | nil => exact .nil
      | cons a b ih => exact .cons (SqT.of a) ih
    obtain ⟨nd1, mk⟩ := merge_keys ((labels n st).map fun x => (ik x, V.int 1)) [] (List.nodup_nil)
    generalize mergeK [] ((labels n st).map fun x => (ik x, V.int 1)) = kvs at nd1 mk ⊢
    have mk : ∀ k, k ∈ kvs.map (·.1) ↔ ∃ x, x ∈ labels n st ∧ ik x = k := fun k => by
      rw [mk k]
      simp
    obtain ⟨ks, hks⟩ : ∃ ks : List Nat, kvs.map (·.1) = ks.map ik := by
      refine ⟨kvs.map fun q => match q.1 with | .inl i => i.toNat | .inr _ => 0, ?_⟩
      rw [List.map_map]
      apply List.map_congr_left
      intro q hq
      obtain ⟨x, _, e⟩ := (mk q.1).mp (List.mem_map.mpr ⟨q, hq, rfl⟩)
      show q.1 = ik (match q.1 with | .inl i => i.toNat | .inr _ => 0)
      rw [← e]
      rfl
    have ndk : ks.Nodup := by
      rw [hks] at nd1
      exact (List.pairwise_map.mp nd1).imp fun {a b} u v => u (by rw [v])
    have mks : ∀ x, x ∈ ks ↔ x ∈ labels n st := fun x => by
      have z := mk (ik x)
      rw [hks, List.mem_map] at z
      constructor
      · intro hx
        obtain ⟨y, hy, e⟩ := z.mp ⟨x, hx, rfl⟩
        have e : (y : Int) = (x : Int) := Sum.inl.inj e
        rw [← show y = x by omega]
        exact hy
      · intro hx
        obtain ⟨y, hy, e⟩ := z.mpr ⟨x, hx, rfl⟩
        have e : (y : Int) = (x : Int) := Sum.inl.inj e
        rw [← show y = x by omega]
        exact hy
    have ekv : (kvs.map fun kv => kV kv.1) = nats ks := by
      have e : (kvs.map fun kv => kV kv.1) = (kvs.map (·.1)).map kV := by rw [List.map_map]; rfl
      rw [e, hks, List.map_map]
      rfl
    have k2 : Kp H2 (upd H2 dd (.dK kvs)) [] := Kp.new hdd
    refine ⟨dd, kvs, rfl, upd_same, fun q hq => ?_⟩
    rw [ekv]
    have k3 := k2.then (Kp.new (o := .lst (nats ks)) hq)
    have hq3 : upd (upd H2 dd (.dK kvs)) q (.lst (nats ks)) q = some (.lst (nats ks)) := upd_same
    generalize upd (upd H2 dd (.dK kvs)) q (.lst (nats ks)) = H3 at k3 hq3 ⊢
    refine ⟨q, ks.map fun n : Nat => (n : Int), rfl, SqL.of (by rw [hq3, nats_ints]), fun ys cl hy1 hy2 hcl => ?_⟩
    obtain ⟨lc, rfl, l1, l2⟩ := sortedNats hy1 hy2
    have elc : lc = heads n st := filter_of l2 (l1.nodup_iff.mpr ndk) fun x => by
      rw [l1.mem_iff, mks, labels_mem, decide_eq_true_eq]
    subst elc
    rw [← nats_ints]
    have k4 : Kp H3 (upd H3 cl (.lst (nats (heads n st)))) [] := Kp.new hcl
    have hcl4 : upd H3 cl (.lst (nats (heads n st))) cl = some (.lst (nats (heads n st))) := upd_same
    generalize upd H3 cl (.lst (nats (heads n st))) = H4 at k4 hcl4 ⊢
    have kA : Kp H1 H4 [] := (kp.then k3).then k4
    have kH4 : Kp H H4 [] := k1.then kA
    have hlb4 := kA.keep _ _ hlb1 (by simp)
    clear hD' hw mk hks ndk mks ekv hq3 hy1 hy2 l1 l2 nd1
    -- members
    refine ⟨_, rfl, _, rfl, (by omega), (by omega), fun D2 hD2 => ?_⟩
    rw [Int.toNat_natCast]
    have D2n : H D2 = none := kH4.free hD2 (by simp)
    refine lc_range (fun i H' => Kp H4 H' [] ∧ ∃ ws : List Addr, H' D2 = some (.lst (ws.map V.ref)) ∧ Paired (fun w x => TupN H' w x) ws (((labels n st).take i).map (cls n st))) ⟨Kp.new hD2, [], upd_same, by rw [List.take_zero]; exact .nil⟩ (fun i H' hi ⟨kp, ws, hD', hw⟩ => ?_) (fun H5 ⟨kp, ws, hD', hw⟩ => ?_)
    · refine ⟨rfl, _, rfl, _, rfl, (by omega), (by omega), fun D3 hD3 => ?_⟩
      rw [Int.toNat_natCast]
      have hlb' := kp.keep _ _ hlb4 (by simp)
      refine lc_range (fun k H'' => Kp H' H'' [] ∧ H'' D3 = some (.lst (nats ((List.range k).filter fun x => decide (hd st x = hd st i))))) ⟨Kp.new hD3, upd_same⟩ (fun k H'' hk ⟨k5, hD5⟩ => ?_) (fun H'' ⟨k5, hD5⟩ => ?_)
      · have hlb5 := k5.keep _ _ hlb' (by simp)
        refine ⟨rfl, _, rfl, _, rfl, lb, _, _, _, rfl, rfl, SqL.of hlb5, at_of (j := k) (by simp) (nats_get (labels_get hk)), _, rfl, _, rfl, lb, _, _, _, rfl, rfl, SqL.of hlb5, at_of (j := i) (by simp) (nats_get (labels_get hi)), rfl, _, rfl, ?_⟩
        rw [List.range_succ, List.filter_append]
        by_cases c : hd st k = hd st i
        · rw [decide_eq_true (by rw [c])]
          refine ⟨_, rfl, _, hD5, ?_, k5.fresh (Kp.lst hD5) fun x hx => by rw [List.mem_singleton.mp hx]; exact hD3, ?_⟩
          · rw [nats_len]
            have := List.length_filter_le (fun x => decide (hd st x = hd st i)) (List.range k)
            rw [List.length_range] at this
            exact Nat.lt_of_le_of_lt (show _ ≤ 60 by omega) (by decide)
          · rw [upd_same, show (0 : Int) + (k : Int) = (k : Int) by omega, nats_snoc]
            simp [c]
        · rw [decide_eq_false (fun z => c (by have := V.int.inj z; omega))]
          refine ⟨k5, ?_⟩
          rw [hD5]
          simp [c]
      · -- tuple(..)
        have k5' := k5.keep _ _ hD' (by simp)
        refine ⟨D3, _, rfl, .inl ⟨SqL.of hD5, fun t ht => ?_⟩⟩
        have k6 : Kp H'' (upd H'' t (.tup (nats ((List.range n).filter fun x => decide (hd st x = hd st i))))) [] := Kp.new ht
        have hD6 := k6.keep _ _ k5' (by simp)
        have k7 : Kp (upd H'' t (.tup (nats ((List.range n).filter fun x => decide (hd st x = hd st i))))) (upd (upd H'' t (.tup (nats ((List.range n).filter fun x => decide (hd st x = hd st i))))) D2 (.lst (ws.map V.ref ++ [V.ref t]))) [D2] := Kp.lst hD6
        have lw : ws.length ≤ n := by
          rw [Paired.length hw, List.length_map, List.length_take, labels_len]
          exact Nat.min_le_right _ _
        refine ⟨_, hD6, ?_, ((kp.then k5).then k6).fresh k7 fun x hx => by rw [List.mem_singleton.mp hx]; exact hD2, ws ++ [t], ?_, ?_⟩
        · rw [List.length_map]
          exact Nat.lt_of_le_of_lt (show _ ≤ 60 by omega) (by decide)
        · rw [upd_same, List.map_append]
          rfl
        · rw [List.take_succ, labels_get hi, List.map_append]
          exact pairedSnoc (Paired.mapP hw fun _ _ z => k7.tup (k6.tup (k5.tup z))) (k7.tup upd_same)
    · rw [List.take_of_length_le (Nat.le_of_eq (labels_len n st))] at hw
      have kH5 := kH4.then kp
      have R5 := R.more kH5
      obtain ⟨dx5, hp5⟩ := R5.ob
      have hlb5 := kp.keep _ _ hlb4 (by simp)
      have hcl5 := kp.keep _ _ hcl4 (by simp)
      -- [forest.find(k) ..]
      refine ⟨_, rfl, _, rfl, (by omega), (by omega), fun D4 hD4 => ?_⟩
      rw [Int.toNat_natCast]
      refine lc_range (fun i H' => Kp H5 H' [] ∧ H' D4 = some (.lst (nats ((labels n st).take i)))) ⟨Kp.new hD4, by rw [upd_same, List.take_zero]; rfl⟩ (fun i H' hi ⟨k2, hD4'⟩ => ?_) (fun H6 ⟨k6, hD6⟩ => ?_)
      · have R2 := R5.more k2
        obtain ⟨dx2, hp2⟩ := R2.ob
        refine ⟨rfl, _, rfl, p, dx2, _, rfl, hp2, nF, _, rfl, p, h, m, j, n, st, _, rfl, R2, .inl ⟨_, rfl⟩, fun k hk e => ?_, fun z => ?_⟩
        · have e : i = k := by have := V.int.inj e; omega
          subst e
          refine ⟨_, hD4', ?_, k2.fresh (Kp.lst hD4') fun x hx => by rw [List.mem_singleton.mp hx]; exact hD4, ?_⟩
          · rw [nats_len, List.length_take, labels_len]
            exact Nat.lt_of_le_of_lt (show _ ≤ 60 by omega) (by decide)
          · rw [upd_same, nats_snoc, List.take_succ, labels_get hk]
            rfl
        · rw [Int.zero_add, inR_k hi] at z
          cases z
      rw [List.take_of_length_le (Nat.le_of_eq (labels_len n st))] at hD6
      have R6 := R5.more k6
      refine ⟨_, rfl, _, rfl, (by omega), (by omega), fun D5 hD5 => ?_⟩
      rw [Int.toNat_natCast]
      refine lc_range (fun i H' => Kp H6 H' [] ∧ ∃ vs : List Addr, H' D5 = some (.lst (vs.map V.ref)) ∧ Paired (fun w x => TupN H' w x) vs (((labels n st).take i).map (cls n st))) ⟨Kp.new hD5, [], upd_same, by rw [List.take_zero]; exact .nil⟩ (fun i H' hi ⟨k2, vs, hD5', hv5⟩ => ?_) (fun H7 ⟨k7, vs, hD7, hv7⟩ => ?_)
      · have R2 := R6.more k2
        obtain ⟨dx2, hp2⟩ := R2.ob
        refine ⟨rfl, _, rfl, p, dx2, _, rfl, hp2, nO, _, rfl, p, h, m, j, n, st, _, rfl, R2, .inl ⟨_, rfl⟩, fun k hk e H'' t k3 ht => ?_, fun z => ?_⟩
        · have e : i = k := by have := V.int.inj e; omega
          subst e
          have hD5'' := k3.keep _ _ hD5' (by simp)
          have k4 : Kp H'' (upd H'' D5 (.lst (vs.map V.ref ++ [V.ref t]))) [D5] := Kp.lst hD5''
          have lv : vs.length ≤ n := by
            rw [Paired.length hv5, List.length_map, List.length_take, labels_len]
            exact Nat.min_le_right _ _
          refine ⟨_, hD5'', ?_, (k2.then k3).fresh k4 fun x hx => by rw [List.mem_singleton.mp hx]; exact hD5, vs ++ [t], ?_, ?_⟩
          · rw [List.length_map]
            exact Nat.lt_of_le_of_lt (show _ ≤ 60 by omega) (by decide)
          · rw [upd_same, List.map_append]
            rfl
          · rw [List.take_succ, labels_get hk, List.map_append]
            exact pairedSnoc (Paired.mapP hv5 fun _ _ z => k4.tup (k3.tup z)) (k4.tup ht)
        · rw [Int.zero_add, inR_k hi] at z
          cases z
      rw [List.take_of_length_le (Nat.le_of_eq (labels_len n st))] at hv7
      have R7 := R6.more k7
      obtain ⟨dx7, hp7⟩ := R7.ob
      refine ⟨_, rfl, p, dx7, _, rfl, hp7, nC, p, h, m, j, n, st, rfl, R7, fun H8 t8 k8 ht8 => ?_⟩
      refine ⟨(by show 3 ≤ sizeLine; decide), fun a1 ha1 => ?_⟩
      have k9 : Kp H8 (upd H8 a1 (.lst [.ref D4, .ref D5, .ref t8])) [] := Kp.new ha1
      have ha9 : upd H8 a1 (.lst [.ref D4, .ref D5, .ref t8]) a1 = some (.lst [.ref D4, .ref D5, .ref t8]) := upd_same
      generalize upd H8 a1 (.lst [.ref D4, .ref D5, .ref t8]) = H9 at k9 ha9 ⊢
      have kH9 := ((k6.then k7).then k8).then k9
      refine ⟨_, rfl, _, rfl, _, rfl, cl, _, rfl, .inl ⟨SqL.of (kH9.keep _ _ hcl5 (by simp)), fun t9 ht9 => ?_⟩⟩
      have k10 : Kp H9 (upd H9 t9 (.tup (nats (heads n st)))) [] := Kp.new ht9
      have ht10 : TupN (upd H9 t9 (.tup (nats (heads n st)))) t9 (heads n st) := upd_same
      generalize upd H9 t9 (.tup (nats (heads n st))) = H10 at k10 ht10 ⊢
      refine ⟨(by show 3 ≤ sizeLine; decide), fun b1 hb1 => ?_⟩
      have k11 : Kp H10 (upd H10 b1 (.lst [.ref lb, .ref D2, .ref t9])) [] := Kp.new hb1
      have hb11 : upd H10 b1 (.lst [.ref lb, .ref D2, .ref t9]) b1 = some (.lst [.ref lb, .ref D2, .ref t9]) := upd_same
      generalize upd H10 b1 (.lst [.ref lb, .ref D2, .ref t9]) = H11 at k11 hb11 ⊢
      have k9x := k10.then k11
      have k8x := k9.then k9x
      have k7x := k8.then k8x
      have k6x := k7.then k7x
      have k5x := k6.then k6x
      have hlen : (heads n st).length ≤ n := by
        have := count R.ok
        omega
      have alk : Alk H11 3 (.ref a1) (.ref b1) := by
        refine .inr (.inl ⟨a1, b1, _, _, rfl, rfl, k9x.keep _ _ ha9 (by simp), hb11, .cons ?_ (.cons ?_ (.cons ?_ .nil)), by show 3 ≤ 1000; decide⟩)
        · exact .inl (alkL (k6x.keep _ _ hD6 (by simp)) (k5x.keep _ _ hlb5 (by simp)) (by rw [labels_len]; omega))
        · refine .inr (.inl ⟨D5, D2, _, _, rfl, rfl, k7x.keep _ _ hD7 (by simp), k5x.keep _ _ hD' (by simp), alkTs (Paired.mapP hv7 fun _ _ z => k7x.tup z) (Paired.mapP hw fun _ _ z => k5x.tup z) fun x hx => ?_, ?_⟩)
          · obtain ⟨y, _, rfl⟩ := List.mem_map.mp hx
            have := List.length_filter_le (fun x => decide (hd st x = y)) (List.range n)
            rw [List.length_range] at this
            exact Nat.le_trans this (by omega)
          · rw [List.length_map, Paired.length hw, List.length_map, labels_len]
            omega
        · exact .inl (alkT (k8x.tup ht8) (k11.tup ht10) (by omega))
      refine ⟨_, _, rfl, alk, fun H12 k12 => ⟨true, rfl, ?_⟩⟩
      have kH12 : Kp H H12 [] := (kH5.then k5x).then k12
      have R12 := R.more kH12
      obtain ⟨dx12, hp12⟩ := R12.ob
      obtain ⟨us, hj12, hU⟩ := R12.js
      have ul : us.length = st.length := (Paired.length hU).trans (rows_len st)
      have hlb12 := (k5x.then k12).keep _ _ hlb5 (by simp)
      have hcl12 := (k5x.then k12).keep _ _ hcl5 (by simp)
      refine ⟨_, rfl, p, C, dx12, _, _, rfl, hp12, T.cl, T.nJ, fl_joins h m j, j, rfl, ⟨_, SqL.of hj12⟩, fun D6 hD6' => ?_⟩
      refine lc_list (K := K) (a := j) (xs := us.reverse.map V.ref) (fun i H' => Kp H12 H' [] ∧ ∃ ws : List Addr, H' D6 = some (.lst (ws.map V.ref)) ∧ ws.length = (((rows st).reverse.take i).filter fun r => decide (r.2.2 ≠ [])).length) ⟨Kp.new hD6', [], upd_same, by rw [List.take_zero]; rfl⟩ (fun i H' _ ⟨k, _⟩ => SqL.of (k.keep _ _ hj12 (by simp))) (fun i x H' hx ⟨kp, ws, hD', hw⟩ => ?_) (fun H13 ⟨k13, ws13, hD13, hw13⟩ => ?_)
      · rw [List.getElem?_map] at hx
        cases eu : us.reverse[i]? with
        | none => rw [eu] at hx; cases hx
        | some u =>
        rw [eu] at hx
        cases hx
        obtain ⟨r, hr0, q, mo, hu1, hq1, hmo⟩ := pairedAt (pairedRev hU) eu
        have il : i < st.length := by
          have := (List.getElem?_eq_some_iff.mp hr0).1
          rwa [List.length_reverse, rows_len] at this
        refine ⟨rfl, _, rfl, u, _, 3, .ref mo, rfl, rfl, SqT.of (kp.tup hu1), at_of (j := 3) rfl rfl, (by show 0 ≤ sizeLine; decide), fun z hz => ?_⟩
        have kz : Kp H' (upd H' z (.tup [])) [] := Kp.new hz
        refine ⟨.tuple (natD r.2.2), .tuple [], .tup (SqT.of (kz.tup (kp.tup hmo))) (dpNats _), .tup (SqT.of upd_same) .nil, shapedT _, rfl, _, rfl, ?_⟩
        have hDz := kz.keep _ _ hD' (by simp)
        by_cases c : r.2.2 = []
        · rw [c]
          show Kp H12 _ [] ∧ _
          refine ⟨kp.then kz, ws, hDz, ?_⟩
          rw [List.take_succ, hr0, List.filter_append, List.length_append, hw]
          simp [c]
        · rw [eqvNil c]
          refine ⟨_, rfl, _, hDz, ?_, (kp.then kz).fresh (Kp.lst hDz) fun x hx => by rw [List.mem_singleton.mp hx]; exact hD6', ws ++ [u], ?_, ?_⟩
          · rw [List.length_map, hw]
            have a := List.length_filter_le (fun r : Row => decide (r.2.2 ≠ [])) ((rows st).reverse.take i)
            rw [List.length_take] at a
            have := R.sz.2
            exact Nat.lt_of_le_of_lt (show _ ≤ 1000 by omega) (by decide)
          · rw [upd_same, List.map_append]
            rfl
          · rw [List.take_succ, hr0, List.filter_append, List.length_append, List.length_append, hw]
            simp [c]
      · have e13 : ws13.length = ((rows st).filter fun r => decide (r.2.2 ≠ [])).length := by
          rw [hw13, List.length_map, List.length_reverse, ul, ← rows_len st, ← List.length_reverse (as := rows st), List.take_length, List.filter_reverse, List.length_reverse]
        have cnt := count R.ok
        refine ⟨D6, _, rfl, .inl (SqL.of hD13), _, rfl, _, rfl, cl, _, rfl, .inl (SqL.of (k13.keep _ _ hcl12 (by simp))), _, _, rfl, rfl, rfl, _, rfl, ?_⟩
        rw [decide_eq_true (congrArg V.int (by rw [List.length_map, nats_len]; omega))]
        have kH13 := kH12.then k13
        have hlb13 := k13.keep _ _ hlb12 (by simp)
        have hd13 := kH13.keep _ _ hd0 (by simp)
        -- for turn in range(6)
        refine ⟨6, rfl, by decide, by decide, for_range (n := 6) (fun i σ H' => ∃ (ks : List Int) (v7 v8 v9 v10 v11 v12 : Option V), σ = [some (.ref d), some (.ref p), some (.ref l), some (.int (n : Int)), some (.ref lb), some (.ref cl), some (.ref D2), v7, v8, v9, v10, v11, v12] ∧ Kp H13 H' [d] ∧ H' d = some (.lst (ks.map V.int)) ∧ ks.length ≤ ms.length)
          ⟨ms, none, none, none, none, none, none, rfl, ⟨fun _ _ e _ => e, fun x hx => by rw [List.mem_singleton.mp hx]; exact .inl ⟨_, hd13⟩⟩, hd13, Nat.le_refl _⟩ ?_ ?_⟩
        · rintro i σ H14 hi ⟨ks, v7, v8, v9, v10, v11, v12, rfl, k14, hd14, kl14⟩
          have npos' : (0 : Int) < (n : Int) := by omega
          refine ⟨_, rfl, _, rfl, d, _, ks, rfl, hd14, npos', fun z1 ks1 z10 z11 kl1 => ?_⟩
          refine ⟨_, rfl, _, rfl, d, _, ks1, rfl, upd_same, npos', fun z2 ks2 z20 z21 kl2 => ⟨_, _, rfl, ?_⟩⟩
          rw [upd_upd]
          obtain ⟨a, rfl⟩ : ∃ a : Nat, z1 = (a : Int) := ⟨z1.toNat, by omega⟩
          obtain ⟨b, rfl⟩ : ∃ b : Nat, z2 = (b : Int) := ⟨z2.toNat, by omega⟩
          have ha : a < n := by omega
          have hb : b < n := by omega
          have k15 : Kp H13 (upd H14 d (.lst (ks2.map V.int))) [d] := k14.trans (Kp.lst hd14) (by simp) (by simp) k14.kind
          have hd15 : upd H14 d (.lst (ks2.map V.int)) d = some (.lst (ks2.map V.int)) := upd_same
          generalize upd H14 d (.lst (ks2.map V.int)) = H15 at k15 hd15 ⊢
          have lbd : lb ≠ d := fun z => by
            rw [z, hd0] at lbn
            cases lbn
          have hlb15 := k15.keep _ _ hlb13 (nm1 lbd)
          have R13 := R.more kH13
          obtain ⟨_, hm15, _⟩ := R13.ms
          have R15 := R13.kp k15 (nm1 dh.symm) (nm1 (dne hm15 hd13)) (nm1 dj.symm)
          have g1 : atI (nats (labels n st)) (a : Int) = some (.int ((hd st a : Nat) : Int)) := at_of (j := a) rfl (nats_get (labels_get ha))
          have g2 : atI (nats (labels n st)) (b : Int) = some (.int ((hd st b : Nat) : Int)) := at_of (j := b) rfl (nats_get (labels_get hb))
          have fin : ∀ {H16 : Hp}, Kp H15 H16 [] → Kp H13 H16 [d] ∧ H16 d = some (.lst (ks2.map V.int)) ∧ ks2.length ≤ ms.length := fun k => ⟨k15.then k, k.keep _ _ hd15 (by simp), by omega⟩
          by_cases same : hd st a = hd st b
          · refine ⟨_, rfl, _, rfl, lb, _, _, _, rfl, rfl, SqL.of hlb15, g1, _, rfl, _, rfl, lb, _, _, _, rfl, rfl, SqL.of hlb15, g2, rfl, _, rfl, ?_⟩
            rw [decide_eq_true (by rw [same])]
            refine ⟨_, rfl, _, rfl, _, rfl, p, h, m, j, n, st, a, b, rfl, R15, ha, hb, same, fun H16 k16 => ⟨true, rfl, ?_⟩⟩
            have hlb16 := k16.keep _ _ hlb15 (by simp)
            refine ⟨_, rfl, _, rfl, lb, _, _, _, rfl, rfl, SqL.of hlb16, g1, _, rfl, _, rfl, lb, _, _, _, rfl, rfl, SqL.of hlb16, g2, rfl, _, rfl, ?_⟩
            rw [decide_eq_true (by rw [same])]
            obtain ⟨f1, f2, f3⟩ := fin k16
            exact ⟨ks2, _, _, _, _, _, _, rfl, f1, f2, f3⟩
          · refine ⟨_, rfl, _, rfl, lb, _, _, _, rfl, rfl, SqL.of hlb15, g1, _, rfl, _, rfl, lb, _, _, _, rfl, rfl, SqL.of hlb15, g2, rfl, _, rfl, ?_⟩
            rw [decide_eq_false (fun z => same (by have := V.int.inj z; omega))]
            refine ⟨_, rfl, _, rfl, lb, _, _, _, rfl, rfl, SqL.of hlb15, g1, _, rfl, _, rfl, lb, _, _, _, rfl, rfl, SqL.of hlb15, g2, rfl, _, rfl, ?_⟩
            rw [decide_eq_false (fun z => same (by have := V.int.inj z; omega))]
            refine ⟨_, rfl, _, rfl, _, rfl, p, h, m, j, n, st, 3, _, _, rfl, R15, .inl ⟨_, rfl⟩, .inl ⟨_, rfl⟩, .inr ⟨.inr (.inr ⟨rfl, .inr (.inr ⟨a, b, ha, hb, rfl, rfl, same⟩)⟩), fun H16 k16 => ?_⟩⟩
            refine ⟨rfl, _, rfl, ?_⟩
            rw [decide_eq_true rfl]
            obtain ⟨f1, f2, f3⟩ := fin k16
            exact ⟨ks2, _, _, _, _, _, _, rfl, f1, f2, f3⟩
        · rintro σ H14 ⟨ks, v7, v8, v9, v10, v11, v12, rfl, k14, hd14, kl14⟩
          exact go H14 ks (kH13.pre k14 fun x hx => by rw [List.mem_singleton.mp hx]; exact .inl ⟨_, hd0⟩) hd14 kl14
end
end K15

set_option Elab.async false
set_option maxRecDepth 100000
set_option maxHeartbeats 8000000
namespace K15
open PySem L2
/-! ### states as data -/
def rowD (j : Jn) : PyData := .tuple [.int (j.1 : Int), .int (j.2 : Int), .tuple [.str "said", .int 0]]
def rowsD (st : List Jn) : List PyData := st.reverse.map rowD
def stD (n : Nat) (st : List Jn) : PyData := .tuple [.int (n : Int), .list (rowsD st), .list (natD (labels n st)), .tuple (natD (heads n st))]
theorem dpRows {K : PySem.W.Frag} {H : Hp} : ∀ {us : List Addr} {L : List Jn}, Paired (R3At H) us L → DpAll K H (us.map V.ref) (L.map rowD)
  | _, _, .nil => .nil
  | _, _, .cons ⟨q, a, b⟩ r => .cons (.tup (SqT.of a) (.cons (.int _) (.cons (.int _) (.cons (.tup (SqT.of b) (.cons (.str _) (.cons (.int _) .nil))) .nil)))) (dpRows r)
theorem StAt.dp {K : PySem.W.Frag} {M : List Addr} {H : Hp} {v : V} {n : Nat} {st : List Jn} (h : StAt M H v n st) : Dp K H v (stD n st) := by
  obtain ⟨s, l1, l2, t, us, rfl, a, b, c, d, f, _, _⟩ := h
  exact .tup (SqT.of a) (.cons (.int _) (.cons (.lst (SqL.of b) (dpRows c)) (.cons (.lst (SqL.of d) (dpNats _)) (.cons (.tup (SqT.of f) (dpNats _)) .nil))))
theorem lay_rows : ∀ L : List Jn, PyData.canLayAll0 (L.map rowD) = true
  | [] => rfl
  | j :: r => by
    show (PyData.canLay0 (rowD j) && PyData.canLayAll0 (r.map rowD)) = true
    rw [lay_rows r, Bool.and_true]
    have so : PyData.canLay0 (.str "said") = true := by decide +kernel
    show (PyData.canLay0 (.int (j.1 : Int)) && (PyData.canLay0 (.int (j.2 : Int)) && ((PyData.canLay0 (.str "said") && (PyData.canLay0 (.int 0) && true)) && true))) = true
    rw [so]
    rfl
theorem deep_rows : ∀ L : List Jn, PyData.depthAll (L.map rowD) ≤ 2
  | [] => by decide
  | j :: r => by
    show max (PyData.depth (rowD j)) (PyData.depthAll (r.map rowD)) ≤ 2
    have := deep_rows r
    have e : PyData.depth (rowD j) = 2 := rfl
    omega
theorem shapedSt (n : Nat) (st : List Jn) : SeqAt.shaped (stD n st) = true := by
  unfold SeqAt.shaped
  have d := deep_rows st.reverse
  have l := lay_rows st.reverse
  show ((PyData.canLay0 (.int (n : Int)) && (PyData.canLayAll0 (rowsD st) && (PyData.canLayAll0 (natD (labels n st)) && (PyData.canLayAll0 (natD (heads n st)) && true)))) && decide (max 0 (max (PyData.depthAll (rowsD st) + 1) (max (PyData.depthAll (natD (labels n st)) + 1) (max (PyData.depthAll (natD (heads n st)) + 1) 0))) + 1 ≤ 64)) = true
  have l : PyData.canLayAll0 (rowsD st) = true := l
  have d : PyData.depthAll (rowsD st) ≤ 2 := d
  rw [l, lay_ints, lay_ints, deep_ints, deep_ints, decide_eq_true (by omega)]
  rfl
theorem eqvSelf {d : PyData} (h : SeqAt.shaped d = true) : PyData.eqv d d = true := by
  unfold SeqAt.shaped at h
  rw [Bool.and_eq_true] at h
  exact PySem.SeqAt.eqv_refl d h.1
end K15

set_option Elab.async false
set_option maxRecDepth 100000
set_option maxHeartbeats 16000000
namespace K15
open PySem L2
section
variable {X : Cx} {pos : Pos}
theorem pgTK (K : PySem.W.Frag) {es : List Expr} {k : Nat} {t : TGs} {n : Nat} (hc : X.calm = true) (h : PGs X es t) (hn : (assignEach es X.env).length = n := by rfl) (hst : (assignEach es X.env).findIdx? (·.1) = none := by rfl) (hk : X.K = K := by rfl) : PG X (.Tuple es k pos) (gTup K n t) := by
  subst hk
  exact pg_tup hc h hn hst
end
/-- law's: a list of at most 63 ints is handed in, True comes out -/
def spLaw (K : PySem.W.Frag) : Sp := fun vs H Q _ => ∃ (a : Addr) (ns : List Int), vs = [.ref a] ∧ SqL K H a (ns.map V.int) ∧ ns.length ≤ 63 ∧ ∀ H', Q (.bl true) H'
theorem ite_share {c : Bool} {tA tB : TE} {σ : L2.St} {H : Hp} {Q : VK} (due : V) (h1 : c = true → ∀ Q' : VK, Q' due H → tA σ H Q') (h2 : c = false → ∀ Q' : VK, Q' due H → tB σ H Q') (hq : Q due H) : if c = true then tA σ H Q else tB σ H Q := by
  cases c with
  | true => exact iteT (h1 rfl Q hq)
  | false => exact iteF (h2 rfl Q hq)
def badL (n : Nat) : List (Nat × V × V) := [(0, .int (-1), .int 0), (0, .int (n : Int), .int 0), (0, .non, .int 0), (0, .bl true, .int 0), (1, .int (-1), .int 0), (2, .int 0, .int (n : Int)), (2, .int (-1), .int 0), (3, .int 0, .int (n : Int))]
theorem inR_neg (n : Nat) : inR (.int (-1)) 0 ((n : Int) - 1) = false := rfl
theorem inR_n (n : Nat) : inR (.int (n : Int)) 0 ((n : Int) - 1) = false := by
  show (decide ((0 : Int) ≤ n) && decide ((n : Int) ≤ (n : Int) - 1)) = false
  rw [decide_eq_false (show ¬ (n : Int) ≤ (n : Int) - 1 by omega), Bool.and_false]
theorem badOk (n : Nat) (st : List Jn) (h : st.length < 1000) : ∀ b ∈ badL n, Numb b.2.1 ∧ Numb b.2.2 ∧ ((b.1 = 0 ∨ b.1 = 1) ∧ inR b.2.1 0 ((n : Int) - 1) = false ∨ b.1 = 2 ∧ st.length < 1000 ∧ (inR b.2.1 0 ((n : Int) - 1) = false ∨ inR b.2.2 0 ((n : Int) - 1) = false) ∨
      b.1 = 3 ∧ (inR b.2.1 0 ((n : Int) - 1) = false ∨ inR b.2.2 0 ((n : Int) - 1) = false ∨ ∃ x y : Nat, x < n ∧ y < n ∧ b.2.1 = .int (x : Int) ∧ b.2.2 = .int (y : Int) ∧ hd st x ≠ hd st y)) := fun b hb => by
  unfold badL at hb
  simp only [List.mem_cons, List.not_mem_nil, or_false] at hb
  have i : ∀ z : Int, Numb (.int z) := fun z => .inl ⟨z, rfl⟩
  rcases hb with e | e | e | e | e | e | e | e <;> subst e
  · exact ⟨i _, i _, .inl ⟨.inl rfl, inR_neg n⟩⟩
  · exact ⟨i _, i _, .inl ⟨.inl rfl, inR_n n⟩⟩
  · exact ⟨.inr (.inr rfl), i _, .inl ⟨.inl rfl, rfl⟩⟩
  · exact ⟨.inr (.inl ⟨_, rfl⟩), i _, .inl ⟨.inl rfl, rfl⟩⟩
  · exact ⟨i _, i _, .inl ⟨.inr rfl, inR_neg n⟩⟩
  · exact ⟨i _, i _, .inr (.inl ⟨rfl, h, .inr (inR_n n)⟩)⟩
  · exact ⟨i _, i _, .inr (.inl ⟨rfl, h, .inl (inR_neg n)⟩)⟩
  · exact ⟨i _, i _, .inr (.inr ⟨rfl, .inr (.inl (inR_n n))⟩)⟩
def BadAt (H : Hp) (t : Addr) (b : Nat × V × V) : Prop := H t = some (.tup [.int (b.1 : Int), b.2.1, b.2.2])
def SAt (M : List Addr) (H : Hp) (u : Addr) (q : Nat × List Jn) : Prop := ∃ v l, H u = some (.tup [v, .ref l]) ∧ StAt M H v q.1 q.2 ∧ JAt H l q.2 ∧ l ∉ M
theorem SAt.kp {M N : List Addr} {H H' : Hp} {u : Addr} {q : Nat × List Jn} (h : SAt M H u q) (k : Kp H H' N) (s : ∀ x ∈ N, x ∈ M) : SAt M H' u q :=
  let ⟨v, l, a, b, c, e⟩ := h
  ⟨v, l, k.tup a, b.kp k s, c.kp k fun z => e (s _ z), e⟩
/-- between two turns -/
structure LInv (C : Addr) (H : Hp) (d p h m j sl jl : Addr) (ms : List Int) (n : Nat) (st : List Jn) (S : List (Nat × List Jn)) (us : List Addr) : Prop where
  dr : H d = some (.lst (ms.map V.int))
  fo : FAt C H p h m j n st
  ja : JAt H jl st
  sls : H sl = some (.lst (us.map V.ref))
  sts : Paired (SAt [d, h, m, j, sl] H) us S
  suf : ∀ q ∈ S, (∃ k, q.2 = st.drop k) ∧ q.1 ≤ n ∧ Ok q.1 q.2 ∧ 0 < q.1
  dh : d ≠ h
  dj : d ≠ j
  ds : d ≠ sl
  hs : h ≠ sl
  js : j ≠ sl
  jm : jl ∉ [d, h, m, j, sl]
  pos : 0 < n
theorem LInv.dm {C : Addr} {H : Hp} {d p h m j sl jl : Addr} {ms : List Int} {n : Nat} {st : List Jn} {S : List (Nat × List Jn)} {us : List Addr} (L : LInv C H d p h m j sl jl ms n st S us) : m ≠ d ∧ m ≠ sl := let ⟨_, e, _⟩ := L.fo.ms; ⟨dne e L.dr, dne e L.sls⟩
theorem LInv.tracked {C : Addr} {H : Hp} {d p h m j sl jl : Addr} {ms : List Int} {n : Nat} {st : List Jn} {S : List (Nat × List Jn)} {us : List Addr} (L : LInv C H d p h m j sl jl ms n st S us) : ∀ x ∈ [d, h, m, j, sl], (∃ xs, H x = some (.lst xs)) ∨ ∃ kvs, H x = some (.dK kvs) := fun x hx => by
  simp only [List.mem_cons, List.not_mem_nil, or_false] at hx
  rcases hx with e | e | e | e | e
  · rw [e]; exact .inl ⟨_, L.dr⟩
  · exact L.fo.kind x (by simp [e])
  · exact L.fo.kind x (by simp [e])
  · exact L.fo.kind x (by simp [e])
  · rw [e]; exact .inl ⟨_, L.sls⟩
theorem LInv.notNone {C : Addr} {H : Hp} {d p h m j sl jl : Addr} {ms : List Int} {n : Nat} {st : List Jn} {S : List (Nat × List Jn)} {us : List Addr} (L : LInv C H d p h m j sl jl ms n st S us) : ∀ x ∈ [d, h, m, j, sl], H x ≠ none := fun x hx e => by
  rcases L.tracked x hx with ⟨_, q⟩ | ⟨_, q⟩ <;> rw [e] at q <;> cases q
/-- nothing of it is changed -/
theorem LInv.more {C : Addr} {H H' : Hp} {d p h m j sl jl : Addr} {ms : List Int} {n : Nat} {st : List Jn} {S : List (Nat × List Jn)} {us : List Addr} (L : LInv C H d p h m j sl jl ms n st S us) (k : Kp H H' []) : LInv C H' d p h m j sl jl ms n st S us :=
  ⟨k.keep _ _ L.dr (by simp), L.fo.more k, L.ja.kp k (by simp), k.keep _ _ L.sls (by simp), Paired.mapP L.sts fun _ _ z => z.kp k (by simp), L.suf, L.dh, L.dj, L.ds, L.hs, L.js, L.jm, L.pos⟩
/-- draws were taken -/
theorem LInv.draw {C : Addr} {H H' : Hp} {d p h m j sl jl : Addr} {ms ks : List Int} {n : Nat} {st : List Jn} {S : List (Nat × List Jn)} {us : List Addr} (L : LInv C H d p h m j sl jl ms n st S us) (k : Kp H H' [d]) (e : H' d = some (.lst (ks.map V.int))) : LInv C H' d p h m j sl jl ks n st S us :=
  ⟨e, L.fo.kp k (nm1 L.dh.symm) (nm1 L.dm.1) (nm1 L.dj.symm), L.ja.kp k (fun z => L.jm (by rw [List.mem_singleton.mp z]; simp)), k.keep _ _ L.sls (nm1 L.ds.symm), Paired.mapP L.sts fun _ _ z => z.kp k (by simp), L.suf, L.dh, L.dj, L.ds, L.hs, L.js, L.jm, L.pos⟩
/-- the forest changed -/
theorem LInv.forest {C : Addr} {H H' : Hp} {d p h m j sl jl : Addr} {ms : List Int} {n n' : Nat} {st st' : List Jn} {S : List (Nat × List Jn)} {us : List Addr} (L : LInv C H d p h m j sl jl ms n st S us) (k : Kp H H' [h, m, j]) (f : FAt C H' p h m j n' st') (hn : n ≤ n')
    (hs : st' = st ∨ ∃ q, st' = q :: st) : H' d = some (.lst (ms.map V.int)) ∧ JAt H' jl st ∧ Paired (SAt [d, h, m, j, sl] H') us S ∧ H' sl = some (.lst (us.map V.ref)) ∧ ∀ q ∈ S, (∃ k, q.2 = st'.drop k) ∧ q.1 ≤ n' ∧ Ok q.1 q.2 ∧ 0 < q.1 := by
  refine ⟨k.keep _ _ L.dr (nm3 L.dh L.dm.1.symm L.dj), L.ja.kp k (fun z => L.jm (by simp at z ⊢; rcases z with z | z | z <;> simp [z])), Paired.mapP L.sts fun _ _ z => z.kp k (by simp), k.keep _ _ L.sls (nm3 L.hs.symm L.dm.2.symm L.js.symm), fun q hq => ?_⟩
  obtain ⟨⟨i, a⟩, b, c⟩ := L.suf q hq
  refine ⟨?_, Nat.le_trans b hn, c⟩
  rcases hs with e | ⟨r, e⟩
  · exact ⟨i, by rw [e]; exact a⟩
  · exact ⟨i + 1, by rw [e]; exact a⟩
section
variable {P : Program} {w : World} {K : PySem.W.Frag} {mg : Str → Option Value} {base : Heap}
theorem sc_law : FnScope ["script", "draws", "forest", "joins", "states", "number", "turn", "one", "other", "label", "pair", "twin", "whole", "state", "before", "bad", "which"] ["script"] (defScope s_law) := ⟨rfl, rfl, rfl, by decide +kernel, rfl, by decide +kernel, by decide +kernel⟩
theorem ok_law {f C Cn f1 f2 f3 f4 f5 f6 f7 f8 f9 fA fB fC fD : Addr} {fd fd1 fd2 fd3 fd4 fd5 fd6 fd7 fd8 fd9 fdA fdB fdC fdD : FuncData} (F : Fun K "law" "law" s_law f fd) (T : Txt K mg C Cn)
    (M_Forest : Mk K C f1) (G_Forest___init__ : FnOk P w K mg base CX0 1 f1 fd1 ["self"] (spInit C)) (b_Forest___init__ : Binds K fd1 ["self"] [])
    (G_Forest_many : FnOk P w K mg base CX0 1 f2 fd2 ["self"] (spMany C)) (b_Forest_many : Binds K fd2 ["self"] []) (m_Forest_many : Meth K C "many" f2)
    (G_Forest_new : FnOk P w K mg base CX0 1 f3 fd3 ["self"] (spNew C)) (b_Forest_new : Binds K fd3 ["self"] []) (m_Forest_new : Meth K C "new" f3)
    (G_Forest_join : FnOk P w K mg base (L2N.CX P w) 3 f4 fd4 ["self", "one", "other", "reason"] (spJoin C Cn)) (b_Forest_join : Binds K fd4 ["self", "one", "other", "reason"] []) (m_Forest_join : Meth K C "join" f4)
    (G_Forest_back : FnOk P w K mg base CX0 1 f5 fd5 ["self", "joins", "numbers"] (spBack C)) (b_Forest_back : Binds K fd5 ["self", "joins", "numbers"] []) (m_Forest_back : Meth K C "back" f5)
    (G_Forest_copy : FnOk P w K mg base CX0 3 f6 fd6 ["self"] (spCopy C)) (b_Forest_copy : Binds K fd6 ["self"] []) (m_Forest_copy : Meth K C "copy" f6)
    (G__law_draws : FnOk P w K mg base CX0 1 f7 fd7 ["script"] (spDraws K)) (F__law_draws : Fun K "_law_draws" "_law_draws" sDraws f7 fd7) (b__law_draws : Binds K fd7 ["script"] []) (g__law_draws : mg "_law_draws" = some (.ref f7))
    (G__law_take : FnOk P w K mg base CX0 1 f8 fd8 ["draws", "bound"] spTake) (F__law_take : Fun K "_law_take" "_law_take" sTake f8 fd8) (b__law_take : Binds K fd8 ["draws", "bound"] []) (g__law_take : mg "_law_take" = some (.ref f8))
    (G__law_alike : FnOk P w K mg base CX0 5 f9 fd9 ["found", "due"] (spAlike 3)) (F__law_alike : Fun K "_law_alike" "_law_alike" s__law_alike f9 fd9) (b__law_alike : Binds K fd9 ["found", "due"] []) (g__law_alike : mg "_law_alike" = some (.ref f9))
    (G__law_told : FnOk P w K mg base CX0 4 fA fdA ["forest", "which", "one", "other"] (spTold C)) (F__law_told : Fun K "_law_told" "_law_told" s__law_told fA fdA) (b__law_told : Binds K fdA ["forest", "which", "one", "other"] []) (g__law_told : mg "_law_told" = some (.ref fA))
    (G__law_labels : FnOk P w K mg base CX0 1 fB fdB ["many", "joins"] spLabels) (F__law_labels : Fun K "_law_labels" "_law_labels" s__law_labels fB fdB) (b__law_labels : Binds K fdB ["many", "joins"] []) (g__law_labels : mg "_law_labels" = some (.ref fB))
    (G__law_state : FnOk P w K mg base CX0 3 fC fdC ["forest"] (spState C)) (F__law_state : Fun K "_law_state" "_law_state" s__law_state fC fdC) (b__law_state : Binds K fdC ["forest"] []) (g__law_state : mg "_law_state" = some (.ref fC))
    (G__law_looked : FnOk P w K mg base CX0 6 fD fdD ["draws", "forest", "joins"] (spLooked C)) (F__law_looked : Fun K "_law_looked" "_law_looked" s__law_looked fD fdD) (b__law_looked : Binds K fdD ["draws", "forest", "joins"] []) (g__law_looked : mg "_law_looked" = some (.ref fD)) :
    FnOk P w K mg base CX0 7 f fd ["script"] (spLaw K) := by
  refine F.ok sc_law (fun vs H Q E h => ?_) (fun cdv A outer s H vs Q E hr h => ?_)
  · obtain ⟨a, ns, rfl, _⟩ := h
    rfl
  obtain ⟨a, ns, rfl, hS, hlen, go⟩ := h
  have nd := sc_law.nd
  have hv := hr.units
  have hr1 : Room 1 _ := hr.mono (by decide)
  have hr2 : Room 2 _ := hr.mono (by decide)
  have hr3 : Room 3 _ := hr.mono (by decide)
  have hr4 : Room 4 _ := hr.mono (by decide)
  have hr5 : Room 5 _ := hr.mono (by decide)
  refine ⟨_, (pss_cons (ps_set (i := 1) nd rfl (.inl rfl) (pe_call G__law_draws hr1 (by rfl) g__law_draws F__law_draws.kp b__law_draws .nil pass0 (pa_cons (pv 0) pa_nil)))
    (pss_cons (ps_asg (pe_tup (pa_cons (pe_make0 M_Forest G_Forest___init__ hr2 (by rfl) T.mgC b_Forest___init__ .nil pass0) (pa_cons (pe_lst pa_nil) (pa_cons (pe_lst pa_nil) pa_nil)))) (pg_tup rfl (pgs_cons (pg_name (i := 2) nd rfl (.inr rfl)) (pgs_cons (pg_name (i := 3) nd rfl (.inl rfl)) (pgs_cons (pg_name (i := 4) nd rfl (.inl rfl)) pgs_nil)))))
    (pss_cons (ps_for PassesOwn.never rfl (pi_range1 (by rfl) T.B.range (pa_cons (pe_op op_add pe_int (pe_call G__law_take hr1 (by rfl) g__law_take F__law_take.kp b__law_take .nil pass0 (pa_cons (pv 1) (pa_cons pe_int pa_nil)))) pa_nil)) (pg_name (i := 5) nd rfl (.inl rfl)) 
      (pss_one (ps_if (pt_not (pt_val (pe_call G__law_alike hr5 (by rfl) g__law_alike F__law_alike.kp b__law_alike .nil pass0 (pa_cons (pe_meth0 (pv 2) T.cl m_Forest_new G_Forest_new hr1 b_Forest_new .nil pass0) (pa_cons (pv 5) pa_nil))))) 
        (pss_one (ps_ret pe_bl)) pss_nil)))
    (pss_cons (ps_for PassesOwn.never rfl (pi_range1 (by rfl) T.B.range (pa_cons (pe_op op_add pe_int (pe_call G__law_take hr1 (by rfl) g__law_take F__law_take.kp b__law_take .nil pass0 (pa_cons (pv 1) (pa_cons pe_int pa_nil)))) pa_nil)) (pg_name (i := 6) nd rfl (.inl rfl)) 
      (pss_cons (ps_expr (pe_bm PySem.F.plainAttrs_list PySem.F.slot_list_append PySem.F.type_list_append mt_append (pv 4) (pa_cons (pe_tup (pa_cons (pe_call G__law_state hr3 (by rfl) g__law_state F__law_state.kp b__law_state .nil pass0 (pa_cons (pv 2) pa_nil)) (pa_cons (pe_op op_cat (pv 3) (pe_lst pa_nil)) pa_nil))) pa_nil)))
      (Evl.pss_cut (ps_if (pt_cmpR op_eq (pe_call G__law_take hr1 (by rfl) g__law_take F__law_take.kp b__law_take .nil pass0 (pa_cons (pv 1) (pa_cons pe_int pa_nil))) pe_int (nomark _)) 
        (pss_one (ps_expr (pe_meth0 (pv 2) T.cl m_Forest_new G_Forest_new hr1 b_Forest_new .nil pass0))) pss_nil)
      (pss_cons (ps_par (i := 7) (j := 8) rfl nd rfl rfl (by decide) rfl rfl (pa_cons (pe_call G__law_take hr1 (by rfl) g__law_take F__law_take.kp b__law_take .nil pass0 (pa_cons (pv 1) (pa_cons (pe_meth0 (pv 2) T.cl m_Forest_many G_Forest_many hr1 b_Forest_many .nil pass0) pa_nil))) (pa_cons (pe_call G__law_take hr1 (by rfl) g__law_take F__law_take.kp b__law_take .nil pass0 (pa_cons (pv 1) (pa_cons (pe_meth0 (pv 2) T.cl m_Forest_many G_Forest_many hr1 b_Forest_many .nil pass0) pa_nil))) pa_nil)) (by rfl))
      (pss_cons (ps_set (i := 9) nd rfl (.inl rfl) (pe_call G__law_labels hr1 (by rfl) g__law_labels F__law_labels.kp b__law_labels .nil pass0 (pa_cons (pe_meth0 (pv 2) T.cl m_Forest_many G_Forest_many hr1 b_Forest_many .nil pass0) (pa_cons (pv 3) pa_nil))))
      (pss_cons (ps_set (i := 10) nd rfl (.inl rfl) (pe_tup (pa_cons (pe_callB (call_min2 rfl) (by rfl) T.B.min (by decide +kernel) (pa_cons (pe_ix ix_list (pv 9) (pv 7) (fun _ _ => rfl)) (pa_cons (pe_ix ix_list (pv 9) (pv 8) (fun _ _ => rfl)) pa_nil))) (pa_cons (pe_callB (call_max2 rfl) (by rfl) T.B.max (by decide +kernel) (pa_cons (pe_ix ix_list (pv 9) (pv 7) (fun _ _ => rfl)) (pa_cons (pe_ix ix_list (pv 9) (pv 8) (fun _ _ => rfl)) pa_nil))) pa_nil))))
      (pss_cons (ps_if (pt_not (pt_val (pe_call G__law_alike hr5 (by rfl) g__law_alike F__law_alike.kp b__law_alike .nil pass0 (pa_cons (pe_call G__law_told hr4 (by rfl) g__law_told F__law_told.kp b__law_told .nil pass0 (pa_cons (pv 2) (pa_cons pe_int (pa_cons (pv 7) (pa_cons (pv 8) pa_nil))))) (pa_cons (pe_ifExp (pt_cmpR op_ne (pe_ix ix_tup (pv 10) pe_int (fun _ _ => rfl)) (pe_ix ix_tup (pv 10) pe_int (fun _ _ => rfl)) (nomark _)) (pv 10) pe_non) pa_nil))))) 
        (pss_one (ps_ret pe_bl)) pss_nil)
      (pss_cons (ps_set (i := 3) nd rfl (.inl rfl) (pe_op op_cat (pv 3) (pe_lst (pa_cons (pe_tup (pa_cons (pv 7) (pa_cons (pv 8) pa_nil))) pa_nil))))
      (pss_one (ps_if (pt_not (pt_val (pe_call G__law_looked hr (by rfl) g__law_looked F__law_looked.kp b__law_looked .nil pass0 (pa_cons (pv 1) (pa_cons (pv 2) (pa_cons (pv 3) pa_nil)))))) 
        (pss_one (ps_ret pe_bl)) pss_nil))))))))))
    (pss_cons (ps_par (i := 11) (j := 12) rfl nd rfl rfl (by decide) rfl rfl (pa_cons (pe_meth0 (pv 2) T.cl m_Forest_copy G_Forest_copy hr3 b_Forest_copy .nil pass0) (pa_cons (pe_call G__law_state hr3 (by rfl) g__law_state F__law_state.kp b__law_state .nil pass0 (pa_cons (pv 2) pa_nil)) pa_nil)) (by rfl))
    (pss_cons (ps_asg (pe_ix ix_list (pv 4) (pe_call G__law_take hr1 (by rfl) g__law_take F__law_take.kp b__law_take .nil pass0 (pa_cons (pv 1) (pa_cons (pe_callB call_len_seq (by rfl) T.B.len (by decide +kernel) (pa_cons (pv 4) pa_nil)) pa_nil))) (fun _ _ => rfl)) (pg_tup rfl (pgs_cons (pg_name (i := 13) nd rfl (.inl rfl)) (pgs_cons (pg_name (i := 14) nd rfl (.inl rfl)) pgs_nil))))
    (pss_cons (ps_expr (pe_meth (pv 2) T.cl m_Forest_back G_Forest_back hr1 b_Forest_back .nil pass0 (pa_cons (pe_callB call_len_seq (by rfl) T.B.len (by decide +kernel) (pa_cons (pe_ix ix_tup (pv 13) pe_int (fun _ _ => rfl)) pa_nil)) (pa_cons (pe_ix ix_tup (pv 13) pe_int (fun _ _ => rfl)) pa_nil))))
    (pss_cons (ps_if (PW.pt (pw_or (pt_cmpR (op_neD hv) (pe_call G__law_state hr3 (by rfl) g__law_state F__law_state.kp b__law_state .nil pass0 (pa_cons (pv 2) pa_nil)) (pv 13) (nomark _)) (pw_or (pt_not (pt_val (pe_call G__law_looked hr (by rfl) g__law_looked F__law_looked.kp b__law_looked .nil pass0 (pa_cons (pv 1) (pa_cons (pv 2) (pa_cons (pv 14) pa_nil)))))) (pw_or1 (pt_cmpR (op_neD hv) (pe_call G__law_state hr3 (by rfl) g__law_state F__law_state.kp b__law_state .nil pass0 (pa_cons (pv 11) pa_nil)) (pv 12) (nomark _)))))) 
      (pss_one (ps_ret pe_bl)) pss_nil)
    (pss_cons (ps_for PassesOwn.never rfl (pi_list (pe_slice sl_list (pv 3) (po_some (pe_callB call_len_seq (by rfl) T.B.len (by decide +kernel) (pa_cons (pv 14) pa_nil))) po_none)) (pg_tup rfl (pgs_cons (pg_name (i := 7) nd rfl (.inl rfl)) (pgs_cons (pg_name (i := 8) nd rfl (.inl rfl)) pgs_nil))) 
      (pss_cons (ps_while PassesOwn.never (pt_cmpR op_le (pe_meth0 (pv 2) T.cl m_Forest_many G_Forest_many hr1 b_Forest_many .nil pass0) (pe_callB (call_max2 rfl) (by rfl) T.B.max (by decide +kernel) (pa_cons (pv 7) (pa_cons (pv 8) pa_nil))) (nomark _)) 
        (pss_one (ps_expr (pe_meth0 (pv 2) T.cl m_Forest_new G_Forest_new hr1 b_Forest_new .nil pass0))))
      (pss_one (ps_expr (pe_meth (pv 2) T.cl m_Forest_join G_Forest_join hr3 b_Forest_join .nil passF (pa_cons (pv 7) (pa_cons (pv 8) (pa_cons (pe_tup (pa_cons pe_str (pa_cons pe_int pa_nil))) pa_nil))))))))
    (pss_cons (ps_while PassesOwn.never (pt_cmpR op_lt (pe_meth0 (pv 2) T.cl m_Forest_many G_Forest_many hr1 b_Forest_many .nil pass0) (pe_meth0 (pv 11) T.cl m_Forest_many G_Forest_many hr1 b_Forest_many .nil pass0) (nomark _)) 
      (pss_one (ps_expr (pe_meth0 (pv 2) T.cl m_Forest_new G_Forest_new hr1 b_Forest_new .nil pass0))))
    (pss_cons (ps_if (PW.pt (pw_or (pt_cmpR (op_neD hv) (pe_slice sl_tup (pe_call G__law_state hr3 (by rfl) g__law_state F__law_state.kp b__law_state .nil pass0 (pa_cons (pv 2) pa_nil)) (po_some pe_int) po_none) (pe_slice sl_tup (pv 12) (po_some pe_int) po_none) (nomark _)) (pw_or (pt_not (pt_val (pe_call G__law_looked hr (by rfl) g__law_looked F__law_looked.kp b__law_looked .nil pass0 (pa_cons (pv 1) (pa_cons (pv 2) (pa_cons (pv 3) pa_nil)))))) (pw_or1 (pt_not (pt_val (pe_call G__law_looked hr (by rfl) g__law_looked F__law_looked.kp b__law_looked .nil pass0 (pa_cons (pv 1) (pa_cons (pv 11) (pa_cons (pv 3) pa_nil)))))))))) 
      (pss_one (ps_ret pe_bl)) pss_nil)
    (pss_cons (ps_set (i := 15) nd rfl (.inl rfl) (pe_lst (pa_cons (pe_tup (pa_cons pe_int (pa_cons (pe_un un_neg pe_int) (pa_cons pe_int pa_nil)))) (pa_cons (pe_tup (pa_cons pe_int (pa_cons (pe_meth0 (pv 2) T.cl m_Forest_many G_Forest_many hr1 b_Forest_many .nil pass0) (pa_cons pe_int pa_nil)))) (pa_cons (pe_tup (pa_cons pe_int (pa_cons pe_non (pa_cons pe_int pa_nil)))) (pa_cons (pe_tup (pa_cons pe_int (pa_cons pe_bl (pa_cons pe_int pa_nil)))) (pa_cons (pe_tup (pa_cons pe_int (pa_cons (pe_un un_neg pe_int) (pa_cons pe_int pa_nil)))) (pa_cons (pe_tup (pa_cons pe_int (pa_cons pe_int (pa_cons (pe_meth0 (pv 2) T.cl m_Forest_many G_Forest_many hr1 b_Forest_many .nil pass0) pa_nil)))) (pa_cons (pe_tup (pa_cons pe_int (pa_cons (pe_un un_neg pe_int) (pa_cons pe_int pa_nil)))) (pa_cons (pe_tup (pa_cons pe_int (pa_cons pe_int (pa_cons (pe_meth0 (pv 2) T.cl m_Forest_many G_Forest_many hr1 b_Forest_many .nil pass0) pa_nil)))) pa_nil))))))))))
    (pss_one (ps_ret (pe_cmpR (op_eqD hv) (pe_lc (own := [("which", 16), ("one", 7), ("other", 8)]) (tt := tYes) rfl nd (pi_list (pv 15)) (blkOk_by (N := ["script", "draws", "forest", "joins", "states", "number", "turn", "one", "other", "label", "pair", "twin", "whole", "state", "before", "bad", "which"]) (sc := defScope s_law) (by decide +kernel)) (fun _ _ _ _ _ => (pgTK (n := 3) K rfl (pgs_cons (pg_name (i := 16) nd rfl (.inl rfl)) (pgs_cons (pg_name (i := 7) nd rfl (.inl rfl)) (pgs_cons (pg_name (i := 8) nd rfl (.inl rfl)) pgs_nil))))) (fun _ _ _ _ _ => pts_nil) (fun _ _ _ _ _ => (pe_call G__law_told hr4 (by rfl) g__law_told F__law_told.kp b__law_told .nil pass0 (pa_cons (pv 2) (pa_cons (pv 16) (pa_cons (pv 7) (pa_cons (pv 8) pa_nil))))))) (pe_op op_rep (pe_lst (pa_cons pe_str pa_nil)) pe_int) (nomark _)))))))))))))))), ?_⟩
  have nN : ∀ {h m j : Addr}, (fl h m j).lookup ("new" : Str) = none := fun {h m j} => fl_no h m j (by decide +kernel) (by decide +kernel) (by decide +kernel)
  have nM : ∀ {h m j : Addr}, (fl h m j).lookup ("many" : Str) = none := fun {h m j} => fl_no h m j (by decide +kernel) (by decide +kernel) (by decide +kernel)
  have nJ : ∀ {h m j : Addr}, (fl h m j).lookup ("join" : Str) = none := fun {h m j} => fl_no h m j (by decide +kernel) (by decide +kernel) (by decide +kernel)
  have nB : ∀ {h m j : Addr}, (fl h m j).lookup ("back" : Str) = none := fun {h m j} => fl_no h m j (by decide +kernel) (by decide +kernel) (by decide +kernel)
  have nC : ∀ {h m j : Addr}, (fl h m j).lookup ("copy" : Str) = none := fun {h m j} => fl_no h m j (by decide +kernel) (by decide +kernel) (by decide +kernel)
  refine ⟨_, rfl, a, ns, rfl, hS, hlen, fun H1 d ms s1 hdn h1 _ => ?_⟩
  -- forest, joins, states = Forest(), [], []
  intro p dx np ndx nex
  refine ⟨p, dx, rfl, upd_same, fun H2 h m j F2 kp2 e1 e2 e3 => ⟨rfl, ?_⟩⟩
  have k12 : Kp H1 H2 [] := ⟨fun c o e _ => kp2 c o (by rw [upd_ne (ne_of_none e np), upd_ne (ne_of_none e ndx)]; exact e) (ne_of_none e np), fun _ h => (nomatch h)⟩
  have h2d := k12.keep _ _ h1 (by simp)
  have dn : ∀ {x : Addr}, (upd (upd H1 dx (.own p)) p (.ins C dx [])) x = none → d ≠ x := fun e z => by
    rw [← z, upd_ne (ne_of_none h1 np), upd_ne (ne_of_none h1 ndx), h1] at e
    cases e
  have dh := dn e1
  have dj := dn e3
  refine ⟨Nat.zero_le _, fun jl hjl => ⟨Nat.zero_le _, fun sl hsl => ⟨by show 3 ≤ sizeLine; decide, fun q hq => ?_⟩⟩⟩
  have kj := Kp.new (o := .lst []) hjl
  have ks := Kp.new (o := .lst []) hsl
  have kq := Kp.new (o := .tup [.ref p, .ref jl, .ref sl]) hq
  have f1 := kj.keep _ _ h2d (by simp)
  have F3 := F2.more kj
  have ejl : upd H2 jl (.lst []) jl = some (.lst []) := upd_same
  have djl : d ≠ jl := ne_of_none h2d hjl
  have hjl' : h ≠ jl := ne_of_none F2.hs hjl
  have jjl : j ≠ jl := let ⟨_, e, _⟩ := F2.js; ne_of_none e hjl
  have mjl : m ≠ jl := let ⟨_, e, _⟩ := F2.ms; ne_of_none e hjl
  have dsl : d ≠ sl := ne_of_none f1 hsl
  have hsl' : h ≠ sl := ne_of_none F3.hs hsl
  have jsl : j ≠ sl := let ⟨_, e, _⟩ := F3.js; ne_of_none e hsl
  have jlsl : jl ≠ sl := ne_of_none ejl hsl
  have kk := (ks.then kq)
  have F4 := F3.more kk
  have d4 := kk.keep _ _ f1 (by simp)
  have jl4 := kk.keep _ _ ejl (by simp)
  have sl4 := kq.keep _ _ (upd_same : upd (upd H2 jl (.lst [])) sl (.lst []) sl = _) (by simp)
  refine ⟨q, _, rfl, SqT.of upd_same, rfl, _, _, rfl, _, _, rfl, _, _, rfl, rfl, ?_⟩
  generalize upd (upd (upd H2 jl (.lst [])) sl (.lst [])) q (.tup [.ref p, .ref jl, .ref sl]) = H4 at kk F4 d4 jl4 sl4 ⊢
  -- for number in range(1 + _law_take(draws, 8))
  refine ⟨_, rfl, d, _, ms, rfl, d4, by decide, fun z ks1 z0 z1 _ => ?_⟩
  have F5 := F4.kp (Kp.lst d4 (o := .lst (ks1.map V.int))) (nm1 dh.symm) (nm1 (let ⟨_, e, _⟩ := F4.ms; dne e d4)) (nm1 dj.symm)
  have d5 : upd H4 d (.lst (ks1.map V.int)) d = some (.lst (ks1.map V.int)) := upd_same
  have jl5 : upd H4 d (.lst (ks1.map V.int)) jl = some (.lst []) := (upd_ne djl.symm).trans jl4
  have sl5 : upd H4 d (.lst (ks1.map V.int)) sl = some (.lst []) := (upd_ne dsl.symm).trans sl4
  generalize upd H4 d (.lst (ks1.map V.int)) = H5 at F5 d5 jl5 sl5 ⊢
  refine ⟨_, _, rfl, rfl, _, rfl, (by omega), (by omega), for_range (n := (1 + z).toNat) (fun i σ H' => ∃ (v5 : Option V), σ = [some (.ref a), some (.ref d), some (.ref p), some (.ref jl), some (.ref sl), v5, none, none, none, none, none, none, none, none, none, none, none] ∧ FAt C H' p h m j i [] ∧ H' d = some (.lst (ks1.map V.int)) ∧ H' jl = some (.lst []) ∧ H' sl = some (.lst [])) ⟨none, rfl, F5, d5, jl5, sl5⟩ ?_ ?_⟩
  · rintro i σ H6 hi ⟨v5, rfl, F6, d6, jl6, sl6⟩
    obtain ⟨dx6, hp6⟩ := F6.ob
    refine ⟨_, rfl, p, dx6, _, rfl, hp6, nN, p, h, m, j, i, [], rfl, F6, by omega, fun H7 F7 k7 => ?_⟩
    refine ⟨_, rfl, .int (i : Int), _, rfl, .inl (.inl (.inl (.inl ⟨(i : Int), rfl, by rw [Int.zero_add]⟩))), fun H8 k8 => ⟨true, rfl, ?_⟩⟩
    exact ⟨_, rfl, F7.more k8, k8.keep _ _ (k7.keep _ _ d6 (nm3 dh (let ⟨_, e, _⟩ := F6.ms; (dne e d6).symm) dj)) (by simp), k8.keep _ _ (k7.keep _ _ jl6 (nm3 hjl'.symm mjl.symm jjl.symm)) (by simp), k8.keep _ _ (k7.keep _ _ sl6 (nm3 hsl'.symm (let ⟨_, e, _⟩ := F6.ms; (dne e sl6).symm) jsl.symm)) (by simp)⟩
  rintro σ H6 ⟨v5, rfl, F6, d6, jl6, sl6⟩
  have L6 : LInv C H6 d p h m j sl jl ks1 (1 + z).toNat [] [] [] := ⟨d6, F6, ⟨[], jl6, .nil⟩, sl6, .nil, fun _ h => (nomatch h), dh, dj, dsl, hsl', jsl, by simp [djl.symm, hjl'.symm, mjl.symm, jjl.symm, jlsl], by omega⟩
  have n8 : (1 + z).toNat ≤ 8 := by omega
  generalize (1 + z).toNat = n0 at L6 n8
  clear F6 d6 jl6 sl6
  -- for turn in range(1 + _law_take(draws, 18))
  refine ⟨_, rfl, d, _, ks1, rfl, L6.dr, by decide, fun z ks2 z0 z1 _ => ?_⟩
  have L7 := L6.draw (Kp.lst L6.dr) (upd_same : upd H6 d (.lst (ks2.map V.int)) d = _)
  generalize upd H6 d (.lst (ks2.map V.int)) = H7 at L7 ⊢
  refine ⟨_, _, rfl, rfl, _, rfl, (by omega), (by omega), for_range (n := (1 + z).toNat) (fun i σ H' => ∃ (jl : Addr) (ms : List Int) (n : Nat) (st : List Jn) (S : List (Nat × List Jn)) (us : List Addr) (v5 v6 v7 v8 v9 v10 : Option V), σ = [some (.ref a), some (.ref d), some (.ref p), some (.ref jl), some (.ref sl), v5, v6, v7, v8, v9, v10, none, none, none, none, none, none] ∧ LInv C H' d p h m j sl jl ms n st S us ∧ n ≤ 8 + i ∧ st.length = i ∧ S.length = i) ⟨jl, ks2, n0, [], [], [], v5, none, none, none, none, none, rfl, L7, by omega, rfl, rfl⟩ ?_ ?_⟩
  · rintro i σ H8 hlt ⟨jl, ms, n, st, S, us, v5, v6, v7, v8, v9, v10, rfl, L, n8i, sti, Si⟩
    have n26 : n < 60 := by omega
    obtain ⟨usj, hjl, hUj⟩ := L.ja
    -- states.append((_law_state(forest), joins + []))
    refine ⟨_, rfl, .inl ⟨rfl, _, SqL.of L.sls⟩, _, rfl, p, h, m, j, n, st, rfl, L.fo, fun H9 v k9 hst => ?_⟩
    have hstM := hst [d, h, m, j, sl] L.notNone
    refine ⟨_, rfl, Nat.zero_le _, fun e he => ⟨jl, e, _, _, rfl, rfl, (upd_ne (ne_of_none (k9.keep _ _ hjl (by simp)) he)).trans (k9.keep _ _ hjl (by simp)), upd_same, ?_, fun l2 hl2 => ⟨by show 2 ≤ sizeLine; decide, fun u hu => ?_⟩⟩⟩
    · have := Paired.length hUj
      rw [List.length_reverse] at this
      rw [List.length_map]
      exact Nat.le_trans (show _ ≤ 100 by simp; omega) (by decide)
    have k10 := (k9.then (Kp.new (o := .lst []) he))
    have k11 := k10.then (Kp.new (o := .lst (usj.map V.ref ++ [])) hl2)
    have l2n : H8 l2 = none := k10.free hl2 (by simp)
    have k12' := Kp.new (o := .tup [v, .ref l2]) hu
    have k13 := k11.then k12'
    have hl12 := k12'.keep _ _ (upd_same : upd (upd H9 e (.lst [])) l2 (.lst (usj.map V.ref ++ [])) l2 = _) (by simp)
    have hu12 : upd (upd (upd H9 e (.lst [])) l2 (.lst (usj.map V.ref ++ []))) u (.tup [v, .ref l2]) u = some (.tup [v, .ref l2]) := upd_same
    have kst := ((Kp.new (o := .lst []) he).then (Kp.new (o := .lst (usj.map V.ref ++ [])) hl2)).then k12'
    generalize upd (upd (upd H9 e (.lst [])) l2 (.lst (usj.map V.ref ++ []))) u (.tup [v, .ref l2]) = H12 at k13 hl12 hu12 kst ⊢
    have L12 := L.more k13
    refine ⟨sl, _, _, rfl, rfl, L12.sls, ?_, ?_⟩
    · rw [List.length_map, Paired.length L.sts]
      exact Nat.lt_of_le_of_lt (show _ ≤ 100 by omega) (by decide)
    have ks13 : Kp H12 (upd H12 sl (.lst (us.map V.ref ++ [V.ref u]))) [sl] := Kp.lst L12.sls
    have L13 : LInv C (upd H12 sl (.lst (us.map V.ref ++ [V.ref u]))) d p h m j sl jl ms n st (S ++ [(n, st)]) (us ++ [u]) := by
      refine ⟨ks13.keep _ _ L12.dr (nm1 L.ds), L12.fo.kp ks13 (nm1 L.hs) (nm1 L12.dm.2) (nm1 L.js), L12.ja.kp ks13 (fun z => L.jm (by rw [List.mem_singleton.mp z]; simp)), ?_, ?_, ?_, L.dh, L.dj, L.ds, L.hs, L.js, L.jm, L.pos⟩
      · rw [upd_same, List.map_append]
        rfl
      · refine pairedSnoc (Paired.mapP L12.sts fun _ _ z => z.kp ks13 (by simp)) ⟨v, l2, ks13.tup hu12, (hstM.kp kst (by simp)).kp ks13 (by simp), JAt.kp ⟨usj, ?_, Paired.mapP hUj fun _ _ z => k13.tup z⟩ ks13 ?_, fun z => L.notNone _ z l2n⟩
        · rw [hl12, List.append_nil]
        · exact fun z => L.notNone sl (by simp) (by rw [← List.mem_singleton.mp z]; exact l2n)
      · intro q hq
        rcases List.mem_append.mp hq with z | z
        · exact L.suf q z
        · rw [List.mem_singleton.mp z]
          exact ⟨⟨0, rfl⟩, Nat.le_refl _, L.fo.ok, L.pos⟩
    generalize upd H12 sl (.lst (us.map V.ref ++ [V.ref u])) = H13 at L13 ⊢
    -- if _law_take(draws, 4) == 0: forest.new()
    refine ⟨fun σ' H' => ∃ (ms : List Int) (n' : Nat), σ' = [some (.ref a), some (.ref d), some (.ref p), some (.ref jl), some (.ref sl), v5, some (.int (0 + (i : Int))), v7, v8, v9, v10, none, none, none, none, none, none] ∧ LInv C H' d p h m j sl jl ms n' st (S ++ [(n, st)]) (us ++ [u]) ∧ n' ≤ n + 1, ?_, ?_⟩
    · refine ⟨_, rfl, d, _, ms, rfl, L13.dr, by decide, fun z4 ks4 z40 z41 _ => ?_⟩
      have L14 := L13.draw (Kp.lst L13.dr) (upd_same : upd H13 d (.lst (ks4.map V.int)) d = _)
      generalize upd H13 d (.lst (ks4.map V.int)) = H14 at L14 ⊢
      refine ⟨rfl, _, rfl, ite2 (fun _ => ?_) (fun _ => ?_)⟩
      · obtain ⟨dx6, hp6⟩ := L14.fo.ob
        refine ⟨_, rfl, p, dx6, _, rfl, hp6, nN, p, h, m, j, n, st, rfl, L14.fo, n26, fun H15 F15 k15 => ?_⟩
        obtain ⟨g1, g2, g3, g4, g5⟩ := L14.forest k15 F15 (Nat.le_succ n) (.inl rfl)
        exact ⟨ks4, n + 1, rfl, ⟨g1, F15, g2, g4, g3, g5, L.dh, L.dj, L.ds, L.hs, L.js, L.jm, Nat.succ_pos n⟩, Nat.le_refl _⟩
      · exact ⟨ks4, n, rfl, L14, Nat.le_succ n⟩
    · rintro σ' H14 ⟨ms4, n', rfl, L14, n'n⟩
      have npos := L14.pos
      have sl20 := L14.fo.sz.2
      obtain ⟨dx14, hp14⟩ := L14.fo.ob
      -- one, other = ..
      refine ⟨_, rfl, _, rfl, p, dx14, _, rfl, hp14, nM, p, h, m, j, n', st, rfl, L14.fo, d, _, ms4, rfl, L14.dr, by omega, fun z5 ks5 z50 z51 kl5 => ?_⟩
      have L15 := L14.draw (Kp.lst L14.dr) (upd_same : upd H14 d (.lst (ks5.map V.int)) d = _)
      generalize upd H14 d (.lst (ks5.map V.int)) = H15 at L15 ⊢
      obtain ⟨dx15, hp15⟩ := L15.fo.ob
      refine ⟨_, rfl, _, rfl, p, dx15, _, rfl, hp15, nM, p, h, m, j, n', st, rfl, L15.fo, d, _, ks5, rfl, L15.dr, by omega, fun z6 ks6 z60 z61 kl6 => ⟨_, _, rfl, ?_⟩⟩
      have L16 := L15.draw (Kp.lst L15.dr) (upd_same : upd H15 d (.lst (ks6.map V.int)) d = _)
      generalize upd H15 d (.lst (ks6.map V.int)) = H16 at L16 ⊢
      obtain ⟨x, rfl⟩ : ∃ x : Nat, z5 = (x : Int) := ⟨z5.toNat, by omega⟩
      obtain ⟨y, rfl⟩ : ∃ y : Nat, z6 = (y : Int) := ⟨z6.toNat, by omega⟩
      have hx : x < n' := by omega
      have hy : y < n' := by omega
      obtain ⟨dx16, hp16⟩ := L16.fo.ob
      -- label = ..
      refine ⟨_, rfl, p, dx16, _, rfl, hp16, nM, p, h, m, j, n', st, rfl, L16.fo, _, rfl, jl, n', st, rfl, L16.ja, L16.fo.ok, L16.fo.sz.1, sl20, fun H17 lb k17 _ hlb => ?_⟩
      have L17 := L16.more k17
      have g1 : atI (nats (labels n' st)) (x : Int) = some (.int ((hd st x : Nat) : Int)) := at_of (j := x) rfl (nats_get (labels_get hx))
      have g2 : atI (nats (labels n' st)) (y : Int) = some (.int ((hd st y : Nat) : Int)) := at_of (j := y) rfl (nats_get (labels_get hy))
      -- pair = ..
      refine ⟨_, rfl, _, rfl, lb, _, _, _, rfl, rfl, SqL.of hlb, g1, _, rfl, _, rfl, lb, _, _, _, rfl, rfl, SqL.of hlb, g2, _, _, rfl, ?_⟩
      refine ⟨_, rfl, _, rfl, lb, _, _, _, rfl, rfl, SqL.of hlb, g1, _, rfl, _, rfl, lb, _, _, _, rfl, rfl, SqL.of hlb, g2, _, _, rfl, ?_⟩
      have elo : (if ((hd st y : Nat) : Int) < ((hd st x : Nat) : Int) then ((hd st y : Nat) : Int) else ((hd st x : Nat) : Int)) = ((lo st (x, y) : Nat) : Int) := by
        show _ = ((min (hd st x) (hd st y) : Nat) : Int)
        split <;> omega
      have ehi : (if ((hd st y : Nat) : Int) > ((hd st x : Nat) : Int) then ((hd st y : Nat) : Int) else ((hd st x : Nat) : Int)) = ((hi st (x, y) : Nat) : Int) := by
        show _ = ((max (hd st x) (hd st y) : Nat) : Int)
        split <;> omega
      rw [elo, ehi]
      refine ⟨(by show 2 ≤ sizeLine; decide), fun pr hpr => ?_⟩
      have kpr : Kp H17 (upd H17 pr (.tup [.int ((lo st (x, y) : Nat) : Int), .int ((hi st (x, y) : Nat) : Int)])) [] := Kp.new hpr
      have hpr18 : upd H17 pr (.tup [.int ((lo st (x, y) : Nat) : Int), .int ((hi st (x, y) : Nat) : Int)]) pr = some (.tup [.int ((lo st (x, y) : Nat) : Int), .int ((hi st (x, y) : Nat) : Int)]) := upd_same
      have L18 := L17.more kpr
      generalize upd H17 pr (.tup [.int ((lo st (x, y) : Nat) : Int), .int ((hi st (x, y) : Nat) : Int)]) = H18 at kpr hpr18 L18 ⊢
      -- if not _law_alike(_law_told(forest, 2, one, other), ..)
      refine ⟨_, rfl, _, rfl, _, rfl, p, h, m, j, n', st, 2, _, _, rfl, L18.fo, .inl ⟨_, rfl⟩, .inl ⟨_, rfl⟩, .inl ⟨rfl, by omega, x, y, hx, hy, rfl, rfl, fun H19 r F19 k19 jr => ?_⟩⟩
      have hpr19 := k19.tup hpr18
      obtain ⟨q1, q2, q3, q4, q5⟩ := L18.forest k19 F19 (Nat.le_refl _) (.inr ⟨_, rfl⟩)
      refine ⟨_, rfl, pr, _, 0, _, rfl, rfl, SqT.of hpr19, at_of (j := 0) rfl rfl, _, rfl, pr, _, 1, _, rfl, rfl, SqT.of hpr19, at_of (j := 1) rfl rfl, rfl, _, rfl, ?_⟩
      refine ite_share (if hd st x = hd st y then .non else .ref pr) (fun c Q' hQ => ?_) (fun c Q' hQ => ?_) ?_
      · have ne : ¬ hd st x = hd st y := fun e => by
          rw [decide_eq_true (by rw [(lo_eq_hi st (x, y)).mpr e])] at c
          cases c
        rw [if_neg ne] at hQ
        exact ⟨_, rfl, hQ⟩
      · have e : hd st x = hd st y := by
          refine (lo_eq_hi st (x, y)).mp ?_
          by_cases q : lo st (x, y) = hi st (x, y)
          · exact q
          · rw [decide_eq_false (fun z => q (by have := V.int.inj z; omega))] at c
            cases c
        rw [if_pos e] at hQ
        exact hQ
      have alk : Alk H19 3 r (if hd st x = hd st y then .non else .ref pr) := by
        unfold JoinRes at jr
        by_cases e : hd st x = hd st y
        · rw [if_pos e] at jr ⊢
          exact .inl (.inl (.inl (.inr ⟨jr, rfl⟩)))
        · rw [if_neg e] at jr ⊢
          obtain ⟨t, rfl, ht⟩ := jr
          exact .inl (.inl (alkT ht (show TupN H19 pr [lo st (x, y), hi st (x, y)] from hpr19) (by show 2 ≤ 1000; decide)))
      refine ⟨_, _, rfl, alk, fun H20 k20 => ⟨true, rfl, ?_⟩⟩
      -- joins = joins + [(one, other)]
      obtain ⟨usj, hjl, hUj⟩ := q2.kp k20 (by simp)
      have luj := Paired.length hUj
      rw [List.length_reverse] at luj
      refine ⟨_, rfl, _, rfl, _, rfl, (by show 2 ≤ sizeLine; decide), fun u2 hu2 => ⟨by show 1 ≤ sizeLine; decide, fun e2 he2 => ⟨jl, e2, usj.map V.ref, [V.ref u2], rfl, rfl, ?_, upd_same, ?_, fun jl2 hjl2 => ?_⟩⟩⟩
      · exact (upd_ne (ne_of_none ((upd_ne (ne_of_none hjl hu2)).trans hjl) he2)).trans ((upd_ne (ne_of_none hjl hu2)).trans hjl)
      · rw [List.length_map, luj]
        exact Nat.le_trans (show _ ≤ 100 by simp; omega) (by decide)
      have kA := (k20.then (Kp.new (o := .tup [V.int (x : Int), V.int (y : Int)]) hu2))
      have kB := kA.then (Kp.new (o := .lst [V.ref u2]) he2)
      have kC := (Kp.new (o := .lst [V.ref u2]) he2).then (Kp.new (o := .lst (usj.map V.ref ++ [V.ref u2])) hjl2)
      have kD := kA.then kC
      have hu2' := kC.tup (upd_same : upd H20 u2 (.tup [V.int (x : Int), V.int (y : Int)]) u2 = _)
      have hUj' : Paired (P2At (upd (upd (upd H20 u2 (.tup [V.int (x : Int), V.int (y : Int)])) e2 (.lst [V.ref u2])) jl2 (.lst (usj.map V.ref ++ [V.ref u2])))) usj st.reverse := Paired.mapP hUj fun _ _ z => kC.tup ((Kp.new hu2).tup z)
      have J21 : JAt (upd (upd (upd H20 u2 (.tup [V.int (x : Int), V.int (y : Int)])) e2 (.lst [V.ref u2])) jl2 (.lst (usj.map V.ref ++ [V.ref u2]))) jl2 ((x, y) :: st) := ⟨usj ++ [u2], by rw [upd_same, List.map_append]; rfl, by rw [List.reverse_cons]; exact pairedSnoc hUj' hu2'⟩
      have nw2 : ∀ {z : Addr} {o : HO}, H19 z = some o → z ≠ jl2 := fun e => ne_of_none (kB.keep _ _ e (by simp)) hjl2
      generalize upd (upd (upd H20 u2 (.tup [V.int (x : Int), V.int (y : Int)])) e2 (.lst [V.ref u2])) jl2 (.lst (usj.map V.ref ++ [V.ref u2])) = H21 at kD J21 ⊢
      have hjl2M : jl2 ∉ [d, h, m, j, sl] := fun z => by
        obtain ⟨_, em, _⟩ := F19.ms
        obtain ⟨_, ej, _⟩ := F19.js
        simp only [List.mem_cons, List.not_mem_nil, or_false] at z
        rcases z with z | z | z | z | z
        · exact nw2 q1 z.symm
        · exact nw2 F19.hs z.symm
        · exact nw2 em z.symm
        · exact nw2 ej z.symm
        · exact nw2 q4 z.symm
      have L21 : LInv C H21 d p h m j sl jl2 ks6 n' ((x, y) :: st) (S ++ [(n, st)]) (us ++ [u]) := ⟨kD.keep _ _ q1 (by simp), F19.more kD, J21, kD.keep _ _ q4 (by simp), Paired.mapP q3 fun _ _ z => z.kp kD (by simp), q5, L.dh, L.dj, L.ds, L.hs, L.js, hjl2M, L14.pos⟩
      refine ⟨_, rfl, _, rfl, _, rfl, d, p, h, m, j, jl2, ks6, n', (x, y) :: st, rfl, L21.dr, L21.fo, L21.ja, L21.pos, L.dh, L.dj, fun z => hjl2M (by rw [← z]; simp), fun H22 ks7 k22 e22 _ => ⟨true, rfl, ?_⟩⟩
      exact ⟨jl2, ks7, n', (x, y) :: st, S ++ [(n, st)], us ++ [u], _, _, _, _, _, _, rfl, L21.draw k22 e22, by omega, by rw [List.length_cons, sti], by rw [List.length_append, Si]; rfl⟩
  · rintro σ H8 ⟨jl, ms, n, st, S, us, v5, v6, v7, v8, v9, v10, rfl, L, n8i, sti, Si⟩
    have hN : st.length = (1 + z).toNat := sti
    have hM : ∀ x ∈ [d, h, m, j, sl], H8 x ≠ none := L.notNone
    obtain ⟨dx8, hp8⟩ := L.fo.ob
    -- twin, whole = forest.copy(), _law_state(forest)
    refine ⟨_, rfl, p, dx8, _, rfl, hp8, nC, p, h, m, j, n, st, rfl, L.fo, fun H9 p2 h2 m2 j2 F2 k9 e1 e2 e3 => ?_⟩
    have L9 := L.more k9
    refine ⟨_, rfl, p, h, m, j, n, st, rfl, L9.fo, fun H10 vw k10 hstw => ⟨_, _, rfl, ?_⟩⟩
    have L10 := L9.more k10
    have Tw := hstw [d, h, m, j, sl] L9.notNone
    have F10 := F2.more k10
    have h2M : h2 ∉ [d, h, m, j, sl] := fun z => hM h2 z e1
    have m2M : m2 ∉ [d, h, m, j, sl] := fun z => hM m2 z e2
    have j2M : j2 ∉ [d, h, m, j, sl] := fun z => hM j2 z e3
    clear hstw F2
    -- state, before = states[_law_take(draws, len(states))]
    have lus : us.length = (1 + z).toNat := by rw [Paired.length L.sts]; exact Si
    refine ⟨_, rfl, _, rfl, _, rfl, sl, _, rfl, .inl (SqL.of L10.sls), d, _, ms, rfl, L10.dr, by rw [List.length_map, lus]; omega, fun zc ks2 zc0 zc1 _ => ?_⟩
    rw [List.length_map] at zc1
    have L11 := L10.draw (Kp.lst L10.dr) (upd_same : upd H10 d (.lst (ks2.map V.int)) d = _)
    have k11 : Kp H10 (upd H10 d (.lst (ks2.map V.int))) [d] := Kp.lst L10.dr
    have Tw := Tw.kp k11 (by simp)
    have F11 := F10.kp k11 (fun z => h2M (by rw [List.mem_singleton.mp z]; simp)) (fun z => m2M (by rw [List.mem_singleton.mp z]; simp)) (fun z => j2M (by rw [List.mem_singleton.mp z]; simp))
    generalize upd H10 d (.lst (ks2.map V.int)) = H11 at L11 Tw F11 k11 ⊢
    obtain ⟨c, rfl⟩ : ∃ c : Nat, zc = (c : Int) := ⟨zc.toNat, by omega⟩
    have hc : c < us.length := by omega
    obtain ⟨q, hq, hsat⟩ := pairedAt L11.sts (List.getElem?_eq_getElem hc)
    obtain ⟨n', st'⟩ := q
    obtain ⟨⟨kk, hkk⟩, nn', ok', pos'⟩ := L11.suf _ (List.mem_of_getElem? hq)
    have hkk : st' = st.drop kk := hkk
    have nn' : n' ≤ n := nn'
    have ok' : Ok n' st' := ok'
    have pos' : 0 < n' := pos'
    obtain ⟨v, lb, hu, hstv, Jb, lbM⟩ := hsat
    have hstv : StAt [d, h, m, j, sl] H11 v n' st' := hstv
    have Jb : JAt H11 lb st' := Jb
    have hst0 := hstv
    obtain ⟨s1, l1, l2, t, us3, rfl, a1, a2, a3, a4, a5, a6, a7⟩ := hstv
    have lst' : st'.length ≤ st.length := by rw [hkk, List.length_drop]; exact Nat.sub_le _ _
    have edrop : st.drop (st.length - st'.length) = st' := by
      rw [hkk, List.length_drop]
      by_cases q : kk ≤ st.length
      · rw [show st.length - (st.length - kk) = kk by omega]
      · rw [List.drop_eq_nil_of_le (by omega), List.drop_eq_nil_of_le (by omega)]
    refine ⟨sl, _, _, .ref us[c], rfl, rfl, SqL.of L11.sls, at_of (j := c) rfl (by rw [List.getElem?_map, List.getElem?_eq_getElem hc]; rfl), us[c], _, rfl, SqT.of hu, rfl, _, _, rfl, _, _, rfl, rfl, ?_⟩
    -- forest.back(len(state[1]), state[0])
    obtain ⟨dx11, hp11⟩ := L11.fo.ob
    have l3 : (us3.map V.ref).length = st'.length := by rw [List.length_map, Paired.length a3, List.length_reverse]
    refine ⟨_, rfl, p, dx11, _, rfl, hp11, nB, _, rfl, s1, _, 1, .ref l1, rfl, rfl, SqT.of a1, at_of (j := 1) rfl rfl, l1, _, rfl, .inl (SqL.of a2), _, rfl, s1, _, 0, _, rfl, rfl, SqT.of a1, at_of (j := 0) rfl rfl, ?_⟩
    rw [l3]
    refine ⟨p, h, m, j, n, st, st'.length, n', rfl, L11.fo, lst', nn', by rw [edrop]; exact ok', fun H12 F12 k12 => ?_⟩
    rw [edrop] at F12
    have dm11 : m ≠ d := L11.dm.1
    have d12 := k12.keep _ _ L11.dr (nm3 L.dh dm11.symm L.dj)
    have sub3 : ∀ x ∈ [h, m, j], x ∈ [d, h, m, j, sl] := by simp
    have F2b := F11.kp k12 (fun z => h2M (sub3 _ z)) (fun z => m2M (sub3 _ z)) (fun z => j2M (sub3 _ z))
    have Tw := Tw.kp k12 sub3
    have hst0 := hst0.kp k12 sub3
    have Jb := Jb.kp k12 (fun z => lbM (sub3 _ z))
    have Ja := L11.ja.kp k12 (fun z => L.jm (sub3 _ z))
    clear L9 L10 L11 F11 F10 a1 a2 a3 a4 a5 a6 a7
    -- if _law_state(forest) != state or ..
    refine ⟨_, rfl, p, h, m, j, n', st', rfl, F12, fun H13 v13 k13 hs13 => ?_⟩
    refine ⟨_, rfl, stD n' st', stD n' st', (hs13 [] (by simp)).dp, (hst0.kp k13 (by simp)).dp, shapedSt _ _, shapedSt _ _, _, rfl, ?_⟩
    rw [eqvSelf (shapedSt n' st')]
    refine ⟨_, rfl, _, rfl, _, rfl, d, p, h, m, j, lb, ks2, n', st', rfl, k13.keep _ _ d12 (by simp), F12.more k13, Jb.kp k13 (by simp), pos', L.dh, L.dj, fun z => lbM (by rw [← z]; simp), fun H14 ks3 k14 d14 _ => ⟨true, rfl, ?_⟩⟩
    have kd : Kp H12 H14 [d] := k13.pre k14 fun x hx => by rw [List.mem_singleton.mp hx]; exact .inl ⟨_, d12⟩
    have sub1 : ∀ x ∈ [d], x ∈ [d, h, m, j, sl] := by simp
    have F2c := F2b.kp kd (fun z => h2M (sub1 _ z)) (fun z => m2M (sub1 _ z)) (fun z => j2M (sub1 _ z))
    have Tw := Tw.kp kd sub1
    have Ja := Ja.kp kd (fun z => L.jm (sub1 _ z))
    have Jb := Jb.kp kd (fun z => lbM (sub1 _ z))
    have F14 := F12.kp kd (nm1 L.dh.symm) (nm1 dm11) (nm1 L.dj.symm)
    refine ⟨_, rfl, p2, h2, m2, j2, n, st, rfl, F2c, fun H15 v15 k15 hs15 => ?_⟩
    refine ⟨_, rfl, stD n st, stD n st, (hs15 [] (by simp)).dp, (Tw.kp k15 (by simp)).dp, shapedSt _ _, shapedSt _ _, _, rfl, ?_⟩
    rw [eqvSelf (shapedSt n st)]
    have F2d := F2c.more k15
    have Tw := Tw.kp k15 (by simp)
    have Ja := Ja.kp k15 (by simp)
    have F15 := F14.more k15
    have d15 := k15.keep _ _ d14 (by simp)
    obtain ⟨usb, hlb, hUb⟩ := Jb.kp k15 (by simp)
    obtain ⟨usj, hjl, hUj⟩ := id Ja
    have lb' : usb.length = st'.length := by rw [Paired.length hUb, List.length_reverse]
    have lj' : usj.length = st.length := by rw [Paired.length hUj, List.length_reverse]
    -- for one, other in joins[len(before):]
    refine ⟨_, rfl, _, rfl, lb, _, rfl, .inl (SqL.of hlb), _, rfl, jl, _, rfl, SqL.of hjl, fun ql hql => ?_⟩
    have ecut : cutV (usj.map V.ref) (some (((usb.map V.ref).length : Nat) : Int)) none = (usj.drop st'.length).map V.ref := by
      unfold cutV
      rw [HT.sIx_none, HT.sIx_nat, List.length_map, List.length_map, lb', Nat.min_eq_left (by omega), List.map_drop, List.take_of_length_le (by rw [List.length_drop, List.length_map]; omega)]
    rw [ecut]
    have kq15 := Kp.new (o := .lst ((usj.drop st'.length).map V.ref)) hql
    have hql16 : upd H15 ql (.lst ((usj.drop st'.length).map V.ref)) ql = some (.lst ((usj.drop st'.length).map V.ref)) := upd_same
    have qlM : ∀ x ∈ [h, m, j], ql ≠ x := fun x hx e => by
      rcases F15.kind x hx with ⟨_, q⟩ | ⟨_, q⟩ <;> rw [← e, hql] at q <;> cases q
    have F16 := F15.more kq15
    have F2e := F2d.more kq15
    have Tw := Tw.kp kq15 (by simp)
    have Ja := Ja.kp kq15 (by simp)
    have d16 := kq15.keep _ _ d15 (by simp)
    have hUj := Paired.mapP hUj fun _ _ z => show P2At _ _ _ from kq15.tup z
    generalize upd H15 ql (.lst ((usj.drop st'.length).map V.ref)) = H16 at kq15 hql16 F16 F2e Tw Ja d16 hUj ⊢
    have epre : pre st st'.length = st' := edrop
    have n60' := L.fo.sz
    have okn := L.fo.ok
    have qlM3 : ql ∉ [h, m, j] := fun z => qlM _ z rfl
    refine ⟨ql, rfl, ⟨_, SqL.of hql16⟩, for_list (K := K) (a := ql) (xs := (usj.drop st'.length).map V.ref)
      (fun k σ H' => ∃ (nk : Nat) (v5 v6 v7 v8 v9 v10 : Option V), σ = [some (.ref a), some (.ref d), some (.ref p), some (.ref jl), some (.ref sl), v5, v6, v7, v8, v9, v10, some (.ref p2), some vw, some (.ref s1), some (.ref lb), none, none] ∧ FAt C H' p h m j nk (pre st (st'.length + k)) ∧ nk ≤ n ∧ Kp H16 H' [h, m, j])
      ⟨n', v5, v6, v7, v8, v9, v10, rfl, by rw [Nat.add_zero, epre]; exact F16, nn', ⟨fun _ _ e _ => e, F16.kind⟩⟩ (fun k σ H' _ ⟨_, _, _, _, _, _, _, _, _, _, kp⟩ => SqL.of (kp.keep _ _ hql16 qlM3)) ?_ ?_⟩
    · rintro k x σ H17 hx ⟨nk, v5, v6, v7, v8, v9, v10, rfl, F17, nkn, k17⟩
      rw [List.getElem?_map, List.getElem?_drop] at hx
      cases eu : usj[st'.length + k]? with
      | none => rw [eu] at hx; cases hx
      | some u =>
      rw [eu] at hx
      cases hx
      obtain ⟨⟨x, y⟩, hjn, hu17⟩ := pairedAt hUj eu
      have hu17 : H16 u = some (.tup [.int (x : Int), .int (y : Int)]) := hu17
      have hxy := okn _ (List.mem_reverse.mp (List.mem_of_getElem? hjn))
      have hx : x < n := hxy.1
      have hy : y < n := hxy.2
      have hsucc := pre_succ hjn
      refine ⟨u, _, rfl, SqT.of (k17.tup hu17), rfl, _, _, rfl, _, _, rfl, rfl, ?_⟩
      -- while forest.many() <= max(one, other)
      refine ⟨fun i σ H' => ∃ nk : Nat, σ = [some (.ref a), some (.ref d), some (.ref p), some (.ref jl), some (.ref sl), v5, v6, some (.int (x : Int)), some (.int (y : Int)), v9, v10, some (.ref p2), some vw, some (.ref s1), some (.ref lb), none, none] ∧ FAt C H' p h m j nk (pre st (st'.length + k)) ∧ nk ≤ n ∧ Kp H16 H' [h, m, j] ∧ i = n - nk, ⟨n - nk, nk, rfl, F17, nkn, k17, rfl⟩, ?_⟩
      rintro i σ' H18 ⟨nk, rfl, F18, nkn, k18, rfl⟩
      obtain ⟨dx18, hp18⟩ := F18.ob
      refine ⟨_, rfl, p, dx18, _, rfl, hp18, nM, p, h, m, j, nk, _, rfl, F18, _, rfl, _, rfl, _, _, rfl, _, _, rfl, rfl, _, rfl, ite2 (fun le => ?_) (fun nle => ?_)⟩
      · have le := of_decide_eq_true le
        have lt : nk < n := by
          split at le <;> omega
        refine ⟨fun σ2 H19 => ∃ nk2 : Nat, σ2 = [some (.ref a), some (.ref d), some (.ref p), some (.ref jl), some (.ref sl), v5, v6, some (.int (x : Int)), some (.int (y : Int)), v9, v10, some (.ref p2), some vw, some (.ref s1), some (.ref lb), none, none] ∧ FAt C H19 p h m j nk2 (pre st (st'.length + k)) ∧ nk2 ≤ n ∧ Kp H16 H19 [h, m, j] ∧ nk2 = nk + 1, fun σ2 H19 ⟨nk2, h1, h2, h3, h4, h5⟩ => ⟨n - nk2, by omega, nk2, h1, h2, h3, h4, rfl⟩, ?_⟩
        refine ⟨_, rfl, p, dx18, _, rfl, hp18, nN, p, h, m, j, nk, _, rfl, F18, by omega, fun H19 F19 k19 => ⟨nk + 1, rfl, F19, lt, k18.trans k19 (by simp) (by simp) F16.kind, rfl⟩⟩
      · have nle : ¬ (nk : Int) ≤ (if (y : Int) > (x : Int) then (y : Int) else (x : Int)) := fun q => nle (decide_eq_true q)
        have hxk : x < nk := by split at nle <;> omega
        have hyk : y < nk := by split at nle <;> omega
        have lpre : (pre st (st'.length + k)).length < 1000 := by
          unfold pre
          rw [List.length_drop]
          omega
        refine ⟨_, rfl, p, dx18, _, rfl, hp18, nJ, _, rfl, _, rfl, (by show 2 ≤ sizeLine; decide), fun q2 hq2 => ?_⟩
        have kq := Kp.new (o := .tup [.str "said", .int 0]) hq2
        refine ⟨p, h, m, j, nk, _, _, _, q2, rfl, F18.more kq, upd_same, .inl ⟨_, rfl⟩, .inl ⟨_, rfl⟩, lpre, fun a' b' ha' hb' e1 e2 H20 r F20 k20 _ => ?_, fun z => ?_⟩
        · have e1 : x = a' := by have := V.int.inj e1; omega
          have e2 : y = b' := by have := V.int.inj e2; omega
          subst e1 e2
          rw [← hsucc] at F20
          exact ⟨nk, v5, v6, _, _, v9, v10, rfl, F20, nkn, k18.trans (kq.pre k20 F18.kind) (by simp) (by simp) F16.kind⟩
        · rcases z with z | z
          · rw [inR_k hxk] at z
            cases z
          · rw [inR_k hyk] at z
            cases z
    · rintro σ H17 ⟨nk, v5, v6, v7, v8, v9, v10, rfl, F17, nkn, k17⟩
      rw [List.length_map, List.length_drop, lj', show st'.length + (st.length - st'.length) = st.length by omega, pre_all] at F17
      -- while forest.many() < twin.many()
      refine ⟨fun i σ H' => ∃ nk : Nat, σ = [some (.ref a), some (.ref d), some (.ref p), some (.ref jl), some (.ref sl), v5, v6, v7, v8, v9, v10, some (.ref p2), some vw, some (.ref s1), some (.ref lb), none, none] ∧ FAt C H' p h m j nk st ∧ nk ≤ n ∧ Kp H16 H' [h, m, j] ∧ i = n - nk, ⟨n - nk, nk, rfl, F17, nkn, k17, rfl⟩, ?_⟩
      rintro i σ' H18 ⟨nk, rfl, F18, nkn, k18, rfl⟩
      have F2f := F2e.kp k18 (fun z => h2M (sub3 _ z)) (fun z => m2M (sub3 _ z)) (fun z => j2M (sub3 _ z))
      obtain ⟨dx18, hp18⟩ := F18.ob
      obtain ⟨dx2, hp2⟩ := F2f.ob
      refine ⟨_, rfl, p, dx18, _, rfl, hp18, nM, p, h, m, j, nk, st, rfl, F18, _, rfl, p2, dx2, _, rfl, hp2, nM, p2, h2, m2, j2, n, st, rfl, F2f, _, _, rfl, rfl, _, rfl, ite2 (fun lt => ?_) (fun nlt => ?_)⟩
      · have lt := of_decide_eq_true lt
        have lt : nk < n := by omega
        refine ⟨fun σ2 H19 => ∃ nk2 : Nat, σ2 = [some (.ref a), some (.ref d), some (.ref p), some (.ref jl), some (.ref sl), v5, v6, v7, v8, v9, v10, some (.ref p2), some vw, some (.ref s1), some (.ref lb), none, none] ∧ FAt C H19 p h m j nk2 st ∧ nk2 ≤ n ∧ Kp H16 H19 [h, m, j] ∧ nk2 = nk + 1, fun σ2 H19 ⟨nk2, h1, h2, h3, h4, h5⟩ => ⟨n - nk2, by omega, nk2, h1, h2, h3, h4, rfl⟩, ?_⟩
        exact ⟨_, rfl, p, dx18, _, rfl, hp18, nN, p, h, m, j, nk, st, rfl, F18, by omega, fun H19 F19 k19 => ⟨nk + 1, rfl, F19, lt, k18.trans k19 (by simp) (by simp) F16.kind, rfl⟩⟩
      have nlt : ¬ (nk : Int) < (n : Int) := fun q => nlt (decide_eq_true q)
      have enk : nk = n := by omega
      subst enk
      have Tw := Tw.kp k18 sub3
      have Ja := Ja.kp k18 (fun z => L.jm (sub3 _ z))
      have d18 := k18.keep _ _ d16 (nm3 L.dh dm11.symm L.dj)
      -- if _law_state(forest)[2:] != whole[2:] or ..
      refine ⟨_, rfl, p, h, m, j, nk, st, rfl, F18, fun H19 v19 k19 hs19 => ?_⟩
      obtain ⟨s9, m1, m3, t9, us9, rfl, b1, b2, b3, b4, b5, _, _⟩ := hs19 [] (by simp)
      obtain ⟨sw, w1, w2, tw, usw, rfl, c1, c2, c3, c4, c5, c6, c7⟩ := Tw.kp k19 (by simp)
      refine ⟨_, rfl, s9, _, rfl, SqT.of b1, (fun z => absurd z.1 (show ¬ HT.sIx 4 0 (some 2) = 0 by decide)), fun x1 hx1 => ?_⟩
      rw [show cutV [V.int (nk : Int), V.ref m1, V.ref m3, V.ref t9] (some 2) none = [V.ref m3, V.ref t9] from rfl]
      have kx1 := Kp.new (o := .tup [V.ref m3, V.ref t9]) hx1
      refine ⟨_, rfl, _, rfl, sw, _, rfl, SqT.of (kx1.tup c1), (fun z => absurd z.1 (show ¬ HT.sIx 4 0 (some 2) = 0 by decide)), fun x2 hx2 => ?_⟩
      rw [show cutV [V.int (nk : Int), V.ref w1, V.ref w2, V.ref tw] (some 2) none = [V.ref w2, V.ref tw] from rfl]
      have kx2 := Kp.new (o := .tup [V.ref w2, V.ref tw]) hx2
      have kx := kx1.then kx2
      have shp : SeqAt.shaped (.tuple [.list (natD (labels nk st)), .tuple (natD (heads nk st))]) = true := by
        unfold SeqAt.shaped
        show ((PyData.canLayAll0 (natD (labels nk st)) && (PyData.canLayAll0 (natD (heads nk st)) && true)) && decide (max (PyData.depthAll (natD (labels nk st)) + 1) (max (PyData.depthAll (natD (heads nk st)) + 1) 0) + 1 ≤ 64)) = true
        rw [lay_ints, lay_ints, deep_ints, deep_ints]
        rfl
      refine ⟨.tuple [.list (natD (labels nk st)), .tuple (natD (heads nk st))], .tuple [.list (natD (labels nk st)), .tuple (natD (heads nk st))], .tup (SqT.of (kx2.tup upd_same)) (.cons (.lst (SqL.of (kx.keep _ _ b4 (by simp))) (dpNats _)) (.cons (.tup (SqT.of (kx.tup b5)) (dpNats _)) .nil)), .tup (SqT.of upd_same) (.cons (.lst (SqL.of (kx.keep _ _ c4 (by simp))) (dpNats _)) (.cons (.tup (SqT.of (kx.tup c5)) (dpNats _)) .nil)), shp, shp, _, rfl, ?_⟩
      rw [eqvSelf shp]
      have k20 := k19.then kx
      have F20 := F18.more k20
      have F2g := F2f.more k20
      have Ja := Ja.kp k20 (by simp)
      have d20 := k20.keep _ _ d18 (by simp)
      generalize upd (upd H19 x1 (.tup [V.ref m3, V.ref t9])) x2 (.tup [V.ref w2, V.ref tw]) = H20 at k20 F20 F2g Ja d20 ⊢
      have djl' : d ≠ jl := fun z => L.jm (by rw [← z]; simp)
      have dh2 : d ≠ h2 := fun z => h2M (by rw [← z]; simp)
      have dj2 : d ≠ j2 := fun z => j2M (by rw [← z]; simp)
      refine ⟨_, rfl, _, rfl, _, rfl, d, p, h, m, j, jl, ks3, nk, st, rfl, d20, F20, Ja, L.pos, L.dh, L.dj, djl', fun H21 ks4 k21 d21 _ => ⟨true, rfl, ?_⟩⟩
      have F21 := F20.kp k21 (nm1 L.dh.symm) (nm1 dm11) (nm1 L.dj.symm)
      have F2h := F2g.kp k21 (fun z => h2M (sub1 _ z)) (fun z => m2M (sub1 _ z)) (fun z => j2M (sub1 _ z))
      have Ja := Ja.kp k21 (fun z => L.jm (sub1 _ z))
      refine ⟨_, rfl, _, rfl, _, rfl, d, p2, h2, m2, j2, jl, ks4, nk, st, rfl, d21, F2h, Ja, L.pos, dh2, dj2, djl', fun H22 ks5 k22 d22 _ => ⟨true, rfl, ?_⟩⟩
      have F22 := F21.kp k22 (nm1 L.dh.symm) (nm1 dm11) (nm1 L.dj.symm)
      -- bad
      have st1 : Kp H22 H22 [] := Kp.refl H22
      refine ⟨_, rfl, (by show 3 ≤ sizeLine; decide), fun t1 ht1 => ?_⟩
      have kn1 := Kp.new (o := .tup [.int 0, .int (-1), .int 0]) ht1
      have ut1 : BadAt (upd H22 t1 (.tup [.int 0, .int (-1), .int 0])) t1 (0, .int (-1), .int 0) := upd_same
      have FB1 := F22.more kn1
      generalize upd H22 t1 (.tup [.int 0, .int (-1), .int 0]) = B1 at kn1 FB1 ut1 ⊢
      obtain ⟨dz1, hz1⟩ := FB1.ob
      refine ⟨_, rfl, p, dz1, _, rfl, hz1, nM, p, h, m, j, nk, st, rfl, FB1, (by show 3 ≤ sizeLine; decide), fun t2 ht2 => ?_⟩
      have kn2 := Kp.new (o := .tup [.int 0, .int (nk : Int), .int 0]) ht2
      have ut2 : BadAt (upd B1 t2 (.tup [.int 0, .int (nk : Int), .int 0])) t2 (0, .int (nk : Int), .int 0) := upd_same
      have FB2 := FB1.more kn2
      have ut1 : BadAt _ t1 _ := kn2.tup ut1
      generalize upd B1 t2 (.tup [.int 0, .int (nk : Int), .int 0]) = B2 at kn2 FB2 ut1 ut2 ⊢
      refine ⟨(by show 3 ≤ sizeLine; decide), fun t3 ht3 => ?_⟩
      have kn3 := Kp.new (o := .tup [.int 0, .non, .int 0]) ht3
      have ut3 : BadAt (upd B2 t3 (.tup [.int 0, .non, .int 0])) t3 (0, .non, .int 0) := upd_same
      have FB3 := FB2.more kn3
      have ut1 : BadAt _ t1 _ := kn3.tup ut1
      have ut2 : BadAt _ t2 _ := kn3.tup ut2
      generalize upd B2 t3 (.tup [.int 0, .non, .int 0]) = B3 at kn3 FB3 ut1 ut2 ut3 ⊢
      refine ⟨(by show 3 ≤ sizeLine; decide), fun t4 ht4 => ?_⟩
      have kn4 := Kp.new (o := .tup [.int 0, .bl true, .int 0]) ht4
      have ut4 : BadAt (upd B3 t4 (.tup [.int 0, .bl true, .int 0])) t4 (0, .bl true, .int 0) := upd_same
      have FB4 := FB3.more kn4
      have ut1 : BadAt _ t1 _ := kn4.tup ut1
      have ut2 : BadAt _ t2 _ := kn4.tup ut2
      have ut3 : BadAt _ t3 _ := kn4.tup ut3
      generalize upd B3 t4 (.tup [.int 0, .bl true, .int 0]) = B4 at kn4 FB4 ut1 ut2 ut3 ut4 ⊢
      refine ⟨_, rfl, (by show 3 ≤ sizeLine; decide), fun t5 ht5 => ?_⟩
      have kn5 := Kp.new (o := .tup [.int 1, .int (-1), .int 0]) ht5
      have ut5 : BadAt (upd B4 t5 (.tup [.int 1, .int (-1), .int 0])) t5 (1, .int (-1), .int 0) := upd_same
      have FB5 := FB4.more kn5
      have ut1 : BadAt _ t1 _ := kn5.tup ut1
      have ut2 : BadAt _ t2 _ := kn5.tup ut2
      have ut3 : BadAt _ t3 _ := kn5.tup ut3
      have ut4 : BadAt _ t4 _ := kn5.tup ut4
      generalize upd B4 t5 (.tup [.int 1, .int (-1), .int 0]) = B5 at kn5 FB5 ut1 ut2 ut3 ut4 ut5 ⊢
      obtain ⟨dz5, hz5⟩ := FB5.ob
      refine ⟨_, rfl, p, dz5, _, rfl, hz5, nM, p, h, m, j, nk, st, rfl, FB5, (by show 3 ≤ sizeLine; decide), fun t6 ht6 => ?_⟩
      have kn6 := Kp.new (o := .tup [.int 2, .int 0, .int (nk : Int)]) ht6
      have ut6 : BadAt (upd B5 t6 (.tup [.int 2, .int 0, .int (nk : Int)])) t6 (2, .int 0, .int (nk : Int)) := upd_same
      have FB6 := FB5.more kn6
      have ut1 : BadAt _ t1 _ := kn6.tup ut1
      have ut2 : BadAt _ t2 _ := kn6.tup ut2
      have ut3 : BadAt _ t3 _ := kn6.tup ut3
      have ut4 : BadAt _ t4 _ := kn6.tup ut4
      have ut5 : BadAt _ t5 _ := kn6.tup ut5
      generalize upd B5 t6 (.tup [.int 2, .int 0, .int (nk : Int)]) = B6 at kn6 FB6 ut1 ut2 ut3 ut4 ut5 ut6 ⊢
      refine ⟨_, rfl, (by show 3 ≤ sizeLine; decide), fun t7 ht7 => ?_⟩
      have kn7 := Kp.new (o := .tup [.int 2, .int (-1), .int 0]) ht7
      have ut7 : BadAt (upd B6 t7 (.tup [.int 2, .int (-1), .int 0])) t7 (2, .int (-1), .int 0) := upd_same
      have FB7 := FB6.more kn7
      have ut1 : BadAt _ t1 _ := kn7.tup ut1
      have ut2 : BadAt _ t2 _ := kn7.tup ut2
      have ut3 : BadAt _ t3 _ := kn7.tup ut3
      have ut4 : BadAt _ t4 _ := kn7.tup ut4
      have ut5 : BadAt _ t5 _ := kn7.tup ut5
      have ut6 : BadAt _ t6 _ := kn7.tup ut6
      generalize upd B6 t7 (.tup [.int 2, .int (-1), .int 0]) = B7 at kn7 FB7 ut1 ut2 ut3 ut4 ut5 ut6 ut7 ⊢
      obtain ⟨dz7, hz7⟩ := FB7.ob
      refine ⟨_, rfl, p, dz7, _, rfl, hz7, nM, p, h, m, j, nk, st, rfl, FB7, (by show 3 ≤ sizeLine; decide), fun t8 ht8 => ?_⟩
      have kn8 := Kp.new (o := .tup [.int 3, .int 0, .int (nk : Int)]) ht8
      have ut8 : BadAt (upd B7 t8 (.tup [.int 3, .int 0, .int (nk : Int)])) t8 (3, .int 0, .int (nk : Int)) := upd_same
      have FB8 := FB7.more kn8
      have ut1 : BadAt _ t1 _ := kn8.tup ut1
      have ut2 : BadAt _ t2 _ := kn8.tup ut2
      have ut3 : BadAt _ t3 _ := kn8.tup ut3
      have ut4 : BadAt _ t4 _ := kn8.tup ut4
      have ut5 : BadAt _ t5 _ := kn8.tup ut5
      have ut6 : BadAt _ t6 _ := kn8.tup ut6
      have ut7 : BadAt _ t7 _ := kn8.tup ut7
      generalize upd B7 t8 (.tup [.int 3, .int 0, .int (nk : Int)]) = B8 at kn8 FB8 ut1 ut2 ut3 ut4 ut5 ut6 ut7 ut8 ⊢
      refine ⟨(by show 8 ≤ sizeLine; decide), fun bl hbl => ?_⟩
      have kbl := Kp.new (o := .lst [V.ref t1, V.ref t2, V.ref t3, V.ref t4, V.ref t5, V.ref t6, V.ref t7, V.ref t8]) hbl
      have ubl : upd B8 bl (.lst [V.ref t1, V.ref t2, V.ref t3, V.ref t4, V.ref t5, V.ref t6, V.ref t7, V.ref t8]) bl = some (.lst [V.ref t1, V.ref t2, V.ref t3, V.ref t4, V.ref t5, V.ref t6, V.ref t7, V.ref t8]) := upd_same
      have FB := FB8.more kbl
      have pb : Paired (BadAt (upd B8 bl (.lst [V.ref t1, V.ref t2, V.ref t3, V.ref t4, V.ref t5, V.ref t6, V.ref t7, V.ref t8]))) [t1, t2, t3, t4, t5, t6, t7, t8] (badL nk) := Paired.mapP (.cons ut1 (.cons ut2 (.cons ut3 (.cons ut4 (.cons ut5 (.cons ut6 (.cons ut7 (.cons ut8 .nil)))))))) fun _ _ z => kbl.tup z
      refine ⟨_, rfl, bl, rfl, ⟨_, SqL.of ubl⟩, fun D hD => ?_⟩
      generalize upd B8 bl (.lst [V.ref t1, V.ref t2, V.ref t3, V.ref t4, V.ref t5, V.ref t6, V.ref t7, V.ref t8]) = HB at ubl FB pb hD ⊢
      have sln : st.length < 1000 := by omega
      refine lc_list (K := K) (a := bl) (xs := [t1, t2, t3, t4, t5, t6, t7, t8].map V.ref) (fun i H' => Kp HB H' [] ∧ H' D = some (.lst (List.replicate i (V.str "none")))) ⟨Kp.new hD, upd_same⟩ (fun i H' _ ⟨k, _⟩ => SqL.of (k.keep _ _ ubl (by simp))) (fun i x H' hx ⟨kp, hD'⟩ => ?_) (fun HC ⟨kC, hDC⟩ => ?_)
      · have il : i < 8 := (List.getElem?_eq_some_iff.mp hx).1
        rw [List.getElem?_map] at hx
        cases eu : ([t1, t2, t3, t4, t5, t6, t7, t8] : List Addr)[i]? with
        | none => rw [eu] at hx; cases hx
        | some u =>
        rw [eu] at hx
        cases hx
        obtain ⟨⟨wh, v1, v2⟩, hbm, hub⟩ := pairedAt pb eu
        obtain ⟨o1, o2, o3⟩ := badOk nk st sln _ (List.mem_of_getElem? hbm)
        have hub : HB u = some (.tup [.int ((wh : Nat) : Int), v1, v2]) := hub
        refine ⟨u, _, rfl, SqT.of (kp.tup hub), rfl, _, _, rfl, _, _, rfl, _, _, rfl, rfl, rfl, ?_⟩
        refine ⟨_, rfl, _, rfl, _, rfl, _, rfl, p, h, m, j, nk, st, wh, v1, v2, rfl, FB.more kp, o1, o2, .inr ⟨o3, fun H'' k'' => ?_⟩⟩
        have hD2 := k''.keep _ _ hD' (by simp)
        refine ⟨_, hD2, ?_, (kp.then k'').fresh (Kp.lst hD2) fun x hx => by rw [List.mem_singleton.mp hx]; exact hD, ?_⟩
        · rw [List.length_replicate]
          exact Nat.lt_of_le_of_lt (show _ ≤ 8 by omega) (by decide)
        · rw [upd_same, List.replicate_succ']
      · have hDC : HC D = some (.lst (List.replicate 8 (V.str "none"))) := hDC
        refine ⟨(by show 1 ≤ sizeLine; decide), fun e1 he1 => ?_⟩
        have ke1 := Kp.new (o := .lst [V.str "none"]) he1
        refine ⟨e1, 8, _, rfl, rfl, upd_same, (by decide), (by decide), (by show 8 ≤ sizeLine; decide), fun e2 he2 => ?_⟩
        have ke2 := Kp.new (o := .lst (List.replicate (8 : Int).toNat [V.str "none"]).flatten) he2
        have dpn : DpAll K (upd (upd HC e1 (.lst [V.str "none"])) e2 (.lst (List.replicate (8 : Int).toNat [V.str "none"]).flatten)) [.str "none", .str "none", .str "none", .str "none", .str "none", .str "none", .str "none", .str "none"] [.str "none", .str "none", .str "none", .str "none", .str "none", .str "none", .str "none", .str "none"] :=
          .cons (.str _) (.cons (.str _) (.cons (.str _) (.cons (.str _) (.cons (.str _) (.cons (.str _) (.cons (.str _) (.cons (.str _) .nil)))))))
        have shn : SeqAt.shaped (.list [.str "none", .str "none", .str "none", .str "none", .str "none", .str "none", .str "none", .str "none"]) = true := by decide +kernel
        refine ⟨_, _, .lst (SqL.of ((ke1.then ke2).keep _ _ hDC (by simp))) dpn, .lst (SqL.of upd_same) dpn, shn, shn, ?_⟩
        rw [eqvSelf shn]
        exact go _
end
end K15

set_option Elab.async false
set_option maxRecDepth 100000
set_option maxHeartbeats 8000000
namespace K15
open PySem L2
theorem kit_self {K : PySem.W.Frag} {t : Value} : PySem.W.kitOne K t t = some true := by
  unfold PySem.W.kitOne
  rw [if_pos (beq_self_eq_true t)]
theorem kit_ne {K : PySem.W.Frag} {N S : Addr} (h2 : PySem.W.isClsIn K S = true) (h3 : PySem.W.typeIn K (.ref S) = some (.type "type")) (h4 : PySem.W.subIn K (.ref N) (.ref S) = some false) (h5 : PySem.W.subIn K (.ref N) (.ref N) = some true) : PySem.W.kitOne K (.ref N) (.ref S) = some false := by
  have ne : ¬ (Value.ref N == Value.ref S) = true := fun q => by
    have e : N = S := Value.ref.inj (beq_iff_eq.mp q)
    rw [← e, h5] at h4
    cases h4
  have h2' : (PySem.W.clsIn K S).isSome = true := h2
  have e2 : ((PySem.W.clsIn K S).isSome && PySem.W.typeIn K (.ref S) == some (.type "type")) = true := by rw [h2', h3] <;> rfl
  unfold PySem.W.kitOne
  rw [if_neg ne]
  show (if ((PySem.W.clsIn K S).isSome && PySem.W.typeIn K (.ref S) == some (.type "type")) = true then PySem.W.subIn K (.ref N) (.ref S) else none) = some false
  rw [if_pos e2]
  exact h4
/-! ### what the top has left, the head -/
theorem all_mk {l : PySem.W.OpenLaw} {w : World} {K : PySem.W.Frag} {h : Heap} {mg : Str → Option Value} {fa C fNu fI fMn fNw fFi fCl fMo fJo fBa fBe fWa fCo fD fT fA fW fTo fLa fSt fWr fLk fL : Addr} (X : K.In h) (G : h.Ns mainGlobals mg) (hfa : mg "law" = some (.ref fa))
    {odNu anNu odI anI odMn anMn odNw anNw odFi anFi odCl anCl odMo anMo odJo anJo odBa anBa odBe anBe odWa anWa odCo anCo odD anD odT anT odA anA odW anW odTo anTo odLa anLa odSt anSt odWr anWr odLk anLk odL anL : Option Addr} {slNu slI slMn slNw slFi slCl slMo slJo slBa slBe slWa slCo slD slT slA slW slTo slLa slSt slWr slLk slL : Array (Option Value)} {ocNu kVNu dcNu pmNu cdNu ctNu ocI kVI dcI pmI cdI ctI ocMn kVMn dcMn pmMn cdMn ctMn ocNw kVNw dcNw pmNw cdNw ctNw ocFi kVFi dcFi pmFi cdFi ctFi ocCl kVCl dcCl pmCl cdCl ctCl ocMo kVMo dcMo pmMo cdMo ctMo ocJo kVJo dcJo pmJo cdJo ctJo ocBa kVBa dcBa pmBa cdBa ctBa ocBe kVBe dcBe pmBe cdBe ctBe ocWa kVWa dcWa pmWa cdWa ctWa ocCo kVCo dcCo pmCo cdCo ctCo ocD kVD dcD pmD cdD ctD ocT kVT dcT pmT cdT ctT ocA kVA dcA pmA cdA ctA ocW kVW dcW pmW cdW ctW ocTo kVTo dcTo pmTo cdTo ctTo ocLa kVLa dcLa pmLa cdLa ctLa ocSt kVSt dcSt pmSt cdSt ctSt ocWr kVWr dcWr pmWr cdWr ctWr ocLk kVLk dcLk pmLk cdLk ctLk ocL kVL dcL pmL cdL ctL : Value} {Ee Eo Em En Er Et : Addr}
    (aC : PySem.W.nsIn K mainGlobals "Forest" = some (some (.ref C)))
    (aNu : PySem.W.nsIn K mainGlobals "is_number" = some (some (.ref fNu)))
    (lNu : K.lookup fNu = some ⟨ocNu, odNu, .func (PySem.W.fnOf "is_number" "is_number" (defArgs s_is_number) (defBody s_is_number) (defScope s_is_number) .none kVNu dcNu pmNu anNu cdNu ctNu), slNu⟩)
    (cNu : PySem.W.codeIn K cdNu "is_number" = true)
    (kNu : PySem.W.keepIn K (.ref fNu) = true)
    (aI : PySem.W.findIn K (.ref C) "__init__" = some (some (.ref fI)))
    (iI : PySem.W.isFn K (.ref fI) = true)
    (lI : K.lookup fI = some ⟨ocI, odI, .func (PySem.W.fnOf "__init__" "Forest.__init__" (defArgs s_Forest___init__) (defBody s_Forest___init__) (defScope s_Forest___init__) .none kVI dcI pmI anI cdI ctI), slI⟩)
    (cI : PySem.W.codeIn K cdI "Forest.__init__" = true)
    (kI : PySem.W.keepIn K (.ref fI) = true)
    (aMn : PySem.W.findIn K (.ref C) "many" = some (some (.ref fMn)))
    (iMn : PySem.W.isFn K (.ref fMn) = true)
    (lMn : K.lookup fMn = some ⟨ocMn, odMn, .func (PySem.W.fnOf "many" "Forest.many" (defArgs s_Forest_many) (defBody s_Forest_many) (defScope s_Forest_many) .none kVMn dcMn pmMn anMn cdMn ctMn), slMn⟩)
    (cMn : PySem.W.codeIn K cdMn "Forest.many" = true)
    (kMn : PySem.W.keepIn K (.ref fMn) = true)
    (aNw : PySem.W.findIn K (.ref C) "new" = some (some (.ref fNw)))
    (iNw : PySem.W.isFn K (.ref fNw) = true)
    (lNw : K.lookup fNw = some ⟨ocNw, odNw, .func (PySem.W.fnOf "new" "Forest.new" (defArgs s_Forest_new) (defBody s_Forest_new) (defScope s_Forest_new) .none kVNw dcNw pmNw anNw cdNw ctNw), slNw⟩)
    (cNw : PySem.W.codeIn K cdNw "Forest.new" = true)
    (kNw : PySem.W.keepIn K (.ref fNw) = true)
    (aFi : PySem.W.findIn K (.ref C) "find" = some (some (.ref fFi)))
    (iFi : PySem.W.isFn K (.ref fFi) = true)
    (lFi : K.lookup fFi = some ⟨ocFi, odFi, .func (PySem.W.fnOf "find" "Forest.find" (defArgs s_Forest_find) (defBody s_Forest_find) (defScope s_Forest_find) .none kVFi dcFi pmFi anFi cdFi ctFi), slFi⟩)
    (cFi : PySem.W.codeIn K cdFi "Forest.find" = true)
    (kFi : PySem.W.keepIn K (.ref fFi) = true)
    (aCl : PySem.W.findIn K (.ref C) "classes" = some (some (.ref fCl)))
    (iCl : PySem.W.isFn K (.ref fCl) = true)
    (lCl : K.lookup fCl = some ⟨ocCl, odCl, .func (PySem.W.fnOf "classes" "Forest.classes" (defArgs s_Forest_classes) (defBody s_Forest_classes) (defScope s_Forest_classes) .none kVCl dcCl pmCl anCl cdCl ctCl), slCl⟩)
    (cCl : PySem.W.codeIn K cdCl "Forest.classes" = true)
    (kCl : PySem.W.keepIn K (.ref fCl) = true)
    (aMo : PySem.W.findIn K (.ref C) "members_of" = some (some (.ref fMo)))
    (iMo : PySem.W.isFn K (.ref fMo) = true)
    (lMo : K.lookup fMo = some ⟨ocMo, odMo, .func (PySem.W.fnOf "members_of" "Forest.members_of" (defArgs s_Forest_members_of) (defBody s_Forest_members_of) (defScope s_Forest_members_of) .none kVMo dcMo pmMo anMo cdMo ctMo), slMo⟩)
    (cMo : PySem.W.codeIn K cdMo "Forest.members_of" = true)
    (kMo : PySem.W.keepIn K (.ref fMo) = true)
    (aJo : PySem.W.findIn K (.ref C) "join" = some (some (.ref fJo)))
    (iJo : PySem.W.isFn K (.ref fJo) = true)
    (lJo : K.lookup fJo = some ⟨ocJo, odJo, .func (PySem.W.fnOf "join" "Forest.join" (defArgs s_Forest_join) (defBody s_Forest_join) (defScope s_Forest_join) .none kVJo dcJo pmJo anJo cdJo ctJo), slJo⟩)
    (cJo : PySem.W.codeIn K cdJo "Forest.join" = true)
    (kJo : PySem.W.keepIn K (.ref fJo) = true)
    (aBa : PySem.W.findIn K (.ref C) "back" = some (some (.ref fBa)))
    (iBa : PySem.W.isFn K (.ref fBa) = true)
    (lBa : K.lookup fBa = some ⟨ocBa, odBa, .func (PySem.W.fnOf "back" "Forest.back" (defArgs s_Forest_back) (defBody s_Forest_back) (defScope s_Forest_back) .none kVBa dcBa pmBa anBa cdBa ctBa), slBa⟩)
    (cBa : PySem.W.codeIn K cdBa "Forest.back" = true)
    (kBa : PySem.W.keepIn K (.ref fBa) = true)
    (aBe : PySem.W.findIn K (.ref C) "beside" = some (some (.ref fBe)))
    (iBe : PySem.W.isFn K (.ref fBe) = true)
    (lBe : K.lookup fBe = some ⟨ocBe, odBe, .func (PySem.W.fnOf "beside" "Forest.beside" (defArgs s_Forest_beside) (defBody s_Forest_beside) (defScope s_Forest_beside) .none kVBe dcBe pmBe anBe cdBe ctBe), slBe⟩)
    (cBe : PySem.W.codeIn K cdBe "Forest.beside" = true)
    (kBe : PySem.W.keepIn K (.ref fBe) = true)
    (aWa : PySem.W.findIn K (.ref C) "way" = some (some (.ref fWa)))
    (iWa : PySem.W.isFn K (.ref fWa) = true)
    (lWa : K.lookup fWa = some ⟨ocWa, odWa, .func (PySem.W.fnOf "way" "Forest.way" (defArgs s_Forest_way) (defBody s_Forest_way) (defScope s_Forest_way) .none kVWa dcWa pmWa anWa cdWa ctWa), slWa⟩)
    (cWa : PySem.W.codeIn K cdWa "Forest.way" = true)
    (kWa : PySem.W.keepIn K (.ref fWa) = true)
    (aCo : PySem.W.findIn K (.ref C) "copy" = some (some (.ref fCo)))
    (iCo : PySem.W.isFn K (.ref fCo) = true)
    (lCo : K.lookup fCo = some ⟨ocCo, odCo, .func (PySem.W.fnOf "copy" "Forest.copy" (defArgs s_Forest_copy) (defBody s_Forest_copy) (defScope s_Forest_copy) .none kVCo dcCo pmCo anCo cdCo ctCo), slCo⟩)
    (cCo : PySem.W.codeIn K cdCo "Forest.copy" = true)
    (kCo : PySem.W.keepIn K (.ref fCo) = true)
    (aD : PySem.W.nsIn K mainGlobals "_law_draws" = some (some (.ref fD)))
    (lD : K.lookup fD = some ⟨ocD, odD, .func (PySem.W.fnOf "_law_draws" "_law_draws" (defArgs sDraws) (defBody sDraws) (defScope sDraws) .none kVD dcD pmD anD cdD ctD), slD⟩)
    (cD : PySem.W.codeIn K cdD "_law_draws" = true)
    (kD : PySem.W.keepIn K (.ref fD) = true)
    (aT : PySem.W.nsIn K mainGlobals "_law_take" = some (some (.ref fT)))
    (lT : K.lookup fT = some ⟨ocT, odT, .func (PySem.W.fnOf "_law_take" "_law_take" (defArgs sTake) (defBody sTake) (defScope sTake) .none kVT dcT pmT anT cdT ctT), slT⟩)
    (cT : PySem.W.codeIn K cdT "_law_take" = true)
    (kT : PySem.W.keepIn K (.ref fT) = true)
    (aA : PySem.W.nsIn K mainGlobals "_law_alike" = some (some (.ref fA)))
    (lA : K.lookup fA = some ⟨ocA, odA, .func (PySem.W.fnOf "_law_alike" "_law_alike" (defArgs s__law_alike) (defBody s__law_alike) (defScope s__law_alike) .none kVA dcA pmA anA cdA ctA), slA⟩)
    (cA : PySem.W.codeIn K cdA "_law_alike" = true)
    (kA : PySem.W.keepIn K (.ref fA) = true)
    (aW : PySem.W.nsIn K mainGlobals "_law_word" = some (some (.ref fW)))
    (lW : K.lookup fW = some ⟨ocW, odW, .func (PySem.W.fnOf "_law_word" "_law_word" (defArgs s__law_word) (defBody s__law_word) (defScope s__law_word) .none kVW dcW pmW anW cdW ctW), slW⟩)
    (cW : PySem.W.codeIn K cdW "_law_word" = true)
    (kW : PySem.W.keepIn K (.ref fW) = true)
    (aTo : PySem.W.nsIn K mainGlobals "_law_told" = some (some (.ref fTo)))
    (lTo : K.lookup fTo = some ⟨ocTo, odTo, .func (PySem.W.fnOf "_law_told" "_law_told" (defArgs s__law_told) (defBody s__law_told) (defScope s__law_told) .none kVTo dcTo pmTo anTo cdTo ctTo), slTo⟩)
    (cTo : PySem.W.codeIn K cdTo "_law_told" = true)
    (kTo : PySem.W.keepIn K (.ref fTo) = true)
    (aLa : PySem.W.nsIn K mainGlobals "_law_labels" = some (some (.ref fLa)))
    (lLa : K.lookup fLa = some ⟨ocLa, odLa, .func (PySem.W.fnOf "_law_labels" "_law_labels" (defArgs s__law_labels) (defBody s__law_labels) (defScope s__law_labels) .none kVLa dcLa pmLa anLa cdLa ctLa), slLa⟩)
    (cLa : PySem.W.codeIn K cdLa "_law_labels" = true)
    (kLa : PySem.W.keepIn K (.ref fLa) = true)
    (aSt : PySem.W.nsIn K mainGlobals "_law_state" = some (some (.ref fSt)))
    (lSt : K.lookup fSt = some ⟨ocSt, odSt, .func (PySem.W.fnOf "_law_state" "_law_state" (defArgs s__law_state) (defBody s__law_state) (defScope s__law_state) .none kVSt dcSt pmSt anSt cdSt ctSt), slSt⟩)
    (cSt : PySem.W.codeIn K cdSt "_law_state" = true)
    (kSt : PySem.W.keepIn K (.ref fSt) = true)
    (aWr : PySem.W.nsIn K mainGlobals "_law_way_right" = some (some (.ref fWr)))
    (lWr : K.lookup fWr = some ⟨ocWr, odWr, .func (PySem.W.fnOf "_law_way_right" "_law_way_right" (defArgs s__law_way_right) (defBody s__law_way_right) (defScope s__law_way_right) .none kVWr dcWr pmWr anWr cdWr ctWr), slWr⟩)
    (cWr : PySem.W.codeIn K cdWr "_law_way_right" = true)
    (kWr : PySem.W.keepIn K (.ref fWr) = true)
    (aLk : PySem.W.nsIn K mainGlobals "_law_looked" = some (some (.ref fLk)))
    (lLk : K.lookup fLk = some ⟨ocLk, odLk, .func (PySem.W.fnOf "_law_looked" "_law_looked" (defArgs s__law_looked) (defBody s__law_looked) (defScope s__law_looked) .none kVLk dcLk pmLk anLk cdLk ctLk), slLk⟩)
    (cLk : PySem.W.codeIn K cdLk "_law_looked" = true)
    (kLk : PySem.W.keepIn K (.ref fLk) = true)
    (aL : PySem.W.nsIn K mainGlobals "law" = some (some (.ref fL)))
    (lL : K.lookup fL = some ⟨ocL, odL, .func (PySem.W.fnOf "law" "law" (defArgs s_law) (defBody s_law) (defScope s_law) .none kVL dcL pmL anL cdL ctL), slL⟩)
    (cL : PySem.W.codeIn K cdL "law" = true)
    (kL : PySem.W.keepIn K (.ref fL) = true)
    (pgC : PySem.W.plainGet K C Str.empty = true)
    (hdC : PySem.W.hasDictIn K C = true)
    (poC : PySem.W.plainOver K C = true)
    (saC : PySem.W.findIn K (.ref C) "__setattr__" = some (some (.builtin "object.__setattr__")))
    (mkC : PySem.W.makesIn K C = true)
    (kcC : PySem.W.keepIn K (.ref C) = true)
    (nC0 : PySem.W.findIn K (.ref C) "heads" = some none)
    (nC1 : PySem.W.findIn K (.ref C) "members" = some none)
    (nC2 : PySem.W.findIn K (.ref C) "joins" = some none)
    (zabs : PySem.W.nsIn K mainGlobals "abs" = some none)
    (zint : PySem.W.nsIn K mainGlobals "int" = some none)
    (zrange : PySem.W.nsIn K mainGlobals "range" = some none)
    (zlen : PySem.W.nsIn K mainGlobals "len" = some none)
    (zlist : PySem.W.nsIn K mainGlobals "list" = some none)
    (zreversed : PySem.W.nsIn K mainGlobals "reversed" = some none)
    (zdict : PySem.W.nsIn K mainGlobals "dict" = some none)
    (zisinstance : PySem.W.nsIn K mainGlobals "isinstance" = some none)
    (zbool : PySem.W.nsIn K mainGlobals "bool" = some none)
    (zstr : PySem.W.nsIn K mainGlobals "str" = some none)
    (ztuple : PySem.W.nsIn K mainGlobals "tuple" = some none)
    (zsorted : PySem.W.nsIn K mainGlobals "sorted" = some none)
    (zmin : PySem.W.nsIn K mainGlobals "min" = some none)
    (zmax : PySem.W.nsIn K mainGlobals "max" = some none)
    (zenumerate : PySem.W.nsIn K mainGlobals "enumerate" = some none)
    (aEe : PySem.W.nsIn K mainGlobals "EqualError" = some (some (.ref Ee)))
    (aEo : PySem.W.nsIn K mainGlobals "OutOfRange" = some (some (.ref Eo)))
    (aEm : PySem.W.nsIn K mainGlobals "Malformed" = some (some (.ref Em)))
    (aEn : PySem.W.nsIn K mainGlobals "NotThere" = some (some (.ref En)))
    (aEr : PySem.W.nsIn K mainGlobals "Refused" = some (some (.ref Er)))
    (aEt : PySem.W.nsIn K mainGlobals "TooMuch" = some (some (.ref Et)))
    (kN : PySem.W.keepIn K (.ref En) = true)
    (qN : PySem.W.excIn K En [.type "ValueError", .type "Exception", .type "BaseException", .type "object"] "ValueError.__new__" = true)
    (bN : PySem.W.subIn K (.ref En) (.type "BaseException") = some true)
    (tN : PySem.W.typeIn K (.ref En) = some (.type "type"))
    (sN : PySem.W.subIn K (.ref En) (.ref En) = some true)
    (io : PySem.W.isClsIn K Eo = true)
    (to : PySem.W.typeIn K (.ref Eo) = some (.type "type"))
    (so : PySem.W.subIn K (.ref En) (.ref Eo) = some false)
    (im : PySem.W.isClsIn K Em = true)
    (tm : PySem.W.typeIn K (.ref Em) = some (.type "type"))
    (sm : PySem.W.subIn K (.ref En) (.ref Em) = some false)
    (ir : PySem.W.isClsIn K Er = true)
    (tr : PySem.W.typeIn K (.ref Er) = some (.type "type"))
    (sr : PySem.W.subIn K (.ref En) (.ref Er) = some false)
    (it : PySem.W.isClsIn K Et = true)
    (tt : PySem.W.typeIn K (.ref Et) = some (.type "type"))
    (st : PySem.W.subIn K (.ref En) (.ref Et) = some false)
    (x1 : PySem.W.findIn K (.ref En) "__getattribute__" = some (some (.builtin "BaseException.__getattribute__")))
    (x2 : PySem.W.findIn K (.ref En) "__getattr__" = some none)
    (x3 : PySem.W.hasDictIn K En = true)
    (x4 : PySem.W.findIn K (.ref En) "__class__" = some (some (.builtin "object.__class__")))
    (x5 : PySem.W.specialIn K (.builtin "object.__class__") "__get__" = some (some (.builtin "getset_descriptor.__get__")))
    (x6 : PySem.W.takesIn K (.builtin "object.__class__") = some true)
    (x7 : PySem.W.mroIn K En (.type "object") = some true)
    (bE : PySem.W.subIn K (.ref Ee) (.type "BaseException") = some true)
    (dE : PySem.W.hasDictIn K Ee = true)
    (tE : PySem.W.typeIn K (.ref Ee) = some (.type "type"))
    (sE : PySem.W.subIn K (.ref En) (.ref Ee) = some true)
    : ∃ fd : FuncData, (∀ (s : Shared) (v : Value), BindsTo s fd ⟨[v], []⟩ [("script", v)]) ∧ ∀ base : Heap, K.In base → base.Ns mainGlobals mg → FnOk l.prog w K mg base CX0 7 fa fd ["script"] (spLaw K) := by
  have e := hfa.symm.trans (PySem.W.mg_of X G aL)
  cases e
  have FNu := fun_mk (st := s_is_number) lNu cNu kNu
  have FI := fun_mk (st := s_Forest___init__) lI cI kI
  have FMn := fun_mk (st := s_Forest_many) lMn cMn kMn
  have FNw := fun_mk (st := s_Forest_new) lNw cNw kNw
  have FFi := fun_mk (st := s_Forest_find) lFi cFi kFi
  have FCl := fun_mk (st := s_Forest_classes) lCl cCl kCl
  have FMo := fun_mk (st := s_Forest_members_of) lMo cMo kMo
  have FJo := fun_mk (st := s_Forest_join) lJo cJo kJo
  have FBa := fun_mk (st := s_Forest_back) lBa cBa kBa
  have FBe := fun_mk (st := s_Forest_beside) lBe cBe kBe
  have FWa := fun_mk (st := s_Forest_way) lWa cWa kWa
  have FCo := fun_mk (st := s_Forest_copy) lCo cCo kCo
  have FD := fun_mk (st := sDraws) lD cD kD
  have FT := fun_mk (st := sTake) lT cT kT
  have FA := fun_mk (st := s__law_alike) lA cA kA
  have FW := fun_mk (st := s__law_word) lW cW kW
  have FTo := fun_mk (st := s__law_told) lTo cTo kTo
  have FLa := fun_mk (st := s__law_labels) lLa cLa kLa
  have FSt := fun_mk (st := s__law_state) lSt cSt kSt
  have FWr := fun_mk (st := s__law_way_right) lWr cWr kWr
  have FLk := fun_mk (st := s__law_looked) lLk cLk kLk
  have FL := fun_mk (st := s_law) lL cL kL
  have bNu := FNu.binds (ps := ["value", "least", "most"]) fun _ _ _ _ _ _ us hl => match us, hl with | [_, _, _], _ => rfl
  have bI := FI.binds (ps := ["self"]) fun _ _ _ _ _ _ us hl => match us, hl with | [_], _ => rfl
  have bMn := FMn.binds (ps := ["self"]) fun _ _ _ _ _ _ us hl => match us, hl with | [_], _ => rfl
  have bNw := FNw.binds (ps := ["self"]) fun _ _ _ _ _ _ us hl => match us, hl with | [_], _ => rfl
  have bFi := FFi.binds (ps := ["self", "number"]) fun _ _ _ _ _ _ us hl => match us, hl with | [_, _], _ => rfl
  have bCl := FCl.binds (ps := ["self"]) fun _ _ _ _ _ _ us hl => match us, hl with | [_], _ => rfl
  have bMo := FMo.binds (ps := ["self", "number"]) fun _ _ _ _ _ _ us hl => match us, hl with | [_, _], _ => rfl
  have bJo := FJo.binds (ps := ["self", "one", "other", "reason"]) fun _ _ _ _ _ _ us hl => match us, hl with | [_, _, _, _], _ => rfl
  have bBa := FBa.binds (ps := ["self", "joins", "numbers"]) fun _ _ _ _ _ _ us hl => match us, hl with | [_, _, _], _ => rfl
  have bBe := FBe.binds (ps := ["self"]) fun _ _ _ _ _ _ us hl => match us, hl with | [_], _ => rfl
  have bWa := FWa.binds (ps := ["self", "one", "other"]) fun _ _ _ _ _ _ us hl => match us, hl with | [_, _, _], _ => rfl
  have bCo := FCo.binds (ps := ["self"]) fun _ _ _ _ _ _ us hl => match us, hl with | [_], _ => rfl
  have bD := FD.binds (ps := ["script"]) fun _ _ _ _ _ _ us hl => match us, hl with | [_], _ => rfl
  have bT := FT.binds (ps := ["draws", "bound"]) fun _ _ _ _ _ _ us hl => match us, hl with | [_, _], _ => rfl
  have bA := FA.binds (ps := ["found", "due"]) fun _ _ _ _ _ _ us hl => match us, hl with | [_, _], _ => rfl
  have bW := FW.binds (ps := ["e"]) fun _ _ _ _ _ _ us hl => match us, hl with | [_], _ => rfl
  have bTo := FTo.binds (ps := ["forest", "which", "one", "other"]) fun _ _ _ _ _ _ us hl => match us, hl with | [_, _, _, _], _ => rfl
  have bLa := FLa.binds (ps := ["many", "joins"]) fun _ _ _ _ _ _ us hl => match us, hl with | [_, _], _ => rfl
  have bSt := FSt.binds (ps := ["forest"]) fun _ _ _ _ _ _ us hl => match us, hl with | [_], _ => rfl
  have bWr := FWr.binds (ps := ["forest", "one", "other"]) fun _ _ _ _ _ _ us hl => match us, hl with | [_, _, _], _ => rfl
  have bLk := FLk.binds (ps := ["draws", "forest", "joins"]) fun _ _ _ _ _ _ us hl => match us, hl with | [_, _, _], _ => rfl
  have z : ∀ {x : Str}, PySem.W.nsIn K mainGlobals x = some none → mg x = none := fun e => PySem.W.mg_none_of X G e
  have T : Txt K mg C En := ⟨⟨pgC, hdC, poC, saC⟩, nC0, nC1, nC2, PySem.W.mg_of X G aC, ⟨z zabs, z zint, z zrange, z zlen, z zlist, z zreversed, z zdict, z zisinstance, z zbool, z zstr, z ztuple, z zsorted, z zmin, z zmax, z zenumerate⟩, PySem.W.mg_of X G aEn, kN, qN, bN, tN⟩
  have R : Ers K mg Ee Eo Em En Er Et := ⟨PySem.W.mg_of X G aEe, PySem.W.mg_of X G aEo, PySem.W.mg_of X G aEm, PySem.W.mg_of X G aEn, PySem.W.mg_of X G aEr, PySem.W.mg_of X G aEt, kit_ne io to so sN, kit_ne im tm sm sN, kit_self, kit_ne ir tr sr sN, kit_ne it tt st sN, ⟨x1, x2, bN, x3, x4, x5, x6, x7⟩, PySem.W.exm_ref bE dE tE sE⟩
  refine ⟨PySem.W.fnOf "law" "law" (defArgs s_law) (defBody s_law) (defScope s_law) .none kVL dcL pmL anL cdL ctL, fun s v => .of_eq rfl, fun base0 _ _ => ?_⟩
  have GI := ok_init FI T (P := l.prog) (w := w) (base := base0)
  have GMn := ok_many FMn T (P := l.prog) (w := w) (base := base0)
  have GNw := ok_new FNw T (P := l.prog) (w := w) (base := base0)
  have GFi := ok_find FFi T FNu bNu (PySem.W.mg_of X G aNu) (P := l.prog) (w := w) (base := base0)
  have GCl := ok_classes FCl T (P := l.prog) (w := w) (base := base0)
  have GMo := ok_members FMo T GFi bFi ⟨aFi, iFi, kFi⟩
  have GJo := ok_join FJo T GFi bFi ⟨aFi, iFi, kFi⟩
  have GBa := ok_back FBa T (P := l.prog) (w := w) (base := base0)
  have GBe := ok_beside FBe T (P := l.prog) (w := w) (base := base0)
  have GWa := ok_way FWa T GFi bFi ⟨aFi, iFi, kFi⟩ GBe bBe ⟨aBe, iBe, kBe⟩
  have GCo := ok_copy FCo T ⟨mkC, aI, iI, kcC⟩ GI bI
  have GD := ok_draws FD T.B (P := l.prog) (w := w) (base := base0)
  have GT := ok_take FT T.B (P := l.prog) (w := w) (base := base0)
  have GA := ok_alike FA T bA (PySem.W.mg_of X G aA) 3 (P := l.prog) (w := w) (base := base0)
  have GW := ok_word FW T R (P := l.prog) (w := w) (base := base0)
  have GTo := ok_told FTo T R GFi bFi ⟨aFi, iFi, kFi⟩ GMo bMo ⟨aMo, iMo, kMo⟩ GJo bJo ⟨aJo, iJo, kJo⟩ GWa bWa ⟨aWa, iWa, kWa⟩ GW kW bW (PySem.W.mg_of X G aW)
  have GLa := ok_labels FLa T (P := l.prog) (w := w) (base := base0)
  have GSt := ok_state FSt T GFi bFi ⟨aFi, iFi, kFi⟩ GMn bMn ⟨aMn, iMn, kMn⟩ GCl bCl ⟨aCl, iCl, kCl⟩
  have GWr := ok_wr FWr T GWa bWa ⟨aWa, iWa, kWa⟩
  have GLk := ok_lk FLk T GMn bMn ⟨aMn, iMn, kMn⟩ GFi bFi ⟨aFi, iFi, kFi⟩ GMo bMo ⟨aMo, iMo, kMo⟩ GCl bCl ⟨aCl, iCl, kCl⟩ GLa FLa bLa (PySem.W.mg_of X G aLa) GA FA bA (PySem.W.mg_of X G aA) GT FT bT (PySem.W.mg_of X G aT) GWr FWr bWr (PySem.W.mg_of X G aWr) GTo FTo bTo (PySem.W.mg_of X G aTo)
  exact ok_law FL T ⟨mkC, aI, iI, kcC⟩ GI bI GMn bMn ⟨aMn, iMn, kMn⟩ GNw bNw ⟨aNw, iNw, kNw⟩ GJo bJo ⟨aJo, iJo, kJo⟩ GBa bBa ⟨aBa, iBa, kBa⟩ GCo bCo ⟨aCo, iCo, kCo⟩ GD FD bD (PySem.W.mg_of X G aD) GT FT bT (PySem.W.mg_of X G aT) GA FA bA (PySem.W.mg_of X G aA) GTo FTo bTo (PySem.W.mg_of X G aTo) GLa FLa bLa (PySem.W.mg_of X G aLa) GSt FSt bSt (PySem.W.mg_of X G aSt) GLk FLk bLk (PySem.W.mg_of X G aLk)
theorem walk {l : PySem.W.OpenLaw} {q : Program} {loose : List Str} {XP : (Str → Option Value) → Heap → Prop} {YP : World → Heap → Prop} {d : DefRec} {K : Params → PySem.W.Frag} (hn : l.most = some 63) (hdf : d.params.defaults = [])
    (hY : ∀ (w : World) (h : Heap), YP w h → (K w.params).In h)
    (F : ∀ (w : World) (mg : Str → Option Value) (fa : Addr) (h : Heap), (K w.params).In h → h.Ns mainGlobals mg → mg d.name = some (.ref fa) →
      ∃ fd : FuncData, (∀ (s : Shared) (u : Value), BindsTo s fd ⟨[u], []⟩ [("script", u)]) ∧ ∀ base : Heap, (K w.params).In base → base.Ns mainGlobals mg → FnOk l.prog w (K w.params) mg base CX0 7 fa fd ["script"] (spLaw (K w.params))) :
    PySem.W.WalkO q loose XP YP l.row.toRowW d [] (fun f vs => PySem.call f vs) :=
  L2.walk_of (n := 63) (k := 7) (x := "script") (CX := fun _ => CX0) (sp := fun w => spLaw (K w.params)) hn (by decide) hdf ⟨rfl, by decide, by decide⟩ hY F (fun _ _ a ns hl _ hS => ⟨a, ns, rfl, hS, hl, fun _ => rfl⟩) fun _ _ _ _ _ z => z
end K15
open PySem PySem.W PyProof.Rows
set_option maxRecDepth 100000 in
set_option maxHeartbeats 0 in
theorem PySem.Challenge.cw_equalsgrown_k15_whole_forests_of_joins_holds : PySem.Challenge.rw_equalsgrown_k15_whole_forests_of_joins.Holds := by
  w_on; o_law; k_head; (case hw => w_witness2)
  k_fill
  refine K15.walk (l := PySem.Challenge.rw_equalsgrown_k15_whole_forests_of_joins) rfl rfl (fun w h Y => PySem.W.kIn_of Y) ?F
  case F =>
    intro w mg fa h KX G hmg
    refine' K15.all_mk KX G hmg ?aC ?aNu ?lNu ?cNu ?kNu ?aI ?iI ?lI ?cI ?kI ?aMn ?iMn ?lMn ?cMn ?kMn ?aNw ?iNw ?lNw ?cNw ?kNw ?aFi ?iFi ?lFi ?cFi ?kFi ?aCl ?iCl ?lCl ?cCl ?kCl ?aMo ?iMo ?lMo ?cMo ?kMo ?aJo ?iJo ?lJo ?cJo ?kJo ?aBa ?iBa ?lBa ?cBa ?kBa ?aBe ?iBe ?lBe ?cBe ?kBe ?aWa ?iWa ?lWa ?cWa ?kWa ?aCo ?iCo ?lCo ?cCo ?kCo ?aD ?lD ?cD ?kD ?aT ?lT ?cT ?kT ?aA ?lA ?cA ?kA ?aW ?lW ?cW ?kW ?aTo ?lTo ?cTo ?kTo ?aLa ?lLa ?cLa ?kLa ?aSt ?lSt ?cSt ?kSt ?aWr ?lWr ?cWr ?kWr ?aLk ?lLk ?cLk ?kLk ?aL ?lL ?cL ?kL ?pgC ?hdC ?poC ?saC ?mkC ?kcC ?nC0 ?nC1 ?nC2 ?zabs ?zint ?zrange ?zlen ?zlist ?zreversed ?zdict ?zisinstance ?zbool ?zstr ?ztuple ?zsorted ?zmin ?zmax ?zenumerate ?aEe ?aEo ?aEm ?aEn ?aEr ?aEt ?kN ?qN ?bN ?tN ?sN ?io ?to ?so ?im ?tm ?sm ?ir ?tr ?sr ?it ?tt ?st ?x1 ?x2 ?x3 ?x4 ?x5 ?x6 ?x7 ?bE ?dE ?tE ?sE
    (case aC => k_is)
    (case aNu => k_is)
    (case lNu => k_is)
    (case cNu => k_is)
    (case kNu => k_is)
    (case aI => k_is)
    (case iI => k_is)
    (case lI => k_is)
    (case cI => k_is)
    (case kI => k_is)
    (case aMn => k_is)
    (case iMn => k_is)
    (case lMn => k_is)
    (case cMn => k_is)
    (case kMn => k_is)
    (case aNw => k_is)
    (case iNw => k_is)
    (case lNw => k_is)
    (case cNw => k_is)
    (case kNw => k_is)
    (case aFi => k_is)
    (case iFi => k_is)
    (case lFi => k_is)
    (case cFi => k_is)
    (case kFi => k_is)
    (case aCl => k_is)
    (case iCl => k_is)
    (case lCl => k_is)
    (case cCl => k_is)
    (case kCl => k_is)
    (case aMo => k_is)
    (case iMo => k_is)
    (case lMo => k_is)
    (case cMo => k_is)
    (case kMo => k_is)
    (case aJo => k_is)
    (case iJo => k_is)
    (case lJo => k_is)
    (case cJo => k_is)
    (case kJo => k_is)
    (case aBa => k_is)
    (case iBa => k_is)
    (case lBa => k_is)
    (case cBa => k_is)
    (case kBa => k_is)
    (case aBe => k_is)
    (case iBe => k_is)
    (case lBe => k_is)
    (case cBe => k_is)
    (case kBe => k_is)
    (case aWa => k_is)
    (case iWa => k_is)
    (case lWa => k_is)
    (case cWa => k_is)
    (case kWa => k_is)
    (case aCo => k_is)
    (case iCo => k_is)
    (case lCo => k_is)
    (case cCo => k_is)
    (case kCo => k_is)
    (case aD => k_is)
    (case lD => k_is)
    (case cD => k_is)
    (case kD => k_is)
    (case aT => k_is)
    (case lT => k_is)
    (case cT => k_is)
    (case kT => k_is)
    (case aA => k_is)
    (case lA => k_is)
    (case cA => k_is)
    (case kA => k_is)
    (case aW => k_is)
    (case lW => k_is)
    (case cW => k_is)
    (case kW => k_is)
    (case aTo => k_is)
    (case lTo => k_is)
    (case cTo => k_is)
    (case kTo => k_is)
    (case aLa => k_is)
    (case lLa => k_is)
    (case cLa => k_is)
    (case kLa => k_is)
    (case aSt => k_is)
    (case lSt => k_is)
    (case cSt => k_is)
    (case kSt => k_is)
    (case aWr => k_is)
    (case lWr => k_is)
    (case cWr => k_is)
    (case kWr => k_is)
    (case aLk => k_is)
    (case lLk => k_is)
    (case cLk => k_is)
    (case kLk => k_is)
    (case aL => k_is)
    (case lL => k_is)
    (case cL => k_is)
    (case kL => k_is)
    (case pgC => k_is)
    (case hdC => k_is)
    (case poC => k_is)
    (case saC => k_is)
    (case mkC => k_is)
    (case kcC => k_is)
    (case nC0 => k_is)
    (case nC1 => k_is)
    (case nC2 => k_is)
    (case zabs => k_is)
    (case zint => k_is)
    (case zrange => k_is)
    (case zlen => k_is)
    (case zlist => k_is)
    (case zreversed => k_is)
    (case zdict => k_is)
    (case zisinstance => k_is)
    (case zbool => k_is)
    (case zstr => k_is)
    (case ztuple => k_is)
    (case zsorted => k_is)
    (case zmin => k_is)
    (case zmax => k_is)
    (case zenumerate => k_is)
    (case aEe => k_is)
    (case aEo => k_is)
    (case aEm => k_is)
    (case aEn => k_is)
    (case aEr => k_is)
    (case aEt => k_is)
    (case kN => k_is)
    (case qN => k_exc)
    (case bN => k_is)
    (case tN => k_is)
    (case sN => first | rfl | k_is)
    (case io => k_is)
    (case to => k_is)
    (case so => k_is)
    (case im => k_is)
    (case tm => k_is)
    (case sm => k_is)
    (case ir => k_is)
    (case tr => k_is)
    (case sr => k_is)
    (case it => k_is)
    (case tt => k_is)
    (case st => k_is)
    (case x1 => k_is)
    (case x2 => k_is)
    (case x3 => k_is)
    (case x4 => k_is)
    (case x5 => k_is)
    (case x6 => k_is)
    (case x7 => k_is)
    (case bE => k_is)
    (case dE => k_is)
    (case tE => k_is)
    (case sE => k_is)
#print axioms PySem.Challenge.cw_equalsgrown_k15_whole_forests_of_joins_holds
