import PyProof.Rows.All
import Wide.All
import OpenK.AllK
import Wide.FinOn
import HandS.Base
import HandS.Call
import HandS.List
import HandS.Comp
import HandS.Ends
import HandS.Dict
import HandS.Iter
import HandS.Words
import HandS.WordsList
import HandS.More
import HandS.Rev
import HandS.DictEq
import HandS.DeepEq
import PyProof.NeKinds
import HandS.ForMost
import HandS.EndBits
import HandS.Evl
import PySem.Challenge.RW_equalsgrown_k16_whole_trails_of_tables
import HandS.Style
set_option Elab.async false
set_option maxRecDepth 100000
set_option maxHeartbeats 4000000
/-! list(reversed(xs)); xs != ys where both are equal -/
namespace GE
open PySem PySem.Spec PyProof.Rows L2
section
variable {prog : Program} {w : World} {A : Around} {E : Value → Shared → Prop} {s : Shared}

/-- the empty list at S takes all that the reversed iterator it gives -/
theorem fillRev {R : Result → Shared → Prop} {it l S : Addr} {items : Array Value} {res : Value} {c₀ : Nat} (hh : A.handled = none)
    (hit : s.heap.IsRevIter it l ((items.size : Int) - 1)) (hl : s.heap.IsList l items) (nli : l ≠ it) (hz : items.size ≤ sizeLine) (nSi : S ≠ it) (nSl : S ≠ l)
    (hS : s.heap.get? S = some { cls := .type "list", data := .seq #[] c₀ })
    (goal : ∀ h' tk acc c', (∀ b o, b ≠ S → b ≠ it → s.heap.get? b = some o → h'.get? b = some o) → h'.get? S = some { cls := .type "list", dict := none, data := .seq acc c', slots := #[] } →
      ItemsOf (fun i v => items[items.size - 1 - i]? = some v) acc items.size → R (.ok (.ret res)) { s with heap := h', toks := tk }) :
    wpAny (model prog w) A.in1 (Builtin.List.listExtendWith (.ref S) (.ref it) res)
      (fun fin s' => match fin with | .done f => R (.ok f) s' | .again c' => c'.quiet = true ∧ codeAny (model prog w) A c' R s') (fun e s' => R (.error e) s') s := by
  have walk := (Walks.listRev (prog := prog) (w := w) (A := A.in1) hh it l nli items).toS
  have ty : s.TypeIs (.ref it) "list_reverseiterator" := hit.typeIs
  have ne1 : Builtin.List.listSameRef (.ref S) (.ref it) = false := by simp [Builtin.List.listSameRef, nSi]
  have nin : S ∉ [it, l] := by
    intro q
    rcases List.mem_cons.mp q with q | q
    · exact nSi q
    · exact nSl (List.mem_singleton.mp q)
  unfold Builtin.List.listExtendWith
  refine wpAny_bind (wpAny_typeOf ty ?_)
  rw [if_neg (by rw [ne1]; decide)]
  refine wpAny_bind (wpAny_pyIter_revIter hit ?_)
  refine wpAny_bind (wpAny_holding ?_)
  unfold Builtin.List.listLengthHint
  refine wpAny_bind (wpAny_specialOf ty RT.nolen_lri ?_)
  show wpAny _ A.in1 (specialOf (Value.ref it) (Str.ofString "__length_hint__") >>= _) _ _ _
  refine wpAny_bind (wpAny_specialOf ty RT.hint_lri ?_)
  generalize hid : ("list_reverseiterator.__length_hint__" : String) = id0
  wp_delta
  rw [show splitId id0 = some ("list_reverseiterator", "__length_hint__") from by subst hid; decide +kernel]
  subst hid
  refine wpAny_bind (wpAny_isInstance (b := true) ty (by rw [isSubtype_type]; kernel_rfl) ?_)
  refine wpAny_pure ?_
  rw [if_neg (by decide)]
  have z0 : (items.size : Int) - 1 - ((0 : Nat) : Int) = (items.size : Int) - 1 := by omega
  refine wpAny_pure ⟨plainId_quiet F.plain_extend_loop _, codeAny_extend_loopS walk hz _ nin _ items.size 0 _ _ _ rfl (Nat.zero_le _) ⟨Nat.zero_le _, by rw [z0]; exact hit, hl⟩ hS (ItemsOf.nil _) fun s' acc' c' hm hS' hacc => ?_⟩
  rw [Moved.eq_with hm]
  refine goal s'.heap s'.toks acc' c' (fun b o hb hb2 e => hm.heap b o (fun mem => ?_) e) hS' hacc
  rcases List.mem_cons.mp mem with q | q
  · exact hb q
  · exact hb2 (List.mem_singleton.mp q)

/-- list(it) of such an iterator -/
theorem listOfRev {it l : Addr} {items : Array Value} {Q : Value → Shared → Prop} (hh : A.handled = none)
    (hit : s.heap.IsRevIter it l ((items.size : Int) - 1)) (hl : s.heap.IsList l items) (nli : l ≠ it) (hz : items.size ≤ sizeLine)
    (goal : ∀ h' tk acc c', (∀ b o, b ≠ it → s.heap.get? b = some o → h'.get? b = some o) → h'.get? s.heap.objs.size = some { cls := .type "list", dict := none, data := .seq acc c', slots := #[] } →
      ItemsOf (fun i v => items[items.size - 1 - i]? = some v) acc items.size → Q (.ref s.heap.objs.size) { s with heap := h', toks := tk }) :
    wpAny (model prog w) A (call (.type "list") [.ref it]) Q E s := by
  obtain ⟨oi, hoi, _⟩ := id hit
  obtain ⟨ol, hol, _⟩ := id hl
  have n1 : s.heap.objs.size ≠ it := Nat.ne_of_gt (Heap.lt_size hoi)
  have n2 : s.heap.objs.size ≠ l := Nat.ne_of_gt (Heap.lt_size hol)
  refine callType_codes (Q₁ := fun obj s₁ => obj = .ref s.heap.objs.size ∧ s₁ = { s with heap := s.heap.push { cls := .type "list", data := .seq #[] } }) F.called_list (F.typeCall_list_1 _) F.entry_list_init
    (code_list_new _ ⟨rfl, rfl⟩) fun obj s₁ made => ?_
  obtain ⟨rfl, rfl⟩ := made
  have hS : (s.heap.push { cls := .type "list", data := .seq #[] }).get? s.heap.objs.size = some { cls := .type "list", data := .seq #[] } := Heap.get?_push_size _ rfl
  refine ⟨⟨_, hS, rfl⟩, F.args_list_init_2 _ _, ?_⟩
  show wpAny _ _ (do let old ← Builtin.List.listItems (.ref s.heap.objs.size); Builtin.List.listUpdate (.ref s.heap.objs.size) (fun _ => #[]); letGo old.toList.reverse; Builtin.List.listExtendWith (.ref s.heap.objs.size) (.ref it) .none) _ _ _
  refine wpAny_bind ?_
  unfold Builtin.List.listItems
  refine wpAny_bind (wpAny_seqItems hS rfl (wpAny_pure ?_))
  refine wpAny_bind (wpAny_updateSeq hS rfl ?_)
  have hS2 := Heap.get?_update_self (Obj.mapSeq (fun _ => (#[] : Array Value))) hS rfl
  have other : ∀ b o, b ≠ s.heap.objs.size → s.heap.get? b = some o → ((s.heap.push { cls := .type "list", data := .seq #[] }).update s.heap.objs.size (Obj.mapSeq (fun _ => (#[] : Array Value)))).get? b = some o :=
    fun b o hb e => (Heap.get?_update_other _ _ (Ne.symm hb)).trans (Heap.get?_push_of_some _ e)
  refine wpAny_bind (wpAny_letGo ?_)
  refine fillRev (A := A.in1) hh (hit.at fun o e => other it o n1.symm e) (by obtain ⟨o, e, r⟩ := hl; exact ⟨o, other l o n2.symm e, r⟩) nli hz n1 n2 hS2 fun h' tk acc c' keep hnew hacc => ?_
  exact ⟨rfl, goal h' tk acc c' (fun b o hb e => keep b o (Nat.ne_of_lt (Heap.lt_size e)) hb (other b o (Nat.ne_of_lt (Heap.lt_size e)) e)) hnew hacc⟩
end

/-- list(reversed(e)), e a list: a new list -/
def tListRev (K : PySem.W.Frag) (te : TE) : TE := fun σ H Q => te σ H fun v H1 => ∃ (a : Addr) (xs : List V), v = .ref a ∧ SqL K H1 a xs ∧ ∀ q, H1 q = none → Q (.ref q) (upd H1 q (.lst xs.reverse))
section
variable {X : Cx}
theorem pe_listRev {e : Expr} {te : TE} {p p2 pos pos2 : Pos} (hc : X.calm = true) (hg : Gl X "list") (hm : X.mg "list" = none) (hg2 : Gl X "reversed") (hm2 : X.mg "reversed" = none) (he : PE X e te)
    (hs : starEach [e] X.env = (false, eval e X.env) :: starEach [] X.env := by rfl)
    (hs2 : starEach [.Call (.Name "reversed" p2) [e] [] pos2] X.env = (false, eval (.Call (.Name "reversed" p2) [e] [] pos2) X.env) :: starEach [] X.env := by rfl) :
    PE X (.Call (.Name "list" p) [.Call (.Name "reversed" p2) [e] [] pos2] [] pos) (tListRev X.K te) := by
  refine ⟨fun pins s σ H Q I h => ?_⟩
  refine Call_ (ld_blt I hg hm boot_list (PyProof.Rows.callWith_type1 (args_cons (Call_ (ld_blt I hg2 hm2 PyProof.Rows.boot_reversed (PyProof.Rows.callWith_type1 (args_cons (thn (he.run pins s σ H _ I h) fun u s1 got => args_nil ?_) hs) hs rfl))) hs2) hs2 rfl))
  obtain ⟨v, H1, I1, r1, a, xs, ev, hq, q⟩ := got
  subst ev
  obtain rfl : u = Value.ref a := r1
  obtain ⟨its, rv, pl, hz⟩ := I1.list hq
  have isl := pl.isList
  obtain ⟨ol, hol, _⟩ := id isl
  have len : its.toArray.size = xs.length := by rw [List.size_toArray, rv.length]
  refine call_reversed_list isl (args_nil ?_)
  have k0 : ∀ b o, s1.heap.get? b = some o → (s1.heap.push (revObj a ((its.toArray.size : Int) - 1))).get? b = some o := fun b o e => Heap.get?_push_of_some _ e
  have hne : a ≠ s1.heap.objs.size := Nat.ne_of_lt (Heap.lt_size hol)
  refine listOfRev (s := { s1 with heap := s1.heap.push (revObj a ((its.toArray.size : Int) - 1)) }) (I1.ok.hd hc) ⟨_, Heap.get?_push_size _ rfl, rfl, rfl⟩ (isl.push _) hne (by rw [len]; exact hz) fun h' tk acc c' keep hnew hacc => ?_
  have old : ∀ b o, s1.heap.get? b = some o → h'.get? b = some o := fun b o e => keep b o (Nat.ne_of_lt (Heap.lt_size e)) (k0 b o e)
  have le : s1.heap.objs.size ≤ (s1.heap.push (revObj a ((its.toArray.size : Int) - 1))).objs.size := by
    refine Nat.le_of_lt (Heap.lt_size (Heap.get?_push_size _ rfl) : s1.heap.objs.size < _)
  refine ⟨.ref (s1.heap.push (revObj a ((its.toArray.size : Int) - 1))).objs.size, _, I1.laid (t' := tk) (o := .lst xs.reverse) old le (show ObjOk X.prog X.w _ h' _ (.lst xs.reverse) from ⟨by rw [List.length_reverse]; exact hz, acc.toList, c', RT.vals_rev rv hacc, ?_⟩), rfl, q _ (I1.hok.fresh le)⟩
  rw [Array.toArray_toList]
  exact hnew
end
end GE

set_option Elab.async false
set_option maxRecDepth 100000
set_option maxHeartbeats 4000000
/-! xs != ys where both are equal -/
namespace GE
open PySem PySem.Spec PyProof.Rows L2 PySem.SeqAt
open AutoSeq1 (wpAny_loadPart')
open MeetsSeq MeetsSeq2 MeetsSeq3 SeqRoads2
section
variable {prog : Program} {w : World}
/-- the loop of list's != from the place i on, all items equal -/
theorem neLoop {l b : Addr} {xs ys : Array Value} {n m : Nat} {dl db : Option Addr} {sl sb : Array (Option Value)} (hsz : xs.size = ys.size) :
    ∀ (k i : Nat), xs.size - i = k → MeetsIn prog w (Builtin.«list.__eq__.loop» ⟨[.ref l, .ref b, rawInt i, rawInt 3], []⟩)
      (fun A R s => (s.heap.get? l = some { cls := .type "list", dict := dl, data := .seq xs n, slots := sl } ∧ s.heap.get? b = some { cls := .type "list", dict := db, data := .seq ys m, slots := sb }) ∧
        (∀ j (h1 : j < xs.size) (h2 : j < ys.size), EqP prog w A.in1 s xs[j] ys[j] true) ∧ R (.ok (.ret (.bool false))) s)
  | 0, i, hk => by
    intro A R s ⟨⟨hl, hb⟩, he, goal⟩
    obtain ⟨hp, g, d, tk, os⟩ := s
    have out1 : xs[((i : Nat) : Int).toNat]? = none := by simp; omega
    have out2 : ys[((i : Nat) : Int).toNat]? = none := by simp; omega
    wp_walk using wpAny_loadPart' hl, wpAny_loadPart' hb
    rw [out1, out2]
    wp_walk using wpAny_loadPart' hl, wpAny_loadPart' hb
    show R (.ok (.ret (.bool (xs.size != ys.size)))) _
    rw [hsz, bne_self_eq_false]
    exact goal
  | k + 1, i, hk => by
    intro A R s ⟨⟨hl, hb⟩, he, goal⟩
    obtain ⟨hp, g, d, tk, os⟩ := s
    have in1 : i < xs.size := by omega
    have in2 : i < ys.size := by omega
    have at1 : xs[((i : Nat) : Int).toNat]? = some xs[i] := by simp [in1]
    have at2 : ys[((i : Nat) : Int).toNat]? = some ys[i] := by simp [in2]
    have next : ((i : Int) + 1) = ((i + 1 : Nat) : Int) := rfl
    wp_walk using wpAny_loadPart' hl, wpAny_loadPart' hb
    rw [at1, at2]
    refine wpAny_bind (he i in1 in2 _ _ ?_)
    wp_walk
    rw [next]
    refine ⟨plainId_quiet plain_eq_loop _, codeAny_builtin entry_eq_loop ?_⟩
    rw [Around.under_plainId plain_eq_loop _]
    exact neLoop hsz k (i + 1) (by omega) A R _ ⟨⟨hl, hb⟩, he, goal⟩

theorem neLists {A : Around} {s : Shared} {l b : Addr} {xs ys : Array Value} (hl : s.heap.IsList l xs) (hb : s.heap.IsList b ys) (hsz : xs.size = ys.size) (hu : A.units < cLine)
    (he : ∀ j (h1 : j < xs.size) (h2 : j < ys.size), EqP prog w A.in1 s xs[j] ys[j] true) (E Q : Value → Shared → Prop) (goal : Q (.bool false) s) : wpAny (model prog w) A (richCompare .NotEq (.ref l) (.ref b)) Q E s := by
  obtain ⟨⟨c1, dl, da1, sl⟩, g1, e1, n, e2⟩ := id hl
  obtain ⟨⟨c2, db, da2, sb⟩, g2, e3, m, e4⟩ := id hb
  simp only at e1 e2 e3 e4
  subst e1 e2 e3 e4
  have whole : MeetsIn prog w (Builtin.«list.__ne__» ⟨[.ref l, .ref b], []⟩)
      (fun A R s => (s.heap.get? l = some { cls := .type "list", dict := dl, data := .seq xs n, slots := sl } ∧ s.heap.get? b = some { cls := .type "list", dict := db, data := .seq ys m, slots := sb }) ∧
        (∀ j (h1 : j < xs.size) (h2 : j < ys.size), EqP prog w A.in1 s xs[j] ys[j] true) ∧ R (.ok (.ret (.bool false))) s) := by
    intro A R s ⟨⟨hl, hb⟩, he, goal⟩
    obtain ⟨hp, g, d, tk, os⟩ := s
    have sub := AutoSeq1.sub_list_list
    have alike : ¬ (xs.size != ys.size) = true := by simp [hsz]
    wp_walk using wpAny_loadPart' hl, wpAny_loadPart' hb
    refine ⟨plainId_quiet plain_eq_loop _, codeAny_builtin entry_eq_loop ?_⟩
    rw [Around.under_plainId plain_eq_loop _]
    exact neLoop hsz _ 0 rfl A R _ ⟨⟨hl, hb⟩, he, goal⟩
  have t1 : s.TypeIs (.ref l) "list" := ⟨_, g1, rfl⟩
  have t2 : s.TypeIs (.ref b) "list" := ⟨_, g2, rfl⟩
  exact wpAny_richCompare_same_room (op := .NotEq) t1 t2 F.slot_list_ne (call_meetsIn F.slot_list_ne t1 F.entry_list_ne (F.args_list_ne_2 _ _) whole
    ⟨⟨g1, g2⟩, he, show Value.bool false ≠ Value.notImplemented ∧ Q (.bool false) s from ⟨(fun x => nomatch x), goal⟩⟩) hu
end
section
variable {X : Cx}
/-- xs != ys, two lists of items that are equal -/
def rNeV (K : PySem.W.Frag) : R2 := fun x y H Q => ∃ n a b xs ys, n ≤ 60 ∧ x = .ref a ∧ y = .ref b ∧ SqL K H a xs ∧ SqL K H b ys ∧ Paired (EqV K H n) xs ys ∧ Q (.bl false) H
theorem op_neV (hu : X.A.units + 64 < cLine) : OpR X (compareOp .NotEq) (rNeV X.K) := by
  intro pins s σ H x y v u Q I rx ry h
  obtain ⟨n, a, b, xs, ys, hn, rfl, rfl, ha, hb, hp, q⟩ := h
  cases (show v = Value.ref a from rx)
  cases (show u = Value.ref b from ry)
  obtain ⟨us, r1, p1, _⟩ := I.list ha
  obtain ⟨ws, r2, p2, _⟩ := I.list hb
  have hsz : us.toArray.size = ws.toArray.size := by
    rw [List.size_toArray, List.size_toArray, ← r1.length, ← r2.length]
    exact Paired.length hp
  refine neLists p1.isList p2.isList hsz (by omega) (fun j h1 h2 => ?_) _ _ ⟨.bl false, H, I, rfl, q⟩
  have k := items_run (eqV_run I n X.A.in1 (by show X.A.units + 1 + n < cLine; omega)) hp r1 r2 j (by simpa using h1) (by simpa using h2)
  simpa using k
end
end GE

set_option Elab.async false
set_option maxRecDepth 100000
set_option maxHeartbeats 4000000
namespace K16
open PySem L2
def top (i : Nat) : Stmt := PySem.Challenge.pw_equalsgrown_k16_whole_trails_of_tables.main.body.getD i (.Pass ⟨0, 0, 0, 0⟩)
abbrev sInit : Stmt := inClass (top 1) 0
abbrev sPut : Stmt := inClass (top 1) 1
abbrev sMark : Stmt := inClass (top 1) 2
abbrev sBack : Stmt := inClass (top 1) 3
abbrev sDraws : Stmt := top 3
abbrev sTake : Stmt := top 4
abbrev sLaw : Stmt := top 5

structure Bi (mg : Str → Option Value) : Prop where
  abs : mg "abs" = none
  int : mg "int" = none
  range : mg "range" = none
  len : mg "len" = none
  list : mg "list" = none
  rev : mg "reversed" = none
  dict : mg "dict" = none

/-- the draws: a new list of ints -/
def spDraws (K : PySem.W.Frag) : Sp := fun vs H Q _ => ∃ (a : Addr) (ns : List Int), vs = [.ref a] ∧ SqL K H a (ns.map V.int) ∧ ns.length ≤ 63 ∧
  ∀ H' p (ms : List Int), Same H H' → H p = none → H' p = some (.lst (ms.map V.int)) → ms.length ≤ 10000 → Q (.ref p) H'
/-- a draw: the last int of the list goes, a number below the bound comes -/
def spTake : Sp := fun vs H Q _ => ∃ (d : Addr) (b : Int) (ms : List Int), vs = [.ref d, .int b] ∧ H d = some (.lst (ms.map V.int)) ∧ 0 < b ∧
  ∀ (z : Int) (ks : List Int), 0 ≤ z → z < b → ks.length ≤ ms.length → Q (.int z) (upd H d (.lst (ks.map V.int)))
section
variable {P : Program} {w : World} {K : PySem.W.Frag} {mg : Str → Option Value} {base : Heap}

theorem snoc_int (ms : List Int) (z : Int) : ms.map V.int ++ [V.int z] = (ms ++ [z]).map V.int := by simp
theorem same_new {H H1 : Hp} {d : Addr} {o : HO} (s : Same H H1) (h : H d = none) : Same H (upd H1 d o) := fun b u e => by
  rw [upd_ne (ne_of_none e h)]
  exact s b u e
theorem at_int {ns : List Int} {i : Nat} {y : V} (h : (ns.map V.int)[i]? = some y) : ∃ z, y = V.int z ∧ ns[i]? = some z := by
  rw [List.getElem?_map] at h
  cases e : ns[i]? with
  | none => rw [e] at h; cases h
  | some z => rw [e] at h; exact ⟨z, (Option.some.inj h).symm, rfl⟩

theorem scDraws : FnScope ["script", "draws", "cell", "number", "first", "k", "seed"] ["script"] (defScope sDraws) := ⟨rfl, rfl, rfl, by decide +kernel, rfl, by decide +kernel, by decide +kernel⟩
theorem ok_draws {f : Addr} {fd : FuncData} (F : Fun K "_law_draws" "_law_draws" sDraws f fd) (B : Bi mg) : FnOk P w K mg base CX0 1 f fd ["script"] (spDraws K) := by
  refine F.ok scDraws (fun vs H Q E h => ?_) (fun cdv A outer s H vs Q E hr h => ?_)
  · obtain ⟨a, ns, rfl, _⟩ := h
    rfl
  obtain ⟨a, ns, rfl, hS, hlen, k⟩ := h
  have nd := scDraws.nd
  refine ⟨_, pss_cons (ps_set (i := 1) nd rfl (.inl rfl) (pe_lst pa_nil))
    (pss_cons (ps_for PassesOwn.never rfl (pi_list (pv 0)) (pg_name (i := 2) nd rfl (.inl rfl))
      (pss_cons (ps_set (i := 3) nd rfl (.inl rfl) (pe_callB call_abs (by rfl) B.abs (by decide +kernel) (pa_cons (pv 2) pa_nil)))
      (Evl.pss_cut (ps_if (pt_cmpR op_lt (pv 3) (pe_op op_pow pe_int pe_int) (nomark _))
        (pss_cons (ps_set (i := 4) nd rfl (.inl rfl) (pe_op op_mod (pe_callTy call_int1 (by rfl) B.int (by decide +kernel) (pa_cons (pe_op op_add (pe_op op_mul (pv 3) pe_int) pe_int) pa_nil)) pe_int))
        (pss_cons (ps_expr (pe_bm PySem.F.plainAttrs_list PySem.F.slot_list_append PySem.F.type_list_append mt_append (pv 1) (pa_cons
          (pe_op op_mod (pe_callTy call_int1 (by rfl) B.int (by decide +kernel) (pa_cons (pe_op op_add (pe_op op_mul (pv 4) pe_int) (pv 3)) pa_nil)) pe_int) pa_nil)))
        (pss_cons (ps_expr (pe_bm PySem.F.plainAttrs_list PySem.F.slot_list_append PySem.F.type_list_append mt_append (pv 1) (pa_cons
          (pe_op op_mod (pe_callTy call_int1 (by rfl) B.int (by decide +kernel) (pa_cons (pe_op op_add (pv 4) (pe_op op_fdiv (pv 3) pe_int)) pa_nil)) pe_int) pa_nil)))
        (pss_one (ps_set (i := 3) nd rfl (.inl rfl) pe_int))))) pss_nil)
      (pss_one (ps_for PassesOwn.never rfl (pi_range1 rfl B.range (pa_cons pe_int pa_nil)) (pg_name (i := 5) nd rfl (.inl rfl))
        (pss_one (ps_if (pt_cmpR op_gt (pv 3) pe_int (nomark _))
          (pss_cons (ps_expr (pe_bm PySem.F.plainAttrs_list PySem.F.slot_list_append PySem.F.type_list_append mt_append (pv 1) (pa_cons
            (pe_op op_mod (pe_callTy call_int1 (by rfl) B.int (by decide +kernel) (pa_cons (pv 3) pa_nil)) pe_int) pa_nil)))
          (pss_one (ps_set (i := 3) nd rfl (.inl rfl) (pe_op op_fdiv (pv 3) pe_int)))) pss_nil)))))))
    (pss_cons (ps_set (i := 6) nd rfl (.inl rfl) pe_int)
    (Evl.pss_cut (ps_if (pt_cmpR op_gt (pe_callB call_len_seq (by rfl) B.len PySem.boot_len (pa_cons (pv 0) pa_nil)) pe_int (nomark _))
      (pss_one (ps_set (i := 6) nd rfl (.inl rfl) (pe_op op_add pe_int (pe_callB call_abs (by rfl) B.abs (by decide +kernel) (pa_cons (pe_ix ix_list (pv 0) pe_int (fun _ _ => rfl)) pa_nil))))) pss_nil)
    (pss_cons (ps_for PassesOwn.never rfl (pi_range1 rfl B.range (pa_cons pe_int pa_nil)) (pg_name (i := 5) nd rfl (.inl rfl))
      (pss_cons (ps_set (i := 6) nd rfl (.inl rfl) (pe_op op_mod (pe_callTy call_int1 (by rfl) B.int (by decide +kernel) (pa_cons (pe_op op_add (pe_op op_mul (pv 6) pe_int) pe_int) pa_nil)) pe_int))
      (pss_one (ps_expr (pe_bm PySem.F.plainAttrs_list PySem.F.slot_list_append PySem.F.type_list_append mt_append (pv 1) (pa_cons (pe_op op_fdiv (pv 6) pe_int) pa_nil))))))
    (pss_one (ps_ret (GE.pe_listRev rfl (by rfl) B.list (by rfl) B.rev (pv 1)))))))), ?_⟩
  -- draws = []
  refine ⟨Nat.zero_le _, fun d hd => ?_⟩
  have nad : ∀ {H1 : Hp}, Same H H1 → SqL K H1 a (ns.map V.int) := fun s => s.seq hS
  have room : ∀ {n : Nat}, n ≤ 10000 → n < sizeLine := fun h => Nat.lt_of_le_of_lt h (by decide)
  -- for cell in script
  refine ⟨_, rfl, a, rfl, ⟨_, nad (same_new (Same.refl H) hd)⟩, for_list (K := K) (a := a) (xs := ns.map V.int)
    (fun i σ H' => ∃ (v2 v3 v4 v5 : Option V) (ms : List Int), σ = [some (.ref a), some (.ref d), v2, v3, v4, v5, none] ∧ Same H H' ∧ H' d = some (.lst (ms.map V.int)) ∧ ms.length ≤ 70 * i)
    ⟨none, none, none, none, [], rfl, same_new (Same.refl H) hd, upd_same, Nat.zero_le _⟩ (fun i σ H' _ ⟨_, _, _, _, _, _, s1, _⟩ => nad s1) ?_ ?_⟩
  · rintro i y σ H' hi ⟨v2, v3, v4, v5, ms, rfl, s1, h1, l1⟩
    have hi63 : i < 63 := by
      have := (List.getElem?_eq_some_iff.mp hi).1
      rw [List.length_map] at this
      omega
    obtain ⟨z, rfl, hz⟩ := at_int hi
    refine ⟨_, rfl, _, rfl, ?_⟩
    -- behind the if
    refine ⟨fun σ' H1 => ∃ (n : Int) (u4 : Option V) (ms1 : List Int), σ' = [some (.ref a), some (.ref d), some (.int z), some (.int n), u4, v5, none] ∧ Same H H1 ∧ H1 d = some (.lst (ms1.map V.int)) ∧ ms1.length ≤ 70 * i + 2, ?_, ?_⟩
    · refine ⟨_, rfl, _, _, rfl, rfl, ⟨by decide, by decide, by decide⟩, _, _, rfl, rfl, _, rfl, ?_⟩
      refine ite2 (fun lt => ?_) (fun _ => ?_)
      · have lt := of_decide_eq_true lt
        have nn : (0 : Int) ≤ (if z < 0 then -z else z) := by split <;> omega
        have e18 : (10 : Int) ^ (18 : Int).toNat = 1000000000000000000 := by decide
        rw [e18] at lt
        generalize (if z < 0 then -z else z) = n at lt nn ⊢
        refine ⟨_, rfl, _, _, rfl, rfl, .inl ⟨by omega, by omega⟩, _, _, rfl, rfl, .inl ⟨_, rfl, ?_⟩⟩
        refine ⟨_, _, rfl, rfl, (by show (0 : Int) < 2147483647; decide), ?_⟩
        have m0 := Int.emod_nonneg (n * 48271 + 11) (b := 2147483647) (by decide)
        have m1 := Int.emod_lt_of_pos (n * 48271 + 11) (b := 2147483647) (by decide)
        generalize (n * 48271 + 11) % 2147483647 = fi at m0 m1 ⊢
        -- draws.append
        refine ⟨_, rfl, .inl ⟨rfl, _, SqL.of h1⟩, _, rfl, _, _, rfl, rfl, .inl ⟨by omega, by omega⟩, _, rfl, _, _, rfl, rfl, .inl ⟨_, rfl, ?_⟩⟩
        refine ⟨_, _, rfl, rfl, (by show (0 : Int) < 2147483629; decide), d, _, _, rfl, rfl, h1, room (by rw [List.length_map]; omega), ?_⟩
        rw [snoc_int]
        refine ⟨_, rfl, .inl ⟨rfl, _, SqL.of upd_same⟩, _, rfl, _, rfl, _, _, rfl, rfl, ⟨by decide, by decide⟩, _, _, rfl, rfl, .inl ⟨_, rfl, ?_⟩⟩
        refine ⟨_, _, rfl, rfl, (by show (0 : Int) < 1000003; decide), d, _, _, rfl, rfl, upd_same, room (by simp; omega), ?_⟩
        rw [snoc_int, upd_upd]
        exact ⟨_, _, _, rfl, same_new s1 hd, upd_same, by simp; omega⟩
      · exact ⟨_, _, _, rfl, s1, h1, by omega⟩
    · rintro σ' H1 ⟨n, u4, ms1, rfl, s2, h2, l2⟩
      refine ⟨60, rfl, by decide, by decide, for_range (n := 60) (fun j σ2 H2 => ∃ (n : Int) (u4 u5 : Option V) (ms2 : List Int), σ2 = [some (.ref a), some (.ref d), some (.int z), some (.int n), u4, u5, none] ∧ Same H H2 ∧ H2 d = some (.lst (ms2.map V.int)) ∧ ms2.length ≤ 70 * i + 2 + j)
        ⟨_, _, _, _, rfl, s2, h2, l2⟩ ?_ ?_⟩
      · rintro j σ2 H2 hj ⟨n, u4, u5, ms2, rfl, s3, h3, l3⟩
        refine ⟨_, rfl, _, _, rfl, rfl, _, rfl, ite2 (fun _ => ?_) (fun _ => ?_)⟩
        · refine ⟨_, rfl, .inl ⟨rfl, _, SqL.of h3⟩, _, rfl, .inl ⟨_, rfl, _, _, rfl, rfl, (by show (0 : Int) < 997; decide), d, _, _, rfl, rfl, h3, room (by rw [List.length_map]; omega), ?_⟩⟩
          rw [snoc_int]
          refine ⟨_, rfl, _, _, rfl, rfl, ⟨by decide, by decide⟩, ?_⟩
          exact ⟨_, _, _, _, rfl, same_new s3 hd, upd_same, by simp; omega⟩
        · exact ⟨_, _, _, _, rfl, s3, h3, by omega⟩
      · rintro σ2 H2 ⟨n, u4, u5, ms2, rfl, s3, h3, l3⟩
        exact ⟨_, _, _, _, _, rfl, s3, h3, by omega⟩
  · rintro σ H1 ⟨v2, v3, v4, v5, ms, rfl, s1, h1, l1⟩
    rw [List.length_map] at l1
    refine ⟨fun σ' H2 => ∃ n : Int, σ' = [some (.ref a), some (.ref d), v2, v3, v4, v5, some (.int n)] ∧ H2 = H1, ?_, ?_⟩
    · refine ⟨_, rfl, a, _, rfl, .inl (nad s1), _, _, rfl, rfl, _, rfl, ite2 (fun pos => ?_) (fun _ => ⟨_, rfl, rfl⟩)⟩
      have pos := of_decide_eq_true pos
      cases ns with
      | nil => simp at pos
      | cons n0 r =>
        refine ⟨_, rfl, a, _, _, _, rfl, rfl, nad s1, at_of (j := 0) rfl rfl, _, rfl, _, _, rfl, rfl, _, rfl, rfl⟩
    · rintro σ' H2 ⟨n, rfl, rfl⟩
      refine ⟨900, rfl, by decide, by decide, for_range (n := 900) (fun j σ2 H3 => ∃ (n : Int) (u5 : Option V) (ms2 : List Int), σ2 = [some (.ref a), some (.ref d), v2, v3, v4, u5, some (.int n)] ∧ Same H H3 ∧ H3 d = some (.lst (ms2.map V.int)) ∧ ms2.length ≤ 70 * 63 + j)
        ⟨_, _, _, rfl, s1, h1, by omega⟩ ?_ ?_⟩
      · rintro j σ2 H3 hj ⟨n, u5, ms2, rfl, s3, h3, l3⟩
        refine ⟨_, rfl, _, _, rfl, rfl, .inr ⟨by decide, by decide⟩, _, _, rfl, rfl, .inl ⟨_, rfl, ?_⟩⟩
        refine ⟨_, _, rfl, rfl, (by show (0 : Int) < 2147483647; decide), ?_⟩
        refine ⟨_, rfl, .inl ⟨rfl, _, SqL.of h3⟩, _, rfl, _, _, rfl, rfl, ⟨by decide, by decide⟩, d, _, _, rfl, rfl, h3, room (by rw [List.length_map]; omega), ?_⟩
        rw [snoc_int]
        exact ⟨_, _, _, rfl, same_new s3 hd, upd_same, by simp; omega⟩
      · rintro σ2 H3 ⟨n, u5, ms2, rfl, s3, h3, l3⟩
        refine ⟨_, rfl, d, _, rfl, SqL.of h3, fun q hq => ?_⟩
        rw [← List.map_reverse]
        exact k _ q _ (same_new s3 (s3.free hq)) (s3.free hq) upd_same (by rw [List.length_reverse]; omega)
end
end K16

set_option Elab.async false
set_option maxRecDepth 100000
set_option maxHeartbeats 4000000
namespace K16
open PySem L2
/-! ### the mathematics: tables, rows, taking back -/
abbrev Tb := List (Key × V)
abbrev Row := Bool × Str × Option V
abbrev S2 := Bool → Tb
def undo1 (S : S2) (r : Row) : S2 := fun b => if b = r.1 then (match r.2.2 with | none => dropK (S b) (.inr r.2.1) | some v => putK (S b) (.inr r.2.1) v) else S b
def put1 (S : S2) (c : Bool) (k : Str) (v : V) : S2 := fun b => if b = c then putK (S b) (.inr k) v else S b
def unwind : S2 → List Row → Nat → S2
  | S, _, 0 => S
  | S, [], _ + 1 => S
  | S, r :: st, n + 1 => unwind (undo1 S r) st n
/-- a table as it may stand: keys once, ints -/
def Fine (t : Tb) : Prop := (t.map (·.1)).Nodup ∧ ∀ q ∈ t, ∃ i, q.2 = .int i
/-- tables S over the rows st, newest first -/
def Good : S2 → List Row → Prop
  | S, [] => ∀ b, S b = []
  | S, r :: st => (∀ b, Fine (S b) ∧ (S b).length ≤ st.length + 1) ∧ (r.2.2 = none → (valV (S r.1) (.inr r.2.1)).isSome = true) ∧ (∀ v, r.2.2 = some v → ∃ i, v = .int i) ∧ Good (undo1 S r) st
theorem Good.fine {S : S2} {st : List Row} (g : Good S st) (b : Bool) : Fine (S b) ∧ (S b).length ≤ st.length := by
  cases st with
  | nil =>
    have e : S b = [] := g b
    rw [e]
    exact ⟨⟨List.nodup_nil, fun q hq => nomatch hq⟩, Nat.zero_le _⟩
  | cons r st => exact g.1 b
theorem putK_has {t : Tb} {k : Key} {v : V} (h : (valV t k).isSome = true) : putK t k v = t.map fun kv => if kv.1 = k then (kv.1, v) else kv := by
  unfold putK
  rw [if_pos (by rw [valV_any]; exact h)]
theorem keys_put {t : Tb} {k : Key} {v : V} (h : (valV t k).isSome = true) : (putK t k v).map (·.1) = t.map (·.1) := by
  rw [putK_has h, List.map_map]
  apply List.map_congr_left
  intro q _
  show (if q.1 = k then (q.1, v) else q).1 = q.1
  split <;> rfl
theorem valV_mem {t : Tb} (hn : (t.map (·.1)).Nodup) : ∀ q ∈ t, valV t q.1 = some q.2 := by
  induction t with
  | nil => intro q hq; exact nomatch hq
  | cons p r ih =>
    intro q hq
    have hn : (p.1 :: r.map (·.1)).Nodup := hn
    obtain ⟨h1, h2⟩ := List.nodup_cons.mp hn
    rcases List.mem_cons.mp hq with e | hq
    · subst e
      exact valV_pos rfl
    · rw [valV_neg (fun e => h1 (by rw [e]; exact List.mem_map.mpr ⟨q, hq, rfl⟩))]
      exact ih h2 q hq
theorem back_old {t : Tb} {k : Key} {u v : V} (hn : (t.map (·.1)).Nodup) (h : valV t k = some u) : putK (putK t k v) k u = t := by
  have h1 : (valV t k).isSome = true := by rw [h]; rfl
  have h2 : (valV (putK t k v) k).isSome = true := by rw [valV_put, if_pos rfl]; rfl
  rw [putK_has h2, putK_has h1, List.map_map]
  have e : t = t.map id := (List.map_id t).symm
  conv => rhs; rw [e]
  apply List.map_congr_left
  intro q hq
  by_cases c : q.1 = k
  · have m := valV_mem hn q hq
    rw [c, h] at m
    have m := Option.some.inj m
    simp [c]
    exact Prod.ext c.symm m
  · simp [c]
theorem back_new {t : Tb} {k : Key} {v : V} (h : valV t k = none) : dropK (putK t k v) k = t := by
  rw [putK_new v h]
  unfold dropK
  rw [List.filter_append]
  have e : ([(k, v)] : Tb).filter (fun kv => decide (kv.1 ≠ k)) = [] := by simp
  rw [e, List.append_nil]
  exact dropK_no (valV_not h)
theorem fine_put {t : Tb} {k : Str} {i : Int} (h : Fine t) : Fine (putK t (.inr k) (.int i)) := by
  refine ⟨?_, fun q hq => ?_⟩
  · cases e : valV t (.inr k) with
    | none => exact nd_putK _ h.1 e
    | some u =>
      rw [keys_put (by rw [e]; rfl)]
      exact h.1
  · unfold putK at hq
    split at hq
    · obtain ⟨x, hx, e⟩ := List.mem_map.mp hq
      by_cases c : x.1 = Sum.inr k
      · rw [if_pos c] at e
        exact ⟨i, by rw [← e]⟩
      · rw [if_neg c] at e
        rw [← e]
        exact h.2 x hx
    · rcases List.mem_append.mp hq with m | m
      · exact h.2 q m
      · rw [List.mem_singleton.mp m]
        exact ⟨i, rfl⟩
theorem undo_put {S : S2} {c : Bool} {k : Str} {v : V} (h : Fine (S c)) : undo1 (put1 S c k v) (c, k, valV (S c) (.inr k)) = S := by
  funext b
  unfold undo1 put1
  by_cases e : b = c
  · subst e
    rw [if_pos rfl]
    show (match valV (S b) (.inr k) with | none => dropK (if b = b then putK (S b) (.inr k) v else S b) (.inr k) | some u => putK (if b = b then putK (S b) (.inr k) v else S b) (.inr k) u) = S b
    rw [if_pos rfl]
    cases q : valV (S b) (.inr k) with
    | none => exact back_new q
    | some u => exact back_old h.1 q
  · rw [if_neg (show ¬ b = (c, k, valV (S c) (.inr k)).1 from e), if_neg e]
theorem good_put {S : S2} {st : List Row} {c : Bool} {k : Str} {i : Int} (g : Good S st) : Good (put1 S c k (.int i)) ((c, k, valV (S c) (.inr k)) :: st) := by
  have f := g.fine
  refine ⟨fun b => ?_, fun e => ?_, fun v e => ?_, ?_⟩
  · obtain ⟨f1, f2⟩ := f b
    unfold put1
    by_cases e : b = c
    · rw [if_pos e]
      exact ⟨fine_put f1, Nat.le_trans (length_putK _ _ _) (by omega)⟩
    · rw [if_neg e]
      exact ⟨f1, by omega⟩
  · show (valV (put1 S c k (.int i) c) (.inr k)).isSome = true
    unfold put1
    rw [if_pos rfl, valV_put, if_pos rfl]
    rfl
  · have e : valV (S c) (.inr k) = some v := e
    unfold valV at e
    obtain ⟨q, hq, e2⟩ := Option.map_eq_some_iff.mp e
    obtain ⟨j, e3⟩ := (f c).1.2 q (List.mem_of_find?_eq_some hq)
    exact ⟨j, e2.symm.trans e3⟩
  · rw [undo_put (f c).1]
    exact g
theorem unwind_cons {S : S2} {st : List Row} {r : Row} {m : Nat} (h : m ≤ st.length) : unwind S (r :: st) (st.length + 1 - m) = unwind (undo1 S r) st (st.length - m) := by
  have e : st.length + 1 - m = (st.length - m) + 1 := by omega
  rw [e]
  rfl
theorem unwind_zero (S : S2) (st : List Row) : unwind S st 0 = S := by cases st <;> rfl
theorem good_unwind : ∀ (n : Nat) (S : S2) (st : List Row), n ≤ st.length → Good S st → Good (unwind S st n) (st.drop n)
  | 0, S, st, _, g => by rw [unwind_zero]; exact g
  | n + 1, S, [], h, _ => by simp at h
  | n + 1, S, r :: st, h, g => good_unwind n (undo1 S r) st (by simpa using h) g.2.2.2
theorem unwind_add : ∀ (n k : Nat) (S : S2) (st : List Row), n ≤ st.length → unwind (unwind S st n) (st.drop n) k = unwind S st (n + k)
  | 0, k, S, st, _ => by rw [Nat.zero_add, unwind_zero]; rfl
  | n + 1, k, S, [], h => by simp at h
  | n + 1, k, S, r :: st, h => by
    have e : n + 1 + k = (n + k) + 1 := by omega
    rw [e]
    exact unwind_add n k (undo1 S r) st (by simpa using h)

/-! ### the objects -/
def fl (r : Addr) : List (Str × V) := putF "rows" (.ref r) []
theorem fl_rows (r : Addr) : (fl r).lookup ("rows" : Str) = some (.ref r) := by
  unfold fl
  rw [lookup_putF, if_pos rfl]
theorem fl_no (r : Addr) {m : Str} (h : ¬ m = "rows") : (fl r).lookup m = none := by
  unfold fl
  rw [lookup_putF, if_neg h]
  rfl
def RowAt (ad : Bool → Addr) (H : Hp) (t : Addr) (row : Row) : Prop := H t = some (.tup [.ref (ad row.1), .str row.2.1, row.2.2.getD .non])
structure TrailAt (C : Addr) (H : Hp) (p r : Addr) (ad : Bool → Addr) (st : List Row) : Prop where
  ob : ∃ dx, H p = some (.ins C dx (fl r))
  rows : ∃ us : List Addr, H r = some (.lst (us.reverse.map V.ref)) ∧ Paired (RowAt ad H) us st
/-- all is kept but what stands at M: lists and dicts -/
structure Kp (H H' : Hp) (M : List Addr) : Prop where
  keep : ∀ c o, H c = some o → c ∉ M → H' c = some o
  kind : ∀ m ∈ M, (∃ xs, H m = some (.lst xs)) ∨ ∃ kvs, H m = some (.dK kvs)
theorem Kp.tup {H H' : Hp} {M : List Addr} (k : Kp H H' M) {t : Addr} {xs : List V} (h : H t = some (.tup xs)) : H' t = some (.tup xs) :=
  k.keep t _ h fun m => by
    rcases k.kind t m with ⟨ys, e⟩ | ⟨ys, e⟩ <;> rw [h] at e <;> cases e
theorem Kp.ins {H H' : Hp} {M : List Addr} (k : Kp H H' M) {t C dx : Addr} {fs : List (Str × V)} (h : H t = some (.ins C dx fs)) : H' t = some (.ins C dx fs) :=
  k.keep t _ h fun m => by
    rcases k.kind t m with ⟨ys, e⟩ | ⟨ys, e⟩ <;> rw [h] at e <;> cases e
theorem Kp.rows {H H' : Hp} {M : List Addr} (k : Kp H H' M) {ad : Bool → Addr} {us : List Addr} {st : List Row} (h : Paired (RowAt ad H) us st) : Paired (RowAt ad H') us st :=
  Paired.mapP h fun _ _ e => k.tup e
theorem Kp.trail {H H' : Hp} {M : List Addr} (k : Kp H H' M) {C p r : Addr} {ad : Bool → Addr} {st : List Row} (h : TrailAt C H p r ad st) (hr : r ∉ M) : TrailAt C H' p r ad st := by
  obtain ⟨⟨dx, h1⟩, us, h2, h3⟩ := h
  exact ⟨⟨dx, k.ins h1⟩, us, k.keep r _ h2 hr, k.rows h3⟩
theorem Kp.refl (H : Hp) : Kp H H [] := ⟨fun _ _ e _ => e, fun _ h => nomatch h⟩
theorem Kp.lst {H : Hp} {a : Addr} {xs : List V} {o : HO} (h : H a = some (.lst xs)) : Kp H (upd H a o) [a] :=
  ⟨fun c u e n => by rw [upd_ne (fun q => n (by rw [q]; exact List.mem_singleton.mpr rfl))]; exact e, fun m hm => .inl ⟨xs, by rw [List.mem_singleton.mp hm]; exact h⟩⟩
theorem Kp.dic {H : Hp} {a : Addr} {xs : Tb} {o : HO} (h : H a = some (.dK xs)) : Kp H (upd H a o) [a] :=
  ⟨fun c u e n => by rw [upd_ne (fun q => n (by rw [q]; exact List.mem_singleton.mpr rfl))]; exact e, fun m hm => .inr ⟨xs, by rw [List.mem_singleton.mp hm]; exact h⟩⟩
theorem Kp.new {H : Hp} {a : Addr} {o : HO} (h : H a = none) : Kp H (upd H a o) [] := ⟨fun c u e _ => by rw [upd_ne (ne_of_none e h)]; exact e, fun _ h => nomatch h⟩
theorem Kp.trans {H H1 H2 : Hp} {M N L : List Addr} (a : Kp H H1 M) (b : Kp H1 H2 N) (hM : ∀ x ∈ M, x ∈ L) (hN : ∀ x ∈ N, x ∈ L ∨ H x = none) (hL : ∀ m ∈ L, (∃ xs, H m = some (.lst xs)) ∨ ∃ kvs, H m = some (.dK kvs)) : Kp H H2 L :=
  ⟨fun c o e n => b.keep c o (a.keep c o e fun q => n (hM c q)) fun q => (hN c q).elim n fun z => (nomatch (z.symm.trans e)), hL⟩
theorem Kp.free {H H' : Hp} {M : List Addr} (k : Kp H H' M) {q : Addr} (h : H' q = none) (hm : q ∉ M) : H q = none := by
  cases e : H q with
  | none => rfl
  | some o => rw [k.keep q o e hm] at h; cases h

structure Txt (K : PySem.W.Frag) (mg : Str → Option Value) (C : Addr) : Prop where
  cl : Cls K C
  nR : NoAttr K C "rows"
  mgC : mg "Trail" = some (.ref C)
  bi : Bi mg
/-! ### the promises -/
def spInit (C : Addr) : Sp := fun vs H Q _ => ∃ (p dx : Addr), vs = [.ref p] ∧ H p = some (.ins C dx []) ∧ ∀ (r : Addr), H r = none → Q .non (upd (upd H r (.lst [])) p (.ins C dx (fl r)))
def spPut (C : Addr) : Sp := fun vs H Q _ => ∃ (p r : Addr) (ad : Bool → Addr) (st : List Row) (c : Bool) (k : Str) (n : Int) (t : Tb), vs = [.ref p, .ref (ad c), .str k, .int n] ∧ TrailAt C H p r ad st ∧ H (ad c) = some (.dK t) ∧ t.length ≤ 1000 ∧ st.length ≤ 1000 ∧
  ∀ H', TrailAt C H' p r ad ((c, k, valV t (.inr k)) :: st) → H' (ad c) = some (.dK (putK t (.inr k) (.int n))) → Kp H H' [r, ad c] → Q .non H'
def spMark (C : Addr) : Sp := fun vs H Q _ => ∃ (p r : Addr) (ad : Bool → Addr) (st : List Row), vs = [.ref p] ∧ TrailAt C H p r ad st ∧ Q (.int (st.length : Int)) H
def spBack (C : Addr) : Sp := fun vs H Q _ => ∃ (p r : Addr) (ad : Bool → Addr) (st : List Row) (m : Nat) (S : S2), vs = [.ref p, .int (m : Int)] ∧ TrailAt C H p r ad st ∧ (∀ b, H (ad b) = some (.dK (S b))) ∧ ad false ≠ ad true ∧ Good S st ∧ st.length ≤ 1000 ∧
  ∀ H', TrailAt C H' p r ad (st.drop (st.length - m)) → (∀ b, H' (ad b) = some (.dK (unwind S st (st.length - m) b))) → Kp H H' [r, ad false, ad true] → Q .non H'
section
variable {P : Program} {w : World} {K : PySem.W.Frag} {mg : Str → Option Value} {base : Heap}
theorem scTake : FnScope ["draws", "bound"] ["draws", "bound"] (defScope sTake) := ⟨rfl, rfl, rfl, by decide +kernel, rfl, by decide +kernel, by decide +kernel⟩
theorem ok_take {f : Addr} {fd : FuncData} (F : Fun K "_law_take" "_law_take" sTake f fd) (B : Bi mg) : FnOk P w K mg base CX0 1 f fd ["draws", "bound"] spTake := by
  refine F.ok scTake (fun vs H Q E h => ?_) (fun cdv A outer s H vs Q E hr h => ?_)
  · obtain ⟨d, b, ms, rfl, _⟩ := h
    rfl
  obtain ⟨d, b, ms, rfl, hd, hb, k⟩ := h
  refine ⟨_, pss_cons (ps_if (pt_cmpR op_eq (pe_callB call_len_seq (by rfl) B.len PySem.boot_len (pa_cons (pv 0) pa_nil)) pe_int (nomark _)) (pss_one (ps_ret pe_int)) pss_nil)
    (pss_one (ps_ret (pe_op op_mod (pe_callTy call_int1 (by rfl) B.int (by decide +kernel) (pa_cons (pe_bm0 PySem.F.plainAttrs_list PySem.F.slot_list_pop PySem.F.type_list_pop mt_pop (pv 0)) pa_nil)) (pv 1)))), ?_⟩
  refine ⟨_, rfl, d, _, rfl, .inl (SqL.of hd), rfl, _, rfl, ite2 (fun _ => ?_) (fun ne => ?_)⟩
  · have e : upd H d (.lst (ms.map V.int)) = H := by
      funext c
      by_cases q : c = d
      · rw [q, upd_same, hd]
      · rw [upd_ne q]
    have := k 0 ms (Int.le_refl _) hb (Nat.le_refl _)
    rw [e] at this
    exact this
  · have pos : 0 < ms.length := by
      rcases Nat.eq_zero_or_pos ms.length with z | z
      · exact absurd (decide_eq_true (by rw [List.length_map, z]; rfl)) ne
      · exact z
    have hl : ms[ms.length - 1]? = some (ms[ms.length - 1]'(by omega)) := List.getElem?_eq_getElem (by omega)
    refine ⟨_, rfl, .inl ⟨rfl, _, SqL.of hd⟩, d, _, .int (ms[ms.length - 1]'(by omega)), rfl, rfl, hd, ?_, .inl ⟨_, rfl, _, rfl, _, _, rfl, rfl, hb, ?_⟩⟩
    · rw [List.length_map, List.getElem?_map, hl]
      rfl
    · rw [← List.map_dropLast]
      exact k _ ms.dropLast (Int.emod_nonneg _ (by omega)) (Int.emod_lt_of_pos _ hb) (by rw [List.length_dropLast]; omega)
theorem scInit : FnScope ["self"] ["self"] (defScope sInit) := ⟨rfl, rfl, rfl, by decide +kernel, rfl, by decide +kernel, by decide +kernel⟩
theorem ok_init {f C : Addr} {fd : FuncData} (F : Fun K "__init__" "Trail.__init__" sInit f fd) (T : Txt K mg C) : FnOk P w K mg base CX0 1 f fd ["self"] (spInit C) := by
  refine F.ok scInit (fun vs H Q E h => ?_) (fun cdv A outer s H vs Q E hr h => ?_)
  · obtain ⟨p, dx, rfl, _⟩ := h
    rfl
  obtain ⟨p, dx, rfl, hp, k⟩ := h
  refine ⟨_, pss_one (ps_fld (pv 0) (pe_lst pa_nil) rfl), ?_⟩
  exact ⟨Nat.zero_le _, fun r hr => ⟨_, rfl, p, C, dx, [], rfl, (upd_ne (ne_of_none hp hr)).trans hp, T.cl, T.nR, (by show 0 < 1000; decide), k r hr⟩⟩
theorem scPut : FnScope ["self", "table", "key", "value"] ["self", "table", "key", "value"] (defScope sPut) := ⟨rfl, rfl, rfl, by decide +kernel, rfl, by decide +kernel, by decide +kernel⟩
theorem ok_put {f C : Addr} {fd : FuncData} (F : Fun K "put" "Trail.put" sPut f fd) (T : Txt K mg C) : FnOk P w K mg base CX0 1 f fd ["self", "table", "key", "value"] (spPut C) := by
  refine F.ok scPut (fun vs H Q E h => ?_) (fun cdv A outer s H vs Q E hr h => ?_)
  · obtain ⟨p, r, ad, st, c, k, n, t, rfl, _⟩ := h
    rfl
  obtain ⟨p, r, ad, st, c, k, n, t, rfl, R, ht, tl, sl, go⟩ := h
  have hu := hu_of hr
  refine ⟨_, pss_cons (ps_expr (pe_bm PySem.F.plainAttrs_list PySem.F.slot_list_append PySem.F.type_list_append mt_append (pe_fld (pv 0) rfl) (pa_cons
      (pe_tup (pa_cons (pv 1) (pa_cons (pv 2) (pa_cons (pe_dget1 hu (pv 1) (pv 2) ⟨rfl, rfl, rfl, rfl⟩) pa_nil)))) pa_nil)))
    (pss_one (ps_dput hu (pv 1) (pv 2) (pv 3) rfl)), ?_⟩
  obtain ⟨⟨dx, h1⟩, us, h2, h3⟩ := id R
  have ul : us.length = st.length := Paired.length h3
  refine ⟨_, rfl, p, C, dx, _, _, rfl, h1, T.cl, T.nR, fl_rows r, .inl ⟨rfl, _, SqL.of h2⟩, _, rfl, _, rfl, _, rfl, ad c, rfl, .inl ⟨_, Rd.of ht⟩, _, rfl, _, DGet.k (k := Sum.inr k) ht, ?_⟩
  refine ⟨(by show 3 ≤ sizeLine; decide), fun q hq => ?_⟩
  have nqr : r ≠ q := ne_of_none h2 hq
  refine ⟨r, _, _, rfl, rfl, (upd_ne nqr).trans h2, Nat.lt_of_le_of_lt (show _ ≤ 1000 by simp; omega) (by decide), ?_⟩
  have ne : ad c ≠ r := ne_of ht h2 (by intro z; cases z)
  have nq : ad c ≠ q := ne_of_none ht hq
  have ht' : upd (upd H q (.tup [V.ref (ad c), V.str k, (valV t (Sum.inr k)).getD V.non])) r (.lst (us.reverse.map V.ref ++ [V.ref q])) (ad c) = some (.dK t) := by rw [upd_ne ne, upd_ne nq]; exact ht
  refine ⟨_, rfl, _, rfl, _, rfl, ad c, _, rfl, DPut.k (k := Sum.inr k) ht' (Nat.lt_of_le_of_lt tl (by decide)), ?_⟩
  have kp1 : Kp H (upd H q (.tup [V.ref (ad c), V.str k, (valV t (Sum.inr k)).getD V.non])) [] := Kp.new hq
  have kp2 := Kp.lst (o := .lst (us.reverse.map V.ref ++ [V.ref q])) ((upd_ne (o := .tup [V.ref (ad c), V.str k, (valV t (Sum.inr k)).getD V.non]) nqr).trans h2)
  have kp3 := Kp.dic (o := .dK (putK t (Sum.inr k) (V.int n))) ht'
  have kind : ∀ m ∈ [r, ad c], (∃ xs, H m = some (.lst xs)) ∨ ∃ kvs, H m = some (.dK kvs) := by
    intro m hm
    rcases List.mem_cons.mp hm with e | hm
    · exact .inl ⟨_, by rw [e]; exact h2⟩
    · exact .inr ⟨_, by rw [List.mem_singleton.mp hm]; exact ht⟩
  have kp12 : Kp H _ [r, ad c] := kp1.trans kp2 (fun _ h => nomatch h) (fun x hx => .inl (by rw [List.mem_singleton.mp hx]; simp)) kind
  have kp : Kp H _ [r, ad c] := kp12.trans kp3 (fun _ h => h) (fun x hx => .inl (by rw [List.mem_singleton.mp hx]; simp)) kind
  refine go _ ⟨⟨dx, kp.ins h1⟩, q :: us, ?_, .cons ?_ (kp.rows h3)⟩ upd_same kp
  · rw [upd_ne ne.symm, upd_same, List.reverse_cons, List.map_append]
    rfl
  · show upd (upd (upd H q _) r _) (ad c) _ q = _
    rw [upd_ne nq.symm, upd_ne nqr.symm, upd_same]
theorem scMark : FnScope ["self"] ["self"] (defScope sMark) := ⟨rfl, rfl, rfl, by decide +kernel, rfl, by decide +kernel, by decide +kernel⟩
theorem ok_mark {f C : Addr} {fd : FuncData} (F : Fun K "mark" "Trail.mark" sMark f fd) (T : Txt K mg C) : FnOk P w K mg base CX0 1 f fd ["self"] (spMark C) := by
  refine F.ok scMark (fun vs H Q E h => ?_) (fun cdv A outer s H vs Q E hr h => ?_)
  · obtain ⟨p, r, ad, st, rfl, _⟩ := h
    rfl
  obtain ⟨p, r, ad, st, rfl, ⟨⟨dx, h1⟩, us, h2, h3⟩, go⟩ := h
  refine ⟨_, pss_one (ps_ret (pe_callB call_len_seq (by rfl) T.bi.len PySem.boot_len (pa_cons (pe_fld (pv 0) rfl) pa_nil))), ?_⟩
  refine ⟨_, rfl, p, C, dx, _, _, rfl, h1, T.cl, T.nR, fl_rows r, r, _, rfl, .inl (SqL.of h2), ?_⟩
  rw [List.length_map, List.length_reverse, Paired.length h3]
  exact go
theorem scBack : FnScope ["self", "mark", "table", "key", "value"] ["self", "mark"] (defScope sBack) := ⟨rfl, rfl, rfl, by decide +kernel, rfl, by decide +kernel, by decide +kernel⟩
theorem ok_back {f C : Addr} {fd : FuncData} (F : Fun K "back" "Trail.back" sBack f fd) (T : Txt K mg C) : FnOk P w K mg base CX0 1 f fd ["self", "mark"] (spBack C) := by
  refine F.ok scBack (fun vs H Q E h => ?_) (fun cdv A outer s H vs Q E hr h => ?_)
  · obtain ⟨p, r, ad, st, m, S, rfl, _⟩ := h
    rfl
  obtain ⟨p, r, ad, st, m, S, rfl, R, hS, nad, G, sl, go⟩ := h
  have hu := hu_of hr
  have nd := scBack.nd
  refine ⟨_, pss_one (ps_while PassesOwn.never (pt_cmpR op_gt (pe_callB call_len_seq (by rfl) T.bi.len PySem.boot_len (pa_cons (pe_fld (pv 0) rfl) pa_nil)) (pv 1) (nomark _))
    (pss_cons (ps_asg (pe_bm0 PySem.F.plainAttrs_list PySem.F.slot_list_pop PySem.F.type_list_pop mt_pop (pe_fld (pv 0) rfl))
      (pg_tup rfl (pgs_cons (pg_name (i := 2) nd rfl (.inl rfl)) (pgs_cons (pg_name (i := 3) nd rfl (.inl rfl)) (pgs_cons (pg_name (i := 4) nd rfl (.inl rfl)) pgs_nil)))))
    (pss_one (ps_if (pt_cmpR op_isN (pv 4) pe_non (nomark _))
      (pss_one (ps_expr (pe_dpop1 (pv 2) (pv 3) ⟨rfl, rfl, rfl, rfl⟩)))
      (pss_one (ps_dput hu (pv 2) (pv 3) (pv 4) rfl)))))), ?_⟩
  have kind : ∀ x ∈ [r, ad false, ad true], (∃ xs, H x = some (.lst xs)) ∨ ∃ kvs, H x = some (.dK kvs) := by
    obtain ⟨_, us, h2, _⟩ := R
    intro x hx
    rcases List.mem_cons.mp hx with e | hx
    · exact .inl ⟨_, by rw [e]; exact h2⟩
    rcases List.mem_cons.mp hx with e | hx
    · exact .inr ⟨_, by rw [e]; exact hS false⟩
    · exact .inr ⟨_, by rw [List.mem_singleton.mp hx]; exact hS true⟩
  refine ⟨fun j σ' H' => ∃ (S1 : S2) (st1 : List Row) (v2 v3 v4 : Option V), σ' = [some (.ref p), some (.int (m : Int)), v2, v3, v4] ∧ st1.length = j ∧ TrailAt C H' p r ad st1 ∧ (∀ b, H' (ad b) = some (.dK (S1 b))) ∧ Good S1 st1 ∧ st1.length ≤ 1000 ∧
    Kp H H' [r, ad false, ad true] ∧ unwind S1 st1 (j - m) = unwind S st (st.length - m) ∧ st1.drop (j - m) = st.drop (st.length - m), ⟨st.length, S, st, none, none, none, rfl, rfl, R, hS, G, sl, ⟨fun c o e _ => e, kind⟩, rfl, rfl⟩, ?_⟩
  rintro j σ' H1 ⟨S1, st1, v2, v3, v4, rfl, ej, ⟨⟨dx, h1⟩, us, h2, h3⟩, hS1, G1, sl1, kp, eu, ed⟩
  have ul : us.length = st1.length := Paired.length h3
  refine ⟨_, rfl, p, C, dx, _, _, rfl, h1, T.cl, T.nR, fl_rows r, r, _, rfl, .inl (SqL.of h2), _, rfl, _, _, rfl, rfl, _, rfl, ?_⟩
  rw [List.length_map, List.length_reverse, ul, ej]
  refine ite2 (fun lt => ?_) (fun ge => ?_)
  · have lt := of_decide_eq_true lt
    cases st1 with
    | nil =>
      have : j = 0 := ej.symm
      omega
    | cons row st2 =>
      cases h3 with
      | @cons u _ us2 _ hrow h3 =>
      have ej : st2.length + 1 = j := ej
      refine ⟨fun σ2 H2 => ∃ (S1 : S2) (st1 : List Row) (v2 v3 v4 : Option V), σ2 = [some (.ref p), some (.int (m : Int)), v2, v3, v4] ∧ st1.length = st2.length ∧ TrailAt C H2 p r ad st1 ∧ (∀ b, H2 (ad b) = some (.dK (S1 b))) ∧ Good S1 st1 ∧ st1.length ≤ 1000 ∧
        Kp H H2 [r, ad false, ad true] ∧ unwind S1 st1 (st2.length - m) = unwind S st (st.length - m) ∧ st1.drop (st2.length - m) = st.drop (st.length - m), fun σ2 H2 hN => ⟨st2.length, by omega, hN⟩, ?_⟩
      have h2' : H1 r = some (.lst (us2.reverse.map V.ref ++ [V.ref u])) := by
        rw [h2, List.reverse_cons, List.map_append]
        rfl
      refine ⟨_, rfl, p, C, dx, _, _, rfl, h1, T.cl, T.nR, fl_rows r, .inl ⟨rfl, _, SqL.of h2'⟩, r, _, V.ref u, rfl, rfl, h2', by simp, ?_⟩
      rw [List.dropLast_concat]
      have kl : Kp H1 (upd H1 r (.lst (us2.reverse.map V.ref))) [r] := Kp.lst h2'
      have hrow' := kl.tup hrow
      refine ⟨u, _, rfl, SqT.of hrow', rfl, _, _, rfl, _, _, rfl, _, _, rfl, rfl, ?_⟩
      obtain ⟨c, key, ov⟩ := row
      obtain ⟨g1, g2, g3, g4⟩ := G1
      have nrd : ∀ b, ad b ≠ r := fun b => ne_of (hS1 b) h2' (by intro z; cases z)
      have hS2 : ∀ b, upd H1 r (.lst (us2.reverse.map V.ref)) (ad b) = some (.dK (S1 b)) := fun b => (upd_ne (nrd b)).trans (hS1 b)
      have tl := (g1 c).2
      have sl1 : st2.length + 1 ≤ 1000 := sl1
      have fin : ∀ t : Tb, t = undo1 S1 (c, key, ov) c → ∃ (S1 : S2) (st1 : List Row) (w2 w3 w4 : Option V), [some (V.ref p), some (V.int (m : Int)), some (V.ref (ad c)), some (V.str key), some (ov.getD .non)] = [some (.ref p), some (.int (m : Int)), w2, w3, w4] ∧ st1.length = st2.length ∧
          TrailAt C (upd (upd H1 r (.lst (us2.reverse.map V.ref))) (ad c) (.dK t)) p r ad st1 ∧ (∀ b, (upd (upd H1 r (.lst (us2.reverse.map V.ref))) (ad c) (.dK t)) (ad b) = some (.dK (S1 b))) ∧ Good S1 st1 ∧ st1.length ≤ 1000 ∧
          Kp H (upd (upd H1 r (.lst (us2.reverse.map V.ref))) (ad c) (.dK t)) [r, ad false, ad true] ∧ unwind S1 st1 (st2.length - m) = unwind S st (st.length - m) ∧ st1.drop (st2.length - m) = st.drop (st.length - m) := by
        intro t et
        have kd : Kp (upd H1 r (.lst (us2.reverse.map V.ref))) (upd (upd H1 r (.lst (us2.reverse.map V.ref))) (ad c) (.dK t)) [ad c] := Kp.dic (hS2 c)
        have e1 : j - m = (st2.length - m) + 1 := by omega
        rw [e1] at eu ed
        refine ⟨undo1 S1 (c, key, ov), st2, _, _, _, rfl, rfl, ⟨⟨dx, kd.ins (kl.ins h1)⟩, us2, (upd_ne (nrd c).symm).trans upd_same, kd.rows (kl.rows h3)⟩, fun b => ?_, g4, by omega, ?_, eu, ed⟩
        · by_cases e : b = c
          · rw [e, upd_same, et]
          · have n2 : ad b ≠ ad c := fun z => by
              cases b <;> cases c <;> first | exact e rfl | exact nad z | exact nad z.symm
            rw [upd_ne n2, hS2 b]
            unfold undo1
            rw [if_neg (show ¬ b = (c, key, ov).1 from e)]
        · refine (kp.trans kl (fun _ h => h) (fun x hx => .inl (by rw [List.mem_singleton.mp hx]; simp)) kind).trans kd (fun _ h => h) (fun x hx => .inl ?_) kind
          rw [List.mem_singleton.mp hx]
          cases c <;> simp
      refine ⟨_, rfl, rfl, _, rfl, ?_⟩
      cases ov with
      | none =>
        refine iteT ?_
        have hk := g2 rfl
        obtain ⟨u0, eu0⟩ := Option.isSome_iff_exists.mp hk
        refine ⟨_, rfl, ad c, rfl, .inl ⟨_, Rd.of (hS2 c)⟩, _, rfl, _, Sum.inr key, _, hS2 c, rfl, eu0, ?_⟩
        refine fin _ ?_
        unfold undo1
        rw [if_pos rfl]
      | some v =>
        obtain ⟨i, rfl⟩ := g3 v rfl
        refine iteF ?_
        refine ⟨_, rfl, _, rfl, _, rfl, ad c, _, rfl, DPut.k (k := Sum.inr key) (hS2 c) (Nat.lt_of_le_of_lt (show _ ≤ 1000 by omega) (by decide)), ?_⟩
        refine fin _ ?_
        unfold undo1
        rw [if_pos rfl]
        rfl
  · have ge : ¬ (m : Int) < (j : Int) := fun z => ge (decide_eq_true z)
    have e0 : j - m = 0 := by omega
    rw [e0] at eu ed
    rw [unwind_zero] at eu
    have ed : st1 = _ := ed
    refine go H1 ?_ (fun b => by rw [← eu]; exact hS1 b) kp
    rw [← ed]
    exact ⟨⟨dx, h1⟩, us, h2, h3⟩
end
end K16

set_option Elab.async false
set_option maxRecDepth 100000
set_option maxHeartbeats 4000000
namespace K16
open PySem L2
theorem nn {l : List Addr} (h : l.Nodup) (i j : Nat) {x y : Addr} (hi : l[i]? = some x := by rfl) (hj : l[j]? = some y := by rfl) (hij : i ≠ j := by decide) : x ≠ y := fun e => by
  subst e
  exact hij (nd_ix h hi hj)
theorem nm1 {a x : Addr} (h : a ≠ x) : a ∉ [x] := fun q => h (List.mem_singleton.mp q)
theorem nm2 {a x y : Addr} (h : a ≠ x) (h2 : a ≠ y) : a ∉ [x, y] := fun q => (List.mem_cons.mp q).elim h (nm1 h2)
theorem nm3 {a x y z : Addr} (h : a ≠ x) (h2 : a ≠ y) (h3 : a ≠ z) : a ∉ [x, y, z] := fun q => (List.mem_cons.mp q).elim h (nm2 h2 h3)
def nats (mk : List Nat) : List V := mk.map fun m : Nat => V.int (m : Int)
theorem nats_snoc (mk : List Nat) (n : Nat) : nats (mk ++ [n]) = nats mk ++ [.int (n : Int)] := by unfold nats; rw [List.map_append]; rfl
theorem nats_take (mk : List Nat) (n : Nat) : (nats mk).take n = nats (mk.take n) := by unfold nats; rw [List.map_take]
/-- at h the pair of the tables T, which stand apart from the tables at work -/
def HeldAt (H : Hp) (A : List Addr) (T : S2) (h : Addr) : Prop := ∃ x : Bool → Addr, H h = some (.lst [.ref (x false), .ref (x true)]) ∧ (∀ b, H (x b) = some (.dK (T b))) ∧ ∀ b, x b ∉ A
structure LInv (C : Addr) (H : Hp) (d p r tb du ma he : Addr) (ad ae : Bool → Addr) (ms : List Int) (S : S2) (st : List Row) (mk : List Nat) (hs : List Addr) : Prop where
  dr : H d = some (.lst (ms.map V.int))
  tr : TrailAt C H p r ad st
  tbs : H tb = some (.lst [.ref (ad false), .ref (ad true)])
  dus : H du = some (.lst [.ref (ae false), .ref (ae true)])
  mas : H ma = some (.lst (nats mk))
  hes : H he = some (.lst (hs.map V.ref))
  t : ∀ b, H (ad b) = some (.dK (S b))
  u : ∀ b, H (ae b) = some (.dK (S b))
  good : Good S st
  sorted : mk.Pairwise (· ≤ ·)
  low : ∀ m ∈ mk, m ≤ st.length
  held : Paired (fun (m : Nat) h => HeldAt H [ad false, ad true, ae false, ae true] (unwind S st (st.length - m)) h ∧ h ∉ [d, r, ma, he]) mk hs
  s1 : [d, r, tb, du, ma, he].Nodup
  s2 : [ad false, ad true, ae false, ae true].Nodup
section
variable {C d p r tb du ma he : Addr} {H H' : Hp} {ad ae : Bool → Addr} {ms : List Int} {S : S2} {st : List Row} {mk : List Nat} {hs : List Addr} {M A : List Addr}
/-- what is held stays where lists of L and dicts of A change -/
theorem HeldAt.fix {L : List Addr} {T : S2} {h : Addr} (k : Kp H H' M) (hM : ∀ x ∈ M, x ∈ L ∨ (x ∈ A ∧ ∃ t, H x = some (.dK t))) (hL : ∀ x ∈ L, ∃ xs, H x = some (.lst xs)) (q : HeldAt H A T h) (n : h ∉ L) : HeldAt H' A T h := by
  obtain ⟨x, h1, h2, h3⟩ := q
  refine ⟨x, k.keep h _ h1 fun m => ?_, fun b => k.keep _ _ (h2 b) fun m => ?_, h3⟩
  · rcases hM h m with z | ⟨_, t, z⟩
    · exact n z
    · rw [h1] at z
      cases z
  · rcases hM _ m with z | ⟨z, _⟩
    · obtain ⟨xs, e⟩ := hL _ z
      rw [h2 b] at e
      cases e
    · exact h3 b z
theorem LInv.lists (L : LInv C H d p r tb du ma he ad ae ms S st mk hs) : ∀ x ∈ [d, r, ma, he], ∃ xs, H x = some (.lst xs) := by
  obtain ⟨_, us, hr, _⟩ := L.tr
  intro x hx
  simp only [List.mem_cons, List.not_mem_nil, or_false] at hx
  rcases hx with e | e | e | e <;> rw [e]
  · exact ⟨_, L.dr⟩
  · exact ⟨_, hr⟩
  · exact ⟨_, L.mas⟩
  · exact ⟨_, L.hes⟩
theorem LInv.heldFix (L : LInv C H d p r tb du ma he ad ae ms S st mk hs) (k : Kp H H' M) (hM : ∀ x ∈ M, x ∈ [d, r, ma, he] ∨ (x ∈ [ad false, ad true, ae false, ae true] ∧ ∃ t, H x = some (.dK t))) {T : S2} {h : Addr}
    (q : HeldAt H [ad false, ad true, ae false, ae true] T h) (n : h ∉ [d, r, ma, he]) : HeldAt H' [ad false, ad true, ae false, ae true] T h := q.fix k hM L.lists n
theorem dne {H : Hp} {a b : Addr} {t : Tb} {xs : List V} (h1 : H a = some (.dK t)) (h2 : H b = some (.lst xs)) : a ≠ b := ne_of h1 h2 (by intro z; cases z)
theorem LInv.draw (L : LInv C H d p r tb du ma he ad ae ms S st mk hs) (ks : List Int) : LInv C (upd H d (.lst (ks.map V.int))) d p r tb du ma he ad ae ks S st mk hs := by
  have k : Kp H (upd H d (.lst (ks.map V.int))) [d] := Kp.lst L.dr
  have hM : ∀ x ∈ [d], x ∈ [d, r, ma, he] ∨ (x ∈ [ad false, ad true, ae false, ae true] ∧ ∃ t, H x = some (.dK t)) := fun x hx => .inl (by rw [List.mem_singleton.mp hx]; simp)
  exact { dr := upd_same, tr := k.trail L.tr (nm1 (nn L.s1 1 0)), tbs := k.keep _ _ L.tbs (nm1 (nn L.s1 2 0)), dus := k.keep _ _ L.dus (nm1 (nn L.s1 3 0)), mas := k.keep _ _ L.mas (nm1 (nn L.s1 4 0)), hes := k.keep _ _ L.hes (nm1 (nn L.s1 5 0)), t := fun b => k.keep _ _ (L.t b) (nm1 (dne (L.t b) L.dr)), u := fun b => k.keep _ _ (L.u b) (nm1 (dne (L.u b) L.dr)), good := L.good, sorted := L.sorted, low := L.low,
          held := Paired.mapP L.held fun m h q => ⟨L.heldFix k hM q.1 q.2, q.2⟩, s1 := L.s1, s2 := L.s2 }
/-- new objects alone -/
theorem LInv.more (L : LInv C H d p r tb du ma he ad ae ms S st mk hs) (k : Kp H H' []) : LInv C H' d p r tb du ma he ad ae ms S st mk hs := by
  have up : ∀ {x : Addr} {o : HO}, H x = some o → H' x = some o := fun e => k.keep _ _ e (by simp)
  exact { dr := up L.dr, tr := k.trail L.tr (by simp), tbs := up L.tbs, dus := up L.dus, mas := up L.mas, hes := up L.hes, t := fun b => up (L.t b), u := fun b => up (L.u b), good := L.good, sorted := L.sorted, low := L.low, held := Paired.mapP L.held fun m h q => ⟨L.heldFix k (by simp) q.1 q.2, q.2⟩, s1 := L.s1, s2 := L.s2 }
theorem LInv.adne (L : LInv C H d p r tb du ma he ad ae ms S st mk hs) (b c : Bool) : ad b ≠ ae c := by
  cases b <;> cases c
  · exact nn L.s2 0 2
  · exact nn L.s2 0 3
  · exact nn L.s2 1 2
  · exact nn L.s2 1 3
theorem LInv.ad2 (L : LInv C H d p r tb du ma he ad ae ms S st mk hs) {b c : Bool} (h : b ≠ c) : ad b ≠ ad c := by
  cases b <;> cases c
  · exact absurd rfl h
  · exact nn L.s2 0 1
  · exact nn L.s2 1 0
  · exact absurd rfl h
theorem LInv.ae2 (L : LInv C H d p r tb du ma he ad ae ms S st mk hs) {b c : Bool} (h : b ≠ c) : ae b ≠ ae c := by
  cases b <;> cases c
  · exact absurd rfl h
  · exact nn L.s2 2 3
  · exact nn L.s2 3 2
  · exact absurd rfl h
theorem adM (ad ae : Bool → Addr) (b : Bool) : ad b ∈ [ad false, ad true, ae false, ae true] := by cases b <;> simp
theorem aeM (ad ae : Bool → Addr) (b : Bool) : ae b ∈ [ad false, ad true, ae false, ae true] := by cases b <;> simp
/-- behind trail.put and due[which][key] = value -/
theorem LInv.put (L : LInv C H d p r tb du ma he ad ae ms S st mk hs) {c : Bool} {key : Str} {i : Int} (tr : TrailAt C H' p r ad ((c, key, valV (S c) (.inr key)) :: st)) (hc : H' (ad c) = some (.dK (putK (S c) (.inr key) (.int i)))) (k1 : Kp H H' [r, ad c]) :
    H' (ae c) = some (.dK (S c)) ∧ H' du = some (.lst [.ref (ae false), .ref (ae true)]) ∧ LInv C (upd H' (ae c) (.dK (putK (S c) (.inr key) (.int i)))) d p r tb du ma he ad ae ms (put1 S c key (.int i)) ((c, key, valV (S c) (.inr key)) :: st) mk hs := by
  obtain ⟨_, us, hr, _⟩ := id L.tr
  have notin : ∀ {x : Addr} {xs : List V}, H x = some (.lst xs) → x ≠ r → x ∉ [r, ad c] := fun e n => nm2 n (dne (L.t c) e).symm
  have hu : ∀ b, H' (ae b) = some (.dK (S b)) := fun b => k1.keep _ _ (L.u b) (nm2 (dne (L.u b) hr) (L.adne c b).symm)
  have hdu := k1.keep _ _ L.dus (notin L.dus (nn L.s1 3 1))
  refine ⟨hu c, hdu, ?_⟩
  have k2 : Kp H' (upd H' (ae c) (.dK (putK (S c) (.inr key) (.int i)))) [ae c] := Kp.dic (hu c)
  have lk : ∀ {x : Addr} {xs : List V}, H' x = some (.lst xs) → upd H' (ae c) (.dK (putK (S c) (.inr key) (.int i))) x = some (.lst xs) := fun e => k2.keep _ _ e (nm1 (dne (hu c) e).symm)
  obtain ⟨_, us2, hr2, _⟩ := id tr
  have km : Kp H (upd H' (ae c) (.dK (putK (S c) (.inr key) (.int i)))) [r, ad c, ae c] := k1.trans k2 (fun x hx => by simp only [List.mem_cons, List.not_mem_nil, or_false] at hx ⊢; rcases hx with e | e <;> simp [e]) (fun x hx => .inl (by rw [List.mem_singleton.mp hx]; simp)) fun x hx => by
    simp only [List.mem_cons, List.not_mem_nil, or_false] at hx
    rcases hx with e | e | e <;> rw [e]
    · exact .inl ⟨_, hr⟩
    · exact .inr ⟨_, L.t c⟩
    · exact .inr ⟨_, L.u c⟩
  have hM : ∀ x ∈ [r, ad c, ae c], x ∈ [d, r, ma, he] ∨ (x ∈ [ad false, ad true, ae false, ae true] ∧ ∃ t, H x = some (.dK t)) := fun x hx => by
    simp only [List.mem_cons, List.not_mem_nil, or_false] at hx
    rcases hx with e | e | e
    · exact .inl (by rw [e]; simp)
    · exact .inr ⟨by rw [e]; exact adM ad ae c, _, by rw [e]; exact L.t c⟩
    · exact .inr ⟨by rw [e]; exact aeM ad ae c, _, by rw [e]; exact L.u c⟩
  refine { dr := lk (k1.keep _ _ L.dr (notin L.dr (nn L.s1 0 1))), tr := k2.trail tr (nm1 (dne (hu c) hr2).symm), tbs := lk (k1.keep _ _ L.tbs (notin L.tbs (nn L.s1 2 1))), dus := lk hdu, mas := lk (k1.keep _ _ L.mas (notin L.mas (nn L.s1 4 1))), hes := lk (k1.keep _ _ L.hes (notin L.hes (nn L.s1 5 1))), t := fun b => ?_, u := fun b => ?_, good := good_put L.good, sorted := L.sorted, low := fun m hm => Nat.le_succ_of_le (L.low m hm), held := ?_, s1 := L.s1, s2 := L.s2 }
  · unfold put1
    rw [upd_ne (L.adne b c)]
    by_cases e : b = c
    · rw [e, if_pos rfl]
      exact hc
    · rw [if_neg e]
      exact k1.keep _ _ (L.t b) (nm2 (dne (L.t b) hr) (L.ad2 e))
  · unfold put1
    by_cases e : b = c
    · rw [e, if_pos rfl, upd_same]
    · rw [if_neg e, upd_ne (L.ae2 e)]
      exact hu b
  · have go : ∀ {mk : List Nat} {hs : List Addr}, (∀ m ∈ mk, m ≤ st.length) → Paired (fun (m : Nat) h => HeldAt H [ad false, ad true, ae false, ae true] (unwind S st (st.length - m)) h ∧ h ∉ [d, r, ma, he]) mk hs →
        Paired (fun (m : Nat) h => HeldAt (upd H' (ae c) (.dK (putK (S c) (.inr key) (.int i)))) [ad false, ad true, ae false, ae true] (unwind (put1 S c key (.int i)) ((c, key, valV (S c) (.inr key)) :: st) (((c, key, valV (S c) (.inr key)) :: st).length - m)) h ∧ h ∉ [d, r, ma, he]) mk hs := by
      intro mk hs lo q
      induction q with
      | nil => exact .nil
      | @cons m h mr hr a b ih =>
        refine .cons ⟨?_, a.2⟩ (ih fun x hx => lo x (List.mem_cons_of_mem _ hx))
        rw [show (((c, key, valV (S c) (.inr key)) :: st).length - m) = st.length + 1 - m from rfl, unwind_cons (lo m List.mem_cons_self), undo_put (L.good.fine c).1]
        exact L.heldFix km hM a.1 a.2
    exact go L.low L.held
/-- behind marks.append(trail.mark()); held.append([dict(due[0]), dict(due[1])]) -/
theorem LInv.mark (L : LInv C H d p r tb du ma he ad ae ms S st mk hs) {x0 x1 h : Addr} {H1 H2 H3 H4 : Hp} (e1 : H1 = upd H ma (.lst (nats mk ++ [.int (st.length : Int)]))) (f0 : H1 x0 = none) (e2 : H2 = upd H1 x0 (.dK (S false))) (f1 : H2 x1 = none) (e3 : H3 = upd H2 x1 (.dK (S true)))
    (f2 : H3 h = none) (e4 : H4 = upd H3 h (.lst [.ref x0, .ref x1])) : H4 he = some (.lst (hs.map V.ref)) ∧ LInv C (upd H4 he (.lst (hs.map V.ref ++ [.ref h]))) d p r tb du ma he ad ae ms S st (mk ++ [st.length]) (hs ++ [h]) := by
  obtain ⟨_, us, hr, _⟩ := id L.tr
  have k1 : Kp H H1 [ma] := by rw [e1]; exact Kp.lst L.mas
  have k2 : Kp H1 H2 [] := by rw [e2]; exact Kp.new f0
  have k3 : Kp H2 H3 [] := by rw [e3]; exact Kp.new f1
  have k4 : Kp H3 H4 [] := by rw [e4]; exact Kp.new f2
  have up : ∀ {x : Addr} {o : HO}, H1 x = some o → H4 x = some o := fun e => k4.keep _ _ (k3.keep _ _ (k2.keep _ _ e (by simp)) (by simp)) (by simp)
  have hhe : H4 he = some (.lst (hs.map V.ref)) := up (k1.keep _ _ L.hes (nm1 (nn L.s1 5 4)))
  have k5 : Kp H4 (upd H4 he (.lst (hs.map V.ref ++ [.ref h]))) [he] := Kp.lst hhe
  have kind : ∀ m ∈ [ma, he], (∃ xs, H m = some (.lst xs)) ∨ ∃ kvs, H m = some (.dK kvs) := fun m hm => by
    simp only [List.mem_cons, List.not_mem_nil, or_false] at hm
    rcases hm with e | e <;> rw [e]
    · exact .inl ⟨_, L.mas⟩
    · exact .inl ⟨_, L.hes⟩
  have k : Kp H (upd H4 he (.lst (hs.map V.ref ++ [.ref h]))) [ma, he] :=
    ⟨fun c o e n => k5.keep _ _ (up (k1.keep _ _ e fun q => n (by rw [List.mem_singleton.mp q]; simp))) fun q => n (by rw [List.mem_singleton.mp q]; simp), kind⟩
  have hM : ∀ x ∈ [ma, he], x ∈ [d, r, ma, he] ∨ (x ∈ [ad false, ad true, ae false, ae true] ∧ ∃ t, H x = some (.dK t)) := fun x hx => .inl (by
    simp only [List.mem_cons, List.not_mem_nil, or_false] at hx ⊢
    rcases hx with e | e <;> simp [e])
  have nh : ∀ {x : Addr} {o : HO}, H1 x = some o → h ≠ x := fun e z => by
    have := k3.keep _ _ (k2.keep _ _ e (by simp)) (by simp)
    rw [← z, f2] at this
    cases this
  have nx0 : ∀ {x : Addr} {o : HO}, H1 x = some o → x0 ≠ x := fun e z => by
    rw [← z, f0] at e
    cases e
  have nx1 : ∀ {x : Addr} {o : HO}, H2 x = some o → x1 ≠ x := fun e z => by
    rw [← z, f1] at e
    cases e
  have h1 : ∀ {x : Addr} {o : HO}, H x = some o → x ≠ ma → H1 x = some o := fun e n => k1.keep _ _ e (nm1 n)
  have hma : H1 ma = some (.lst (nats mk ++ [.int (st.length : Int)])) := by rw [e1, upd_same]
  have dk : ∀ {x : Addr} {t : Tb}, H x = some (.dK t) → H1 x = some (.dK t) := fun e => h1 e (dne e L.mas)
  have g0 : H2 x0 = some (.dK (S false)) := by rw [e2, upd_same]
  have g1 : H3 x1 = some (.dK (S true)) := by rw [e3, upd_same]
  have g0' : H3 x0 = some (.dK (S false)) := k3.keep _ _ g0 (by simp)
  refine ⟨hhe, { dr := k.keep _ _ L.dr (nm2 (nn L.s1 0 4) (nn L.s1 0 5)), tr := k.trail L.tr (nm2 (nn L.s1 1 4) (nn L.s1 1 5)), tbs := k.keep _ _ L.tbs (nm2 (nn L.s1 2 4) (nn L.s1 2 5)), dus := k.keep _ _ L.dus (nm2 (nn L.s1 3 4) (nn L.s1 3 5)), mas := ?_, hes := ?_, t := fun b => k.keep _ _ (L.t b) (nm2 (dne (L.t b) L.mas) (dne (L.t b) L.hes)), u := fun b => k.keep _ _ (L.u b) (nm2 (dne (L.u b) L.mas) (dne (L.u b) L.hes)), good := L.good, sorted := ?_, low := ?_, held := ?_, s1 := L.s1, s2 := L.s2 }⟩
  · rw [nats_snoc]
    exact k5.keep _ _ (up hma) (nm1 (nn L.s1 4 5))
  · rw [upd_same, List.map_append]
    rfl
  · rw [List.pairwise_append]
    exact ⟨L.sorted, List.pairwise_singleton _ _, fun a ha b hb => by rw [List.mem_singleton.mp hb]; exact L.low a ha⟩
  · intro m hm
    rcases List.mem_append.mp hm with q | q
    · exact L.low m q
    · rw [List.mem_singleton.mp q]
      exact Nat.le_refl _
  · refine Paired.snoc (Paired.mapP L.held fun m h q => ⟨L.heldFix k hM q.1 q.2, q.2⟩) ⟨?_, ?_⟩
    · rw [Nat.sub_self, unwind_zero]
      refine ⟨fun b => if b then x1 else x0, ?_, fun b => ?_, fun b => ?_⟩
      · refine k5.keep _ _ ?_ (nm1 (nh (h1 L.hes (nn L.s1 5 4))))
        rw [e4, upd_same]
        rfl
      · cases b with
        | false => exact k5.keep _ _ (k4.keep _ _ g0' (by simp)) (nm1 (nx0 (h1 L.hes (nn L.s1 5 4))))
        | true => exact k5.keep _ _ (k4.keep _ _ g1 (by simp)) (nm1 (nx1 (k2.keep _ _ (h1 L.hes (nn L.s1 5 4)) (by simp))))
      · have big : ∀ y ∈ [ad false, ad true, ae false, ae true], ∃ t, H1 y = some (.dK t) := fun y hy => by
          simp only [List.mem_cons, List.not_mem_nil, or_false] at hy
          rcases hy with e | e | e | e <;> rw [e]
          · exact ⟨_, dk (L.t _)⟩
          · exact ⟨_, dk (L.t _)⟩
          · exact ⟨_, dk (L.u _)⟩
          · exact ⟨_, dk (L.u _)⟩
        intro m
        obtain ⟨t, e⟩ := big _ m
        cases b with
        | false => exact nx0 e rfl
        | true => exact nx1 (k2.keep _ _ e (by simp)) rfl
    · simp only [List.mem_cons, List.not_mem_nil, or_false, not_or]
      exact ⟨nh (h1 L.dr (nn L.s1 0 4)), nh (h1 hr (nn L.s1 1 4)), nh hma, nh (h1 L.hes (nn L.s1 5 4))⟩
theorem pairedAt {α β : Type} {F : α → β → Prop} {l : List α} {m : List β} (q : Paired F l m) : ∀ {i : Nat} {a : α}, l[i]? = some a → ∃ b, m[i]? = some b ∧ F a b := by
  induction q with
  | nil => intro i a h; simp at h
  | cons x y ih =>
    intro i a h
    cases i with
    | zero => exact ⟨_, rfl, by have e := Option.some.inj h; subst e; exact x⟩
    | succ i => exact ih (by simpa using h)
theorem pairedTake {α β : Type} {F : α → β → Prop} {l : List α} {m : List β} (q : Paired F l m) : ∀ n : Nat, Paired F (l.take n) (m.take n) := by
  induction q with
  | nil => intro n; rw [List.take_nil, List.take_nil]; exact .nil
  | cons x y ih =>
    intro n
    cases n with
    | zero => exact .nil
    | succ n => exact .cons x (ih n)
theorem sortedTake {l : List Nat} (h : l.Pairwise (· ≤ ·)) {i m : Nat} (e : l[i]? = some m) : ∀ x ∈ l.take (i + 1), x ≤ m := by
  induction l generalizing i with
  | nil => simp at e
  | cons a r ih =>
    rw [List.pairwise_cons] at h
    intro x hx
    cases i with
    | zero =>
      have e := Option.some.inj e
      have hx : x = a := by simpa using hx
      rw [hx, e]
      exact Nat.le_refl _
    | succ i =>
      have e : r[i]? = some m := by simpa using e
      rw [List.take_succ_cons] at hx
      rcases List.mem_cons.mp hx with z | z
      · rw [z]
        exact h.1 m (List.mem_of_getElem? e)
      · exact ih h.2 e x z
/-- behind trail.back(marks[place]); due = [dict(..), dict(..)]; marks, held = marks[:place + 1], held[:place + 1] -/
theorem LInv.back (L : LInv C H d p r tb du ma he ad ae ms S st mk hs) {i m : Nat} {h : Addr} (hm : mk[i]? = some m) (hh : hs[i]? = some h) (tr : TrailAt C H' p r ad (st.drop (st.length - m))) (hS : ∀ b, H' (ad b) = some (.dK (unwind S st (st.length - m) b))) (k1 : Kp H H' [r, ad false, ad true])
    {x0 x1 du' ma' he' : Addr} {H2 H3 H4 H5 H6 : Hp} (f0 : H' x0 = none) (e2 : H2 = upd H' x0 (.dK (unwind S st (st.length - m) false))) (f1 : H2 x1 = none) (e3 : H3 = upd H2 x1 (.dK (unwind S st (st.length - m) true))) (f2 : H3 du' = none) (e4 : H4 = upd H3 du' (.lst [.ref x0, .ref x1]))
    (f3 : H4 ma' = none) (e5 : H5 = upd H4 ma' (.lst ((nats mk).take (i + 1)))) (f4 : H5 he' = none) (e6 : H6 = upd H5 he' (.lst ((hs.map V.ref).take (i + 1)))) :
    LInv C H6 d p r tb du' ma' he' ad (fun b => if b then x1 else x0) ms (unwind S st (st.length - m)) (st.drop (st.length - m)) (mk.take (i + 1)) (hs.take (i + 1)) := by
  have lo : m ≤ st.length := L.low m (List.mem_of_getElem? hm)
  obtain ⟨_, us, hr, _⟩ := id L.tr
  obtain ⟨_, us2, hr2, _⟩ := id tr
  have k2 : Kp H' H2 [] := by rw [e2]; exact Kp.new f0
  have k3 : Kp H2 H3 [] := by rw [e3]; exact Kp.new f1
  have k4 : Kp H3 H4 [] := by rw [e4]; exact Kp.new f2
  have k5 : Kp H4 H5 [] := by rw [e5]; exact Kp.new f3
  have k6 : Kp H5 H6 [] := by rw [e6]; exact Kp.new f4
  have u2 : ∀ {x : Addr} {o : HO}, H' x = some o → H2 x = some o := fun e => k2.keep _ _ e (by simp)
  have u3 : ∀ {x : Addr} {o : HO}, H2 x = some o → H3 x = some o := fun e => k3.keep _ _ e (by simp)
  have u4 : ∀ {x : Addr} {o : HO}, H3 x = some o → H4 x = some o := fun e => k4.keep _ _ e (by simp)
  have u5 : ∀ {x : Addr} {o : HO}, H4 x = some o → H5 x = some o := fun e => k5.keep _ _ e (by simp)
  have u6 : ∀ {x : Addr} {o : HO}, H5 x = some o → H6 x = some o := fun e => k6.keep _ _ e (by simp)
  have nw : ∀ {G : Hp} {a x : Addr} {o : HO}, G x = some o → G a = none → a ≠ x := fun e f z => by
    rw [← z, f] at e
    cases e
  have lk : ∀ {x : Addr} {xs : List V}, H x = some (.lst xs) → x ≠ r → H' x = some (.lst xs) := fun e n => k1.keep _ _ e (nm3 n (dne (L.t false) e).symm (dne (L.t true) e).symm)
  have hd := lk L.dr (nn L.s1 0 1)
  have htb := lk L.tbs (nn L.s1 2 1)
  have g0 : H2 x0 = some (.dK (unwind S st (st.length - m) false)) := by rw [e2, upd_same]
  have g1 : H3 x1 = some (.dK (unwind S st (st.length - m) true)) := by rw [e3, upd_same]
  have g2 : H4 du' = some (.lst [.ref x0, .ref x1]) := by rw [e4, upd_same]
  have g3 : H5 ma' = some (.lst ((nats mk).take (i + 1))) := by rw [e5, upd_same]
  have k : Kp H H6 [r, ad false, ad true] := ⟨fun c o e n => u6 (u5 (u4 (u3 (u2 (k1.keep c o e n))))), k1.kind⟩
  have hM : ∀ x ∈ [r, ad false, ad true], x ∈ [d, r, ma, he] ∨ (x ∈ [ad false, ad true, ae false, ae true] ∧ ∃ t, H x = some (.dK t)) := fun x hx => by
    simp only [List.mem_cons, List.not_mem_nil, or_false] at hx
    rcases hx with e | e | e
    · exact .inl (by rw [e]; simp)
    · exact .inr ⟨by rw [e]; simp, _, by rw [e]; exact L.t _⟩
    · exact .inr ⟨by rw [e]; simp, _, by rw [e]; exact L.t _⟩
  have old : ∀ {x : Addr} {o : HO}, H' x = some o → H6 x = some o := fun e => u6 (u5 (u4 (u3 (u2 e))))
  refine { dr := old hd, tr := ⟨let ⟨dx, e⟩ := tr.ob; ⟨dx, old e⟩, let ⟨us, e, q⟩ := tr.rows; ⟨us, old e, Paired.mapP q fun _ _ e => old e⟩⟩, tbs := old htb, dus := u6 (u5 g2), mas := ?_, hes := ?_, t := fun b => old (hS b), u := fun b => ?_, good := good_unwind _ _ _ (Nat.sub_le _ _) L.good, sorted := L.sorted.sublist (List.take_sublist _ _), low := fun x hx => ?_, held := ?_, s1 := ?_, s2 := ?_ }
  · rw [nats_take] at g3
    exact u6 g3
  · rw [e6, upd_same, List.map_take]
  · cases b with
    | false => exact u6 (u5 (u4 (u3 g0)))
    | true => exact u6 (u5 (u4 g1))
  · rw [List.length_drop]
    have := sortedTake L.sorted hm x hx
    omega
  · have go : ∀ {mk : List Nat} {hs : List Addr}, (∀ x ∈ mk, x ≤ m) → Paired (fun (m : Nat) h => HeldAt H [ad false, ad true, ae false, ae true] (unwind S st (st.length - m)) h ∧ h ∉ [d, r, ma, he]) mk hs →
        Paired (fun (x : Nat) h => HeldAt H6 [ad false, ad true, if false = true then x1 else x0, if true = true then x1 else x0] (unwind (unwind S st (st.length - m)) (st.drop (st.length - m)) ((st.drop (st.length - m)).length - x)) h ∧ h ∉ [d, r, ma', he']) mk hs := by
      intro mk hs lo2 q
      induction q with
      | nil => exact .nil
      | @cons x h mr hsr a b ih =>
        refine .cons ?_ (ih fun y hy => lo2 y (List.mem_cons_of_mem _ hy))
        have lx := lo2 x List.mem_cons_self
        rw [unwind_add _ _ _ _ (Nat.sub_le _ _), List.length_drop, show st.length - m + (st.length - (st.length - m) - x) = st.length - x by omega]
        obtain ⟨y, q1, q2, q3⟩ := a.1
        have nr := a.2
        simp only [List.mem_cons, List.not_mem_nil, or_false, not_or] at nr
        have q1' := lk q1 nr.2.1
        have q2' : ∀ b, H' (y b) = some (.dK (unwind S st (st.length - x) b)) := fun b => k1.keep _ _ (q2 b) fun z => by
          have w := q3 b
          simp only [List.mem_cons, List.not_mem_nil, or_false, not_or] at w z
          rcases z with z | z | z
          · exact dne (q2 b) hr z
          · exact w.1 z
          · exact w.2.1 z
        refine ⟨⟨y, old q1', fun b => old (q2' b), fun b => ?_⟩, ?_⟩
        · have w := q3 b
          simp only [List.mem_cons, List.not_mem_nil, or_false, not_or] at w ⊢
          exact ⟨w.1, w.2.1, (nw (q2' b) f0).symm, (nw (u2 (q2' b)) f1).symm⟩
        · simp only [List.mem_cons, List.not_mem_nil, or_false, not_or]
          exact ⟨nr.1, nr.2.1, (nw (u4 (u3 (u2 q1'))) f3).symm, (nw (u5 (u4 (u3 (u2 q1')))) f4).symm⟩
    exact go (sortedTake L.sorted hm) (pairedTake L.held (i + 1))
  · have a1 := nn L.s1 0 1
    have a2 := nn L.s1 0 2
    have a3 := nn L.s1 1 2
    have b1 := fun {x : Addr} {o : HO} (e : H' x = some o) => nw (u3 (u2 e)) f2
    have b2 := fun {x : Addr} {o : HO} (e : H' x = some o) => nw (u4 (u3 (u2 e))) f3
    have b3 := fun {x : Addr} {o : HO} (e : H' x = some o) => nw (u5 (u4 (u3 (u2 e)))) f4
    simp only [List.nodup_cons, List.mem_cons, List.not_mem_nil, or_false, not_or, not_false_eq_true, List.nodup_nil, and_true]
    exact ⟨⟨a1, a2, (b1 hd).symm, (b2 hd).symm, (b3 hd).symm⟩, ⟨a3, (b1 hr2).symm, (b2 hr2).symm, (b3 hr2).symm⟩, ⟨(b1 htb).symm, (b2 htb).symm, (b3 htb).symm⟩, ⟨(nw g2 f3).symm, (nw (u5 g2) f4).symm⟩, (nw g3 f4).symm⟩
  · have a1 := nn L.s2 0 1
    rw [if_neg (show ¬ (false = true) by decide), if_pos rfl]
    simp only [List.nodup_cons, List.mem_cons, List.not_mem_nil, or_false, not_or, not_false_eq_true, List.nodup_nil, and_true]
    exact ⟨⟨a1, (nw (hS false) f0).symm, (nw (u2 (hS false)) f1).symm⟩, ⟨(nw (hS true) f0).symm, (nw (u2 (hS true)) f1).symm⟩, (nw g0 f1).symm⟩
/-- the tables and what is due are equal -/
theorem eqTabs {K : PySem.W.Frag} {H : Hp} {n : Nat} {a b : Addr} {t : Tb} (f : Fine t) (ha : H a = some (.dK t)) (hb : H b = some (.dK t)) : EqV K H (n + 2) (.ref a) (.ref b) := by
  refine .inr (.inr (.inr ⟨a, b, t, t, rfl, rfl, ha, hb, rfl, fun q hq => ⟨q.2, valV_mem f.1 q hq, .inl ⟨rfl, ?_⟩⟩⟩))
  obtain ⟨i, e⟩ := f.2 q hq
  rw [e]
  rfl
end
end K16

set_option Elab.async false
set_option maxRecDepth 100000
set_option maxHeartbeats 8000000
namespace K16
open PySem L2
/-- law's: a list of at most 63 ints is handed in, True comes out -/
def spLaw (K : PySem.W.Frag) : Sp := fun vs H Q _ => ∃ (a : Addr) (ns : List Int), vs = [.ref a] ∧ SqL K H a (ns.map V.int) ∧ ns.length ≤ 63 ∧ ∀ H', Q (.bl true) H'
theorem cut_take (xs : List V) (k : Nat) (h : k ≤ xs.length) : cutV xs none (some (k : Int)) = xs.take k := by
  unfold cutV
  rw [HT.sIx_none, HT.sIx_nat, Nat.min_eq_left h, List.drop_zero, Nat.sub_zero]
theorem two {z : Int} (h0 : 0 ≤ z) (h1 : z < 2) : ∃ c : Bool, ∀ f : Bool → Addr, atI [V.ref (f false), V.ref (f true)] z = some (V.ref (f c)) := by
  have e : z = ((0 : Nat) : Int) ∨ z = ((1 : Nat) : Int) := by omega
  rcases e with e | e
  · exact ⟨false, fun f => at_of e rfl⟩
  · exact ⟨true, fun f => at_of e rfl⟩
/-- between two turns -/
def PvL (C a d p r tb : Addr) (ad : Bool → Addr) (n : Nat) (σ : L2.St) (H : Hp) : Prop := ∃ (du ma he : Addr) (ae : Bool → Addr) (ms : List Int) (S : S2) (st : List Row) (mk : List Nat) (hs : List Addr) (v7 v8 v9 v10 v11 v12 : Option V),
  σ = [some (.ref a), some (.ref d), some (.ref p), some (.ref tb), some (.ref ma), some (.ref he), some (.ref du), v7, v8, v9, v10, v11, v12] ∧ LInv C H d p r tb du ma he ad ae ms S st mk hs ∧ st.length ≤ n ∧ mk.length ≤ n
/-- within a turn, deed being known -/
def PvD (C a d p r tb : Addr) (ad : Bool → Addr) (n n' : Nat) (deed : Int) (σ : L2.St) (H : Hp) : Prop := ∃ (du ma he : Addr) (ae : Bool → Addr) (ms : List Int) (S : S2) (st : List Row) (mk : List Nat) (hs : List Addr) (v7 v9 v10 v11 v12 : Option V),
  σ = [some (.ref a), some (.ref d), some (.ref p), some (.ref tb), some (.ref ma), some (.ref he), some (.ref du), v7, some (.int deed), v9, v10, v11, v12] ∧ LInv C H d p r tb du ma he ad ae ms S st mk hs ∧ st.length ≤ n ∧ mk.length ≤ n'
theorem dpNats {K : PySem.W.Frag} {H : Hp} : ∀ mk : List Nat, DpAll K H (nats mk) (mk.map fun m : Nat => PyData.int (m : Int))
  | [] => .nil
  | m :: r => .cons (.int _) (dpNats r)
theorem lay_ints : ∀ l : List Int, PyData.canLayAll0 (l.map PyData.int) = true
  | [] => rfl
  | _ :: r => by
    show (PyData.canLay0 (.int _) && PyData.canLayAll0 (r.map PyData.int)) = true
    rw [lay_ints r]
    rfl
theorem deep_ints : ∀ l : List Int, PyData.depthAll (l.map PyData.int) = 0
  | [] => rfl
  | _ :: r => by
    show max (PyData.depth (.int _)) (PyData.depthAll (r.map PyData.int)) = 0
    rw [deep_ints r]
    rfl
theorem shapedInts (l : List Int) : SeqAt.shaped (.list (l.map PyData.int)) = true := by
  unfold SeqAt.shaped
  show (PyData.canLayAll0 (l.map PyData.int) && decide (PyData.depthAll (l.map PyData.int) + 1 ≤ 64)) = true
  rw [lay_ints, deep_ints]
  rfl
theorem shapedNats (mk : List Nat) : SeqAt.shaped (.list (mk.map fun m : Nat => PyData.int (m : Int))) = true := by
  have e : (mk.map fun m : Nat => PyData.int (m : Int)) = (mk.map fun m : Nat => (m : Int)).map PyData.int := by rw [List.map_map]; rfl
  rw [e]
  exact shapedInts _
theorem kpSame {H H1 H2 : Hp} {a : Addr} (s : Same H H1) (h : H a = none) (k : Kp H1 H2 [a]) : Same H H2 := fun b o e => k.keep b o (s b o e) (nm1 (ne_of_none e h))
section
variable {P : Program} {w : World} {K : PySem.W.Frag} {mg : Str → Option Value} {base : Heap}
theorem scLaw : FnScope ["script", "draws", "trail", "tables", "marks", "held", "due", "turn", "deed", "which", "key", "value", "place"] ["script"] (defScope sLaw) := ⟨rfl, rfl, rfl, by decide +kernel, rfl, by decide +kernel, by decide +kernel⟩
theorem ok_law {f C fI fP fM fB fD fT : Addr} {fd fdI fdP fdM fdB fdD fdT : FuncData} (F : Fun K "law" "law" sLaw f fd) (T : Txt K mg C) (M : Mk K C fI)
    (FI : Fun K "__init__" "Trail.__init__" sInit fI fdI) (bI : Binds K fdI ["self"] [])
    (FP : Fun K "put" "Trail.put" sPut fP fdP) (bP : Binds K fdP ["self", "table", "key", "value"] []) (mP : Meth K C "put" fP)
    (FM : Fun K "mark" "Trail.mark" sMark fM fdM) (bM : Binds K fdM ["self"] []) (mM : Meth K C "mark" fM)
    (FB : Fun K "back" "Trail.back" sBack fB fdB) (bB : Binds K fdB ["self", "mark"] []) (mB : Meth K C "back" fB)
    (FD : Fun K "_law_draws" "_law_draws" sDraws fD fdD) (bD : Binds K fdD ["script"] []) (gD : mg "_law_draws" = some (.ref fD))
    (FT : Fun K "_law_take" "_law_take" sTake fT fdT) (bT : Binds K fdT ["draws", "bound"] []) (gT : mg "_law_take" = some (.ref fT)) : FnOk P w K mg base CX0 3 f fd ["script"] (spLaw K) := by
  have GI : FnOk P w K mg base CX0 1 fI fdI ["self"] (spInit C) := ok_init FI T
  have GP : FnOk P w K mg base CX0 1 fP fdP ["self", "table", "key", "value"] (spPut C) := ok_put FP T
  have GM : FnOk P w K mg base CX0 1 fM fdM ["self"] (spMark C) := ok_mark FM T
  have GB : FnOk P w K mg base CX0 1 fB fdB ["self", "mark"] (spBack C) := ok_back FB T
  have GD : FnOk P w K mg base CX0 1 fD fdD ["script"] (spDraws K) := ok_draws FD T.bi
  have GT : FnOk P w K mg base CX0 1 fT fdT ["draws", "bound"] spTake := ok_take FT T.bi
  refine F.ok scLaw (fun vs H Q E h => ?_) (fun cdv A outer s H vs Q E hr h => ?_)
  · obtain ⟨a, ns, rfl, _⟩ := h
    rfl
  obtain ⟨a, ns, rfl, hS, hlen, k⟩ := h
  have nd := scLaw.nd
  have hr1 : Room 1 _ := hr.mono (by decide)
  have hu := hu_of hr
  have hv := hr.units
  refine ⟨_, (pss_cons (ps_set (i := 1) nd rfl (.inl rfl) (pe_call GD hr1 (by rfl) gD FD.kp bD .nil pass0 (pa_cons (pv 0) pa_nil)))
    (pss_cons (ps_asg (pe_tup (pa_cons (pe_make0 M GI hr (by rfl) T.mgC bI .nil pass0) (pa_cons (pe_lst (pa_cons pe_dnewK (pa_cons pe_dnewK pa_nil))) (pa_cons (pe_lst pa_nil) (pa_cons (pe_lst pa_nil) pa_nil))))) (pg_tup rfl (pgs_cons (pg_name (i := 2) nd rfl (.inl rfl)) (pgs_cons (pg_name (i := 3) nd rfl (.inl rfl)) (pgs_cons (pg_name (i := 4) nd rfl (.inl rfl)) (pgs_cons (pg_name (i := 5) nd rfl (.inl rfl)) pgs_nil))))))
    (pss_cons (ps_set (i := 6) nd rfl (.inl rfl) (pe_lst (pa_cons pe_dnewK (pa_cons pe_dnewK pa_nil))))
    (pss_cons (ps_for PassesOwn.never rfl (pi_range1 (by rfl) T.bi.range (pa_cons (pe_op op_add pe_int (pe_call GT hr1 (by rfl) gT FT.kp bT .nil pass0 (pa_cons (pv 1) (pa_cons pe_int pa_nil)))) pa_nil)) (pg_name (i := 7) nd rfl (.inl rfl)) 
      (pss_cons (ps_set (i := 8) nd rfl (.inl rfl) (pe_call GT hr1 (by rfl) gT FT.kp bT .nil pass0 (pa_cons (pv 1) (pa_cons pe_int pa_nil))))
      (Evl.pss_cut (ps_if (pt_cmpR op_lt (pv 8) pe_int (nomark _)) 
        (pss_cons (ps_par3 (i := 9) (j := 10) (l := 11) rfl nd rfl rfl rfl (by decide) (by decide) (by decide) rfl rfl rfl (pa_cons (pe_call GT hr1 (by rfl) gT FT.kp bT .nil pass0 (pa_cons (pv 1) (pa_cons pe_int pa_nil))) (pa_cons (pe_item_str pe_str (pe_call GT hr1 (by rfl) gT FT.kp bT .nil pass0 (pa_cons (pv 1) (pa_cons pe_int pa_nil))) (fun _ _ => rfl)) (pa_cons (pe_op op_add pe_int (pe_call GT hr1 (by rfl) gT FT.kp bT .nil pass0 (pa_cons (pv 1) (pa_cons pe_int pa_nil)))) pa_nil))) (by rfl))
        (pss_cons (ps_expr (pe_meth (pv 2) T.cl mP GP hr1 bP .nil pass0 (pa_cons (pe_ix ix_list (pv 3) (pv 9) (fun _ _ => rfl)) (pa_cons (pv 10) (pa_cons (pv 11) pa_nil)))))
        (pss_one (ps_dput hu (pe_ix ix_list (pv 6) (pv 9) (fun _ _ => rfl)) (pv 10) (pv 11) rfl)))) pss_nil)
      (Evl.pss_cut (ps_if (pt_cmpR op_eq (pv 8) pe_int (nomark _)) 
        (pss_cons (ps_expr (pe_bm PySem.F.plainAttrs_list PySem.F.slot_list_append PySem.F.type_list_append mt_append (pv 4) (pa_cons (pe_meth0 (pv 2) T.cl mM GM hr1 bM .nil pass0) pa_nil)))
        (pss_one (ps_expr (pe_bm PySem.F.plainAttrs_list PySem.F.slot_list_append PySem.F.type_list_append mt_append (pv 5) (pa_cons (pe_lst (pa_cons (pe_callTy call_dictD (by rfl) T.bi.dict (by decide +kernel) (pa_cons (pe_ix ix_list (pv 6) pe_int (fun _ _ => rfl)) pa_nil)) (pa_cons (pe_callTy call_dictD (by rfl) T.bi.dict (by decide +kernel) (pa_cons (pe_ix ix_list (pv 6) pe_int (fun _ _ => rfl)) pa_nil)) pa_nil))) pa_nil))))) pss_nil)
      (Evl.pss_cut (ps_if (PW.pt (pw_and (pt_cmpR op_eq (pv 8) pe_int (nomark _)) (pw_and1 (pt_cmpR (op_neD hv) (pv 4) (pe_lst pa_nil) (nomark _))))) 
        (pss_cons (ps_set (i := 12) nd rfl (.inl rfl) (pe_call GT hr1 (by rfl) gT FT.kp bT .nil pass0 (pa_cons (pv 1) (pa_cons (pe_callB call_len_seq (by rfl) T.bi.len (by decide +kernel) (pa_cons (pv 4) pa_nil)) pa_nil))))
        (pss_cons (ps_expr (pe_meth (pv 2) T.cl mB GB hr1 bB .nil pass0 (pa_cons (pe_ix ix_list (pv 4) (pv 12) (fun _ _ => rfl)) pa_nil)))
        (pss_cons (ps_set (i := 6) nd rfl (.inl rfl) (pe_lst (pa_cons (pe_callTy call_dictD (by rfl) T.bi.dict (by decide +kernel) (pa_cons (pe_ix ix_list (pe_ix ix_list (pv 5) (pv 12) (fun _ _ => rfl)) pe_int (fun _ _ => rfl)) pa_nil)) (pa_cons (pe_callTy call_dictD (by rfl) T.bi.dict (by decide +kernel) (pa_cons (pe_ix ix_list (pe_ix ix_list (pv 5) (pv 12) (fun _ _ => rfl)) pe_int (fun _ _ => rfl)) pa_nil)) pa_nil))))
        (pss_one (ps_par (i := 4) (j := 5) rfl nd rfl rfl (by decide) rfl rfl (pa_cons (pe_slice sl_list (pv 4) po_none (po_some (pe_op op_add (pv 12) pe_int))) (pa_cons (pe_slice sl_list (pv 5) po_none (po_some (pe_op op_add (pv 12) pe_int))) pa_nil)) (by rfl)))))) pss_nil)
      (pss_one (ps_if (pt_cmpR (GE.op_neV hv) (pv 3) (pv 6) (nomark _)) 
        (pss_one (ps_ret pe_bl)) pss_nil)))))))
    (pss_cons (ps_if (pt_cmpR (op_neD hv) (pv 4) (pe_lst pa_nil) (nomark _)) 
      (pss_cons (ps_expr (pe_meth (pv 2) T.cl mB GB hr1 bB .nil pass0 (pa_cons (pe_ix ix_list (pv 4) pe_int (fun _ _ => rfl)) pa_nil)))
      (pss_one (ps_ret (pe_cmpR (op_eqV hv) (pv 3) (pe_ix ix_list (pv 5) pe_int (fun _ _ => rfl)) (nomark _))))) pss_nil)
    (pss_cons (ps_expr (pe_meth (pv 2) T.cl mB GB hr1 bB .nil pass0 (pa_cons pe_int pa_nil)))
    (pss_one (ps_ret (pe_cmpR (op_eqV hv) (pv 3) (pe_lst (pa_cons pe_dnewK (pa_cons pe_dnewK pa_nil))) (nomark _)))))))))), ?_⟩
  refine ⟨_, rfl, a, ns, rfl, hS, hlen, fun H1 d ms s1 hd h1 _ => ?_⟩
  -- trail, tables, marks, held = ..
  intro p dx np ndx nex
  refine ⟨p, dx, rfl, upd_same, fun r hr0 => ⟨rfl, ?_⟩⟩
  have npr : p ≠ r := ne_of_none upd_same hr0
  generalize e2 : upd (upd (upd (upd H1 dx (.own p)) p (.ins C dx [])) r (.lst [])) p (.ins C dx (fl r)) = H2
  have ndr : dx ≠ r := ne_of_none (H := upd (upd H1 dx (.own p)) p (.ins C dx [])) ((upd_ne nex).trans upd_same) hr0
  have h2p : H2 p = some (.ins C dx (fl r)) := by rw [← e2, upd_same]
  have h2r : H2 r = some (.lst []) := by rw [← e2, upd_ne npr.symm, upd_same]
  have h1r : H1 r = none := by
    rw [upd_ne npr.symm, upd_ne ndr.symm] at hr0
    exact hr0
  have ndp : d ≠ p := ne_of_none h1 np
  have nddx : d ≠ dx := ne_of_none h1 ndx
  have ndr' : d ≠ r := ne_of_none h1 h1r
  have h2d : H2 d = some (.lst (ms.map V.int)) := by rw [← e2, upd_ne ndp, upd_ne ndr', upd_ne ndp, upd_ne nddx]; exact h1
  intro x0 f0 x1 f1
  refine ⟨by show 2 ≤ sizeLine; decide, fun tb ftb => ⟨Nat.zero_le _, fun ma fma => ⟨Nat.zero_le _, fun he fhe => ?_⟩⟩⟩
  refine ⟨by show 4 ≤ sizeLine; decide, fun q fq => ⟨q, _, rfl, SqT.of upd_same, rfl, _, _, rfl, _, _, rfl, _, _, rfl, _, _, rfl, rfl, ?_⟩⟩
  -- due = [{}, {}]
  intro y0 g0 y1 g1
  refine ⟨by show 2 ≤ sizeLine; decide, fun du fdu => ?_⟩
  have nw : ∀ {G : Hp} {a x : Addr} {o : HO}, G x = some o → G a = none → a ≠ x := fun e f z => by
    rw [← z, f] at e
    cases e
  -- the invariant at the start
  have L0 : LInv C (upd (upd (upd (upd (upd (upd (upd (upd (upd H2 x0 (.dK [])) x1 (.dK [])) tb (.lst [.ref x0, .ref x1])) ma (.lst [])) he (.lst [])) q (.tup [.ref p, .ref tb, .ref ma, .ref he])) y0 (.dK [])) y1 (.dK [])) du (.lst [.ref y0, .ref y1])) d p r tb du ma he (fun b => if b then x1 else x0) (fun b => if b then y1 else y0) ms (fun _ => []) [] [] [] := by
    generalize ea : upd H2 x0 (.dK []) = A0 at *
    generalize eb : upd A0 x1 (.dK []) = A1 at *
    generalize ec : upd A1 tb (.lst [.ref x0, .ref x1]) = A2 at *
    generalize ed : upd A2 ma (.lst []) = A3 at *
    generalize ee : upd A3 he (.lst []) = A4 at *
    generalize ef : upd A4 q (.tup [.ref p, .ref tb, .ref ma, .ref he]) = A5 at *
    generalize eg : upd A5 y0 (.dK []) = A6 at *
    generalize eh : upd A6 y1 (.dK []) = A7 at *
    generalize ei : upd A7 du (.lst [.ref y0, .ref y1]) = A8 at *
    have u0 : ∀ {x : Addr} {o : HO}, H2 x = some o → A0 x = some o := fun e => by rw [← ea, upd_ne (nw e f0).symm]; exact e
    have u1 : ∀ {x : Addr} {o : HO}, A0 x = some o → A1 x = some o := fun e => by rw [← eb, upd_ne (nw e f1).symm]; exact e
    have u2 : ∀ {x : Addr} {o : HO}, A1 x = some o → A2 x = some o := fun e => by rw [← ec, upd_ne (nw e ftb).symm]; exact e
    have u3 : ∀ {x : Addr} {o : HO}, A2 x = some o → A3 x = some o := fun e => by rw [← ed, upd_ne (nw e fma).symm]; exact e
    have u4 : ∀ {x : Addr} {o : HO}, A3 x = some o → A4 x = some o := fun e => by rw [← ee, upd_ne (nw e fhe).symm]; exact e
    have u5 : ∀ {x : Addr} {o : HO}, A4 x = some o → A5 x = some o := fun e => by rw [← ef, upd_ne (nw e fq).symm]; exact e
    have u6 : ∀ {x : Addr} {o : HO}, A5 x = some o → A6 x = some o := fun e => by rw [← eg, upd_ne (nw e g0).symm]; exact e
    have u7 : ∀ {x : Addr} {o : HO}, A6 x = some o → A7 x = some o := fun e => by rw [← eh, upd_ne (nw e g1).symm]; exact e
    have u8 : ∀ {x : Addr} {o : HO}, A7 x = some o → A8 x = some o := fun e => by rw [← ei, upd_ne (nw e fdu).symm]; exact e
    have b0 : A0 x0 = some (.dK []) := by rw [← ea, upd_same]
    have b1 : A1 x1 = some (.dK []) := by rw [← eb, upd_same]
    have b2 : A2 tb = some (.lst [.ref x0, .ref x1]) := by rw [← ec, upd_same]
    have b3 : A3 ma = some (.lst []) := by rw [← ed, upd_same]
    have b4 : A4 he = some (.lst []) := by rw [← ee, upd_same]
    have b6 : A6 y0 = some (.dK []) := by rw [← eg, upd_same]
    have b7 : A7 y1 = some (.dK []) := by rw [← eh, upd_same]
    have b8 : A8 du = some (.lst [.ref y0, .ref y1]) := by rw [← ei, upd_same]
    have w8 : ∀ {x : Addr} {o : HO}, A1 x = some o → A8 x = some o := fun e => u8 (u7 (u6 (u5 (u4 (u3 (u2 e))))))
    have v0 : ∀ {x : Addr} {o : HO}, H2 x = some o → A8 x = some o := fun e => w8 (u1 (u0 e))
    have x17 : A7 x1 = some (.dK []) := u7 (u6 (u5 (u4 (u3 (u2 b1)))))
    have x07 : A7 x0 = some (.dK []) := u7 (u6 (u5 (u4 (u3 (u2 (u1 b0))))))
    have x15 : A5 x1 = some (.dK []) := u5 (u4 (u3 (u2 b1)))
    have x05 : A5 x0 = some (.dK []) := u5 (u4 (u3 (u2 (u1 b0))))
    have d1 := u1 (u0 h2d)
    have r1 := u1 (u0 h2r)
    refine { dr := v0 h2d, tr := ⟨⟨dx, v0 h2p⟩, [], v0 h2r, .nil⟩, tbs := u8 (u7 (u6 (u5 (u4 (u3 b2))))), dus := b8, mas := u8 (u7 (u6 (u5 (u4 b3)))), hes := u8 (u7 (u6 (u5 b4))), t := fun b => ?_, u := fun b => ?_, good := fun _ => rfl, sorted := .nil, low := fun _ h => (nomatch h), held := .nil, s1 := ?_, s2 := ?_ }
    · cases b with
      | false => exact u8 x07
      | true => exact u8 x17
    · cases b with
      | false => exact u8 (u7 b6)
      | true => exact u8 b7
    · simp only [List.nodup_cons, List.mem_cons, List.not_mem_nil, or_false, not_or, not_false_eq_true, List.nodup_nil, and_true]
      have d7 : A7 d = some (.lst (ms.map V.int)) := u7 (u6 (u5 (u4 (u3 (u2 d1)))))
      have r7 : A7 r = some (.lst []) := u7 (u6 (u5 (u4 (u3 (u2 r1)))))
      have t7 := u7 (u6 (u5 (u4 (u3 b2))))
      refine ⟨⟨ndr', (nw d1 ftb).symm, (nw d7 fdu).symm, (nw (u2 d1) fma).symm, (nw (u3 (u2 d1)) fhe).symm⟩, ⟨(nw r1 ftb).symm, (nw r7 fdu).symm, (nw (u2 r1) fma).symm, (nw (u3 (u2 r1)) fhe).symm⟩, ⟨(nw t7 fdu).symm, (nw b2 fma).symm, (nw (u3 b2) fhe).symm⟩, ⟨nw (u7 (u6 (u5 (u4 b3)))) fdu, nw (u7 (u6 (u5 b4))) fdu⟩, (nw b3 fhe).symm⟩
    · rw [if_neg (show ¬ (false = true) by decide), if_pos rfl, if_neg (show ¬ (false = true) by decide), if_pos rfl]
      simp only [List.nodup_cons, List.mem_cons, List.not_mem_nil, or_false, not_or, not_false_eq_true, List.nodup_nil, and_true]
      exact ⟨⟨(nw b0 f1).symm, (nw x05 g0).symm, (nw (u6 x05) g1).symm⟩, ⟨(nw x15 g0).symm, (nw (u6 x15) g1).symm⟩, (nw b6 g1).symm⟩
  generalize (upd (upd (upd (upd (upd (upd (upd (upd (upd H2 x0 (.dK [])) x1 (.dK [])) tb (.lst [.ref x0, .ref x1])) ma (.lst [])) he (.lst [])) q (.tup [.ref p, .ref tb, .ref ma, .ref he])) y0 (.dK [])) y1 (.dK [])) du (.lst [.ref y0, .ref y1])) = H3 at L0 ⊢
  generalize (fun b => if b = true then x1 else x0) = ad at L0
  generalize (fun b => if b = true then y1 else y0) = ae0 at L0
  have small : ∀ {n : Nat}, n ≤ 1000 → n < sizeLine := fun h => Nat.lt_of_le_of_lt h (by decide)
  -- for turn in range(1 + ..)
  refine ⟨_, rfl, d, 60, ms, rfl, L0.dr, by decide, fun z ks z0 z1 kl => ⟨_, _, rfl, rfl, _, rfl, by omega, by omega, ?_⟩⟩
  refine for_range (lo := 0) (n := (1 + z).toNat) (PvL C a d p r tb ad) ⟨_, _, _, _, _, _, _, _, _, _, _, _, _, _, _, rfl, L0.draw ks, Nat.le_refl _, Nat.le_refl _⟩ ?_ ?_
  · rintro i σ H4 hi ⟨du, ma, he, ae, ms, S, st, mk, hs, v7, v8, v9, v10, v11, v12, rfl, L, len, ml⟩
    have hi60 : i < 60 := by omega
    -- deed = _law_take(draws, 5)
    refine ⟨_, rfl, d, 5, ms, rfl, L.dr, by decide, fun deed ks d0 d5 _ => ?_⟩
    have L := L.draw ks
    generalize upd H4 d (.lst (ks.map V.int)) = H5 at L ⊢
    refine ⟨PvD C a d p r tb ad (i + 1) i deed, ?_, ?_⟩
    · refine ⟨_, rfl, _, _, rfl, rfl, _, rfl, ite2 (fun _ => ?_) (fun _ => ⟨_, _, _, _, _, _, _, _, _, _, _, _, _, _, rfl, L, by omega, by omega⟩)⟩
      -- which, key, value = ..
      refine ⟨_, rfl, d, 2, ks, rfl, L.dr, by decide, fun z1 ks1 a0 a1 _ => ?_⟩
      have L := L.draw ks1
      refine ⟨_, rfl, d, 4, ks1, rfl, L.dr, by decide, fun z2 ks2 b0 b1 _ => ?_⟩
      have L := L.draw ks2
      have sz : ("abcd" : Str).cps.size = 4 := by decide +kernel
      have hc : ("abcd" : Str).cps[z2.toNat]? = some (("abcd" : Str).cps[z2.toNat]'(by omega)) := Array.getElem?_eq_getElem (by omega)
      refine ⟨_, z2, _, rfl, rfl, b0, by omega, ?_, hc, ?_⟩
      · show z2 < ((("abcd" : Str).cps.size : Nat) : Int)
        omega
      generalize (⟨#[("abcd" : Str).cps[z2.toNat]'(by omega)]⟩ : Str) = key
      refine ⟨_, rfl, d, 9, ks2, rfl, L.dr, by decide, fun z3 ks3 c0 c1 _ => ⟨_, _, rfl, rfl, _, _, _, rfl, ?_⟩⟩
      have L := L.draw ks3
      generalize upd (upd (upd H5 d (.lst (ks1.map V.int))) d (.lst (ks2.map V.int))) d (.lst (ks3.map V.int)) = H6 at L ⊢
      -- trail.put(tables[which], key, value)
      obtain ⟨c, hc2⟩ := two a0 a1
      obtain ⟨⟨dx1, hp⟩, _⟩ := id L.tr
      have fine := (L.good.fine c).2
      refine ⟨_, rfl, p, dx1, _, rfl, hp, fl_no r (by decide +kernel), _, rfl, _, rfl, tb, _, _, _, rfl, rfl, SqL.of L.tbs, hc2 ad, _, rfl, _, rfl, ?_⟩
      refine ⟨p, r, ad, st, c, key, 1 + z3, S c, rfl, L.tr, L.t c, by omega, by omega, fun H7 tr7 hc7 k7 => ?_⟩
      obtain ⟨q1, q2, L8⟩ := L.put tr7 hc7 k7
      refine ⟨_, rfl, _, rfl, _, rfl, du, _, _, _, rfl, rfl, SqL.of q2, hc2 ae, _, rfl, ae c, _, rfl, DPut.k (k := Sum.inr key) q1 (small (by omega)), ?_⟩
      exact ⟨_, _, _, _, _, _, _, _, _, _, _, _, _, _, rfl, L8, (by show st.length + 1 ≤ i + 1; omega), by omega⟩
    · rintro σ H6 ⟨du, ma, he, ae, ms, S, st, mk, hs, v7, v9, v10, v11, v12, rfl, L, len, ml⟩
      refine ⟨PvD C a d p r tb ad (i + 1) (i + 1) deed, ?_, ?_⟩
      · refine ⟨_, rfl, rfl, _, rfl, ite2 (fun _ => ?_) (fun _ => ⟨_, _, _, _, _, _, _, _, _, _, _, _, _, _, rfl, L, by omega, by omega⟩)⟩
        -- marks.append(trail.mark())
        obtain ⟨⟨dx1, hp⟩, _⟩ := id L.tr
        have hl := Paired.length L.held
        refine ⟨_, rfl, .inl ⟨rfl, _, SqL.of L.mas⟩, _, rfl, p, dx1, _, rfl, hp, fl_no r (by decide +kernel), p, r, ad, st, rfl, L.tr, ma, _, _, rfl, rfl, L.mas, small (by unfold nats; rw [List.length_map]; omega), ?_⟩
        have h1he : upd H6 ma (.lst (nats mk ++ [.int (st.length : Int)])) he = some (.lst (hs.map V.ref)) := (upd_ne (nn L.s1 5 4)).trans L.hes
        have h1du : upd H6 ma (.lst (nats mk ++ [.int (st.length : Int)])) du = some (.lst [.ref (ae false), .ref (ae true)]) := (upd_ne (nn L.s1 3 4)).trans L.dus
        have h1ae : ∀ b, upd H6 ma (.lst (nats mk ++ [.int (st.length : Int)])) (ae b) = some (.dK (S b)) := fun b => (upd_ne (dne (L.u b) L.mas)).trans (L.u b)
        refine ⟨_, rfl, .inl ⟨rfl, _, SqL.of h1he⟩, _, rfl, du, _, _, _, rfl, rfl, SqL.of h1du, at_of (j := 0) rfl rfl, ae false, S false, rfl, Rd.of (h1ae false), fun x0 f0 => ?_⟩
        have n0 : ∀ {x : Addr} {o : HO}, upd H6 ma (.lst (nats mk ++ [.int (st.length : Int)])) x = some o → x ≠ x0 := fun e z => by
          rw [z, f0] at e
          cases e
        refine ⟨_, rfl, du, _, _, _, rfl, rfl, SqL.of ((upd_ne (n0 h1du)).trans h1du), at_of (j := 1) rfl rfl, ae true, S true, rfl, Rd.of ((upd_ne (n0 (h1ae true))).trans (h1ae true)), fun x1 f1 => ?_⟩
        refine ⟨by show 2 ≤ sizeLine; decide, fun h f2 => ?_⟩
        obtain ⟨q1, L8⟩ := L.mark rfl f0 rfl f1 rfl f2 rfl
        refine ⟨he, _, _, rfl, rfl, q1, small (by rw [List.length_map]; omega), ?_⟩
        exact ⟨_, _, _, _, _, _, _, _, _, _, _, _, _, _, rfl, L8, len, by rw [List.length_append]; show mk.length + 1 ≤ i + 1; omega⟩
      · rintro σ H6 ⟨du, ma, he, ae, ms, S, st, mk, hs, v7, v9, v10, v11, v12, rfl, L, len, ml⟩
        refine ⟨PvD C a d p r tb ad (i + 1) (i + 1) deed, ?_, ?_⟩
        · refine ⟨_, rfl, rfl, _, rfl, ?_⟩
          cases hd4 : decide (V.int deed = V.int 4) with
          | false => exact iteF (iteF ⟨_, _, _, _, _, _, _, _, _, _, _, _, _, _, rfl, L, len, ml⟩)
          | true =>
          refine iteT ⟨_, rfl, Nat.zero_le _, fun e fe => ⟨_, _, .lst (SqL.of ((upd_ne (ne_of_none L.mas fe)).trans L.mas)) (dpNats mk), .lst (SqL.of upd_same) .nil, shapedNats mk, rfl, _, rfl, ?_⟩⟩
          have kn : Kp H6 (upd H6 e (.lst [])) [] := Kp.new fe
          have Le := L.more kn
          generalize upd H6 e (.lst []) = H7 at Le ⊢
          cases mk with
          | nil => exact iteF ⟨_, _, _, _, _, _, _, _, _, _, _, _, _, _, rfl, Le, len, ml⟩
          | cons m0 mr =>
          refine iteT ?_
          generalize hmk : m0 :: mr = mk at *
          have mpos : 0 < mk.length := by rw [← hmk]; exact Nat.succ_pos _
          have nl : (nats mk).length = mk.length := by unfold nats; rw [List.length_map]
          -- place = _law_take(draws, len(marks))
          refine ⟨_, rfl, _, rfl, ma, _, rfl, .inl (SqL.of Le.mas), d, _, _, rfl, Le.dr, by rw [nl]; omega, fun place ks p0 p1 _ => ?_⟩
          rw [nl] at p1
          have L := Le.draw ks
          generalize upd H7 d (.lst (ks.map V.int)) = H8 at L ⊢
          obtain ⟨j, rfl⟩ : ∃ j : Nat, place = (j : Int) := ⟨place.toNat, by omega⟩
          have jl : j < mk.length := by omega
          have hm : mk[j]? = some (mk[j]'jl) := List.getElem?_eq_getElem jl
          generalize mk[j]'jl = m at hm
          obtain ⟨h, hh, ⟨x, q1, q2, q3⟩, q4⟩ := pairedAt L.held hm
          obtain ⟨⟨dx1, hp⟩, us, hr9, _⟩ := id L.tr
          have hmN : (nats mk)[j]? = some (.int (m : Int)) := by unfold nats; rw [List.getElem?_map, hm]; rfl
          -- trail.back(marks[place])
          refine ⟨_, rfl, p, dx1, _, rfl, hp, fl_no r (by decide +kernel), _, rfl, _, rfl, ma, _, _, _, rfl, rfl, SqL.of L.mas, at_of (j := j) rfl hmN, ?_⟩
          refine ⟨p, r, ad, st, m, S, rfl, L.tr, L.t, L.ad2 (by decide), L.good, by omega, fun H9 tr9 hS9 k9 => ?_⟩
          simp only [List.mem_cons, List.not_mem_nil, or_false, not_or] at q4
          have lk : ∀ {y : Addr} {ys : List V}, H8 y = some (.lst ys) → y ≠ r → H9 y = some (.lst ys) := fun e n => k9.keep _ _ e (nm3 n (dne (L.t false) e).symm (dne (L.t true) e).symm)
          have hes9 := lk L.hes (nn L.s1 5 1)
          have mas9 := lk L.mas (nn L.s1 4 1)
          have h9 := lk q1 q4.2.1
          have x9 : ∀ b, H9 (x b) = some (.dK (unwind S st (st.length - m) b)) := fun b => k9.keep _ _ (q2 b) fun z => by
            have w := q3 b
            simp only [List.mem_cons, List.not_mem_nil, or_false, not_or] at w z
            rcases z with z | z | z
            · exact dne (q2 b) hr9 z
            · exact w.1 z
            · exact w.2.1 z
          have hhN : (hs.map V.ref)[j]? = some (.ref h) := by rw [List.getElem?_map, hh]; rfl
          -- due = [dict(held[place][0]), dict(held[place][1])]
          refine ⟨_, rfl, _, rfl, he, _, _, _, rfl, rfl, SqL.of hes9, at_of (j := j) rfl hhN, h, _, _, _, rfl, rfl, SqL.of h9, at_of (j := 0) rfl rfl, x false, _, rfl, Rd.of (x9 false), fun y0 f0 => ?_⟩
          have w0 : ∀ {y : Addr} {o : HO}, H9 y = some o → upd H9 y0 (.dK (unwind S st (st.length - m) false)) y = some o := fun e => (upd_ne (nw e f0).symm).trans e
          refine ⟨_, rfl, _, rfl, he, _, _, _, rfl, rfl, SqL.of (w0 hes9), at_of (j := j) rfl hhN, h, _, _, _, rfl, rfl, SqL.of (w0 h9), at_of (j := 1) rfl rfl, x true, _, rfl, Rd.of (w0 (x9 true)), fun y1 f1 => ?_⟩
          have w1 : ∀ {y : Addr} {o : HO}, H9 y = some o → upd (upd H9 y0 (.dK (unwind S st (st.length - m) false))) y1 (.dK (unwind S st (st.length - m) true)) y = some o := fun e => (upd_ne (nw (w0 e) f1).symm).trans (w0 e)
          refine ⟨by show 2 ≤ sizeLine; decide, fun du' f2 => ?_⟩
          have w2 : ∀ {y : Addr} {o : HO}, H9 y = some o → upd (upd (upd H9 y0 (.dK (unwind S st (st.length - m) false))) y1 (.dK (unwind S st (st.length - m) true))) du' (.lst [.ref y0, .ref y1]) y = some o := fun e => (upd_ne (nw (w1 e) f2).symm).trans (w1 e)
          have ct : ∀ (ys : List V), ys.length = mk.length → cutV ys none (some ((j : Int) + 1)) = ys.take (j + 1) := fun ys e => cut_take ys (j + 1) (by omega)
          -- marks, held = marks[:place + 1], held[:place + 1]
          refine ⟨_, rfl, _, rfl, _, _, rfl, rfl, _, rfl, ma, _, rfl, SqL.of (w2 mas9), fun ma' f3 => ?_⟩
          rw [ct _ nl]
          refine ⟨_, rfl, _, rfl, _, _, rfl, rfl, _, rfl, he, _, rfl, SqL.of ((upd_ne (nw (w2 hes9) f3).symm).trans (w2 hes9)), fun he' f4 => ?_⟩
          rw [ct _ (by rw [List.length_map]; exact (Paired.length L.held).symm)]
          have L10 := L.back hm hh tr9 hS9 k9 f0 rfl f1 rfl f2 rfl f3 rfl f4 rfl
          exact ⟨_, _, rfl, _, _, _, _, _, _, _, _, _, _, _, _, _, _, rfl, L10, by rw [List.length_drop]; omega, by rw [List.length_take]; omega⟩
        · rintro σ H6 ⟨du, ma, he, ae, ms, S, st, mk, hs, v7, v9, v10, v11, v12, rfl, L, len, ml⟩
          refine ⟨_, rfl, _, rfl, 2, tb, du, _, _, by decide, rfl, rfl, SqL.of L.tbs, SqL.of L.dus, .cons (eqTabs (L.good.fine false).1 (L.t false) (L.u false)) (.cons (eqTabs (L.good.fine true).1 (L.t true) (L.u true)) .nil), _, rfl, iteF ?_⟩
          exact ⟨_, _, _, _, _, _, _, _, _, _, _, _, _, _, _, rfl, L, len, ml⟩
  · rintro σ H4 ⟨du, ma, he, ae, ms, S, st, mk, hs, v7, v8, v9, v10, v11, v12, rfl, L, len, ml⟩
    have hn60 : (1 + z).toNat ≤ 60 := by omega
    -- if marks != []
    refine ⟨_, rfl, Nat.zero_le _, fun e fe => ⟨_, _, .lst (SqL.of ((upd_ne (ne_of_none L.mas fe)).trans L.mas)) (dpNats mk), .lst (SqL.of upd_same) .nil, shapedNats mk, rfl, _, rfl, ?_⟩⟩
    have Le := L.more (Kp.new (o := .lst []) fe)
    generalize upd H4 e (.lst []) = H5 at Le ⊢
    obtain ⟨⟨dx1, hp⟩, us, hr9, _⟩ := id Le.tr
    have fin : ∀ (m : Nat) (T : S2), unwind S st (st.length - m) = T → ∀ b, Fine (T b) := fun m T e b => by
      rw [← e]
      exact ((good_unwind _ _ _ (Nat.sub_le _ _) L.good).fine b).1
    cases mk with
    | nil =>
      refine iteF ?_
      -- trail.back(0); return tables == [{}, {}]
      refine ⟨_, rfl, p, dx1, _, rfl, hp, fl_no r (by decide +kernel), ?_⟩
      refine ⟨p, r, ad, st, 0, S, rfl, Le.tr, Le.t, Le.ad2 (by decide), Le.good, by omega, fun H6 tr6 hS6 k6 => ?_⟩
      have tb6 := k6.keep _ _ Le.tbs (nm3 (nn Le.s1 2 1) (dne (Le.t false) Le.tbs).symm (dne (Le.t true) Le.tbs).symm)
      have emp : ∀ b, unwind S st (st.length - 0) b = [] := by
        have g := good_unwind (st.length - 0) S st (Nat.sub_le _ _) L.good
        rw [Nat.sub_zero, List.drop_length] at g
        rw [Nat.sub_zero]
        exact g
      refine ⟨_, rfl, fun y0 f0 y1 f1 => ⟨by show 2 ≤ sizeLine; decide, fun l fl0 => ?_⟩⟩
      have u0 : ∀ {x : Addr} {o : HO}, H6 x = some o → upd H6 y0 (.dK []) x = some o := fun e => (upd_ne (nw e f0).symm).trans e
      have u1 : ∀ {x : Addr} {o : HO}, upd H6 y0 (.dK []) x = some o → upd (upd H6 y0 (.dK [])) y1 (.dK []) x = some o := fun e => (upd_ne (nw e f1).symm).trans e
      have u2 : ∀ {x : Addr} {o : HO}, upd (upd H6 y0 (.dK [])) y1 (.dK []) x = some o → upd (upd (upd H6 y0 (.dK [])) y1 (.dK [])) l (.lst [.ref y0, .ref y1]) x = some o := fun e => (upd_ne (nw e fl0).symm).trans e
      have e0 : ∀ b, upd (upd (upd H6 y0 (.dK [])) y1 (.dK [])) l (.lst [.ref y0, .ref y1]) (ad b) = some (.dK []) := fun b => by
        have q := hS6 b
        rw [emp b] at q
        exact u2 (u1 (u0 q))
      have f0' : Fine [] := ⟨List.nodup_nil, fun q hq => nomatch hq⟩
      exact ⟨2, by decide, .inl ⟨tb, l, _, _, rfl, rfl, SqL.of (u2 (u1 (u0 tb6))), SqL.of upd_same, .cons (eqTabs f0' (e0 false) (u2 (u1 upd_same))) (.cons (eqTabs f0' (e0 true) (u2 upd_same)) .nil)⟩, k _⟩
    | cons m0 mr =>
      refine iteT ?_
      -- trail.back(marks[0]); return tables == held[0]
      obtain ⟨h, hh, ⟨x, q1, q2, q3⟩, q4⟩ := pairedAt Le.held (show (m0 :: mr)[0]? = some m0 from rfl)
      refine ⟨_, rfl, p, dx1, _, rfl, hp, fl_no r (by decide +kernel), _, rfl, ma, _, _, _, rfl, rfl, SqL.of Le.mas, at_of (j := 0) rfl rfl, ?_⟩
      refine ⟨p, r, ad, st, m0, S, rfl, Le.tr, Le.t, Le.ad2 (by decide), Le.good, by omega, fun H9 tr9 hS9 k9 => ?_⟩
      simp only [List.mem_cons, List.not_mem_nil, or_false, not_or] at q4
      have lk : ∀ {y : Addr} {ys : List V}, H5 y = some (.lst ys) → y ≠ r → H9 y = some (.lst ys) := fun e n => k9.keep _ _ e (nm3 n (dne (Le.t false) e).symm (dne (Le.t true) e).symm)
      have x9 : ∀ b, H9 (x b) = some (.dK (unwind S st (st.length - m0) b)) := fun b => k9.keep _ _ (q2 b) fun z => by
        have w := q3 b
        simp only [List.mem_cons, List.not_mem_nil, or_false, not_or] at w z
        rcases z with z | z | z
        · exact dne (q2 b) hr9 z
        · exact w.1 z
        · exact w.2.1 z
      have hhN : (hs.map V.ref)[0]? = some (.ref h) := by rw [List.getElem?_map, hh]; rfl
      refine ⟨_, rfl, _, rfl, he, _, _, _, rfl, rfl, SqL.of (lk Le.hes (nn Le.s1 5 1)), at_of (j := 0) rfl hhN, ?_⟩
      exact ⟨2, by decide, .inl ⟨tb, h, _, _, rfl, rfl, SqL.of (lk Le.tbs (nn Le.s1 2 1)), SqL.of (lk q1 q4.2.1), .cons (eqTabs (fin _ _ rfl false) (hS9 false) (x9 false)) (.cons (eqTabs (fin _ _ rfl true) (hS9 true) (x9 true)) .nil)⟩, k _⟩
end
end K16

set_option Elab.async false
set_option maxRecDepth 100000
set_option maxHeartbeats 4000000
namespace K16
open PySem L2
/-! ### what the top has left, the head -/
theorem all_mk {l : PySem.W.OpenLaw} {w : World} {K : PySem.W.Frag} {h : Heap} {mg : Str → Option Value} {fa C fI fP fM fB fD fT fL : Addr} (X : K.In h) (G : h.Ns mainGlobals mg) (hfa : mg "law" = some (.ref fa))
    {odI anI odP anP odM anM odB anB odD anD odT anT odL anL : Option Addr} {slI slP slM slB slD slT slL : Array (Option Value)} {ocI kVI dcI pmI cdI ctI ocP kVP dcP pmP cdP ctP ocM kVM dcM pmM cdM ctM ocB kVB dcB pmB cdB ctB ocD kVD dcD pmD cdD ctD ocT kVT dcT pmT cdT ctT ocL kVL dcL pmL cdL ctL : Value} 
    (aC : PySem.W.nsIn K mainGlobals "Trail" = some (some (.ref C)))
    (aI : PySem.W.findIn K (.ref C) "__init__" = some (some (.ref fI)))
    (iI : PySem.W.isFn K (.ref fI) = true)
    (lI : K.lookup fI = some ⟨ocI, odI, .func (PySem.W.fnOf "__init__" "Trail.__init__" (defArgs sInit) (defBody sInit) (defScope sInit) .none kVI dcI pmI anI cdI ctI), slI⟩)
    (cI : PySem.W.codeIn K cdI "Trail.__init__" = true)
    (kI : PySem.W.keepIn K (.ref fI) = true)
    (aP : PySem.W.findIn K (.ref C) "put" = some (some (.ref fP)))
    (iP : PySem.W.isFn K (.ref fP) = true)
    (lP : K.lookup fP = some ⟨ocP, odP, .func (PySem.W.fnOf "put" "Trail.put" (defArgs sPut) (defBody sPut) (defScope sPut) .none kVP dcP pmP anP cdP ctP), slP⟩)
    (cP : PySem.W.codeIn K cdP "Trail.put" = true)
    (kP : PySem.W.keepIn K (.ref fP) = true)
    (aM : PySem.W.findIn K (.ref C) "mark" = some (some (.ref fM)))
    (iM : PySem.W.isFn K (.ref fM) = true)
    (lM : K.lookup fM = some ⟨ocM, odM, .func (PySem.W.fnOf "mark" "Trail.mark" (defArgs sMark) (defBody sMark) (defScope sMark) .none kVM dcM pmM anM cdM ctM), slM⟩)
    (cM : PySem.W.codeIn K cdM "Trail.mark" = true)
    (kM : PySem.W.keepIn K (.ref fM) = true)
    (aB : PySem.W.findIn K (.ref C) "back" = some (some (.ref fB)))
    (iB : PySem.W.isFn K (.ref fB) = true)
    (lB : K.lookup fB = some ⟨ocB, odB, .func (PySem.W.fnOf "back" "Trail.back" (defArgs sBack) (defBody sBack) (defScope sBack) .none kVB dcB pmB anB cdB ctB), slB⟩)
    (cB : PySem.W.codeIn K cdB "Trail.back" = true)
    (kB : PySem.W.keepIn K (.ref fB) = true)
    (aD : PySem.W.nsIn K mainGlobals "_law_draws" = some (some (.ref fD)))
    (lD : K.lookup fD = some ⟨ocD, odD, .func (PySem.W.fnOf "_law_draws" "_law_draws" (defArgs sDraws) (defBody sDraws) (defScope sDraws) .none kVD dcD pmD anD cdD ctD), slD⟩)
    (cD : PySem.W.codeIn K cdD "_law_draws" = true)
    (kD : PySem.W.keepIn K (.ref fD) = true)
    (aT : PySem.W.nsIn K mainGlobals "_law_take" = some (some (.ref fT)))
    (lT : K.lookup fT = some ⟨ocT, odT, .func (PySem.W.fnOf "_law_take" "_law_take" (defArgs sTake) (defBody sTake) (defScope sTake) .none kVT dcT pmT anT cdT ctT), slT⟩)
    (cT : PySem.W.codeIn K cdT "_law_take" = true)
    (kT : PySem.W.keepIn K (.ref fT) = true)
    (aL : PySem.W.nsIn K mainGlobals "law" = some (some (.ref fL)))
    (lL : K.lookup fL = some ⟨ocL, odL, .func (PySem.W.fnOf "law" "law" (defArgs sLaw) (defBody sLaw) (defScope sLaw) .none kVL dcL pmL anL cdL ctL), slL⟩)
    (cL : PySem.W.codeIn K cdL "law" = true)
    (kL : PySem.W.keepIn K (.ref fL) = true)
    (pgC : PySem.W.plainGet K C Str.empty = true)
    (hdC : PySem.W.hasDictIn K C = true)
    (poC : PySem.W.plainOver K C = true)
    (saC : PySem.W.findIn K (.ref C) "__setattr__" = some (some (.builtin "object.__setattr__")))
    (mkC : PySem.W.makesIn K C = true)
    (kcC : PySem.W.keepIn K (.ref C) = true)
    (nC0 : PySem.W.findIn K (.ref C) "rows" = some none)
    (zabs : PySem.W.nsIn K mainGlobals "abs" = some none)
    (zint : PySem.W.nsIn K mainGlobals "int" = some none)
    (zrange : PySem.W.nsIn K mainGlobals "range" = some none)
    (zlen : PySem.W.nsIn K mainGlobals "len" = some none)
    (zlist : PySem.W.nsIn K mainGlobals "list" = some none)
    (zreversed : PySem.W.nsIn K mainGlobals "reversed" = some none)
    (zdict : PySem.W.nsIn K mainGlobals "dict" = some none)
    : ∃ fd : FuncData, (∀ (s : Shared) (v : Value), BindsTo s fd ⟨[v], []⟩ [("script", v)]) ∧ ∀ base : Heap, K.In base → base.Ns mainGlobals mg → FnOk l.prog w K mg base CX0 3 fa fd ["script"] (spLaw K) := by
  have e := hfa.symm.trans (PySem.W.mg_of X G aL)
  cases e
  have FI := fun_mk (st := sInit) lI cI kI
  have FP := fun_mk (st := sPut) lP cP kP
  have FM := fun_mk (st := sMark) lM cM kM
  have FB := fun_mk (st := sBack) lB cB kB
  have FD := fun_mk (st := sDraws) lD cD kD
  have FT := fun_mk (st := sTake) lT cT kT
  have FL := fun_mk (st := sLaw) lL cL kL
  have bI := FI.binds (ps := ["self"]) fun _ _ _ _ _ _ us hl => match us, hl with | [_], _ => rfl
  have bP := FP.binds (ps := ["self", "table", "key", "value"]) fun _ _ _ _ _ _ us hl => match us, hl with | [_, _, _, _], _ => rfl
  have bM := FM.binds (ps := ["self"]) fun _ _ _ _ _ _ us hl => match us, hl with | [_], _ => rfl
  have bB := FB.binds (ps := ["self", "mark"]) fun _ _ _ _ _ _ us hl => match us, hl with | [_, _], _ => rfl
  have bD := FD.binds (ps := ["script"]) fun _ _ _ _ _ _ us hl => match us, hl with | [_], _ => rfl
  have bT := FT.binds (ps := ["draws", "bound"]) fun _ _ _ _ _ _ us hl => match us, hl with | [_, _], _ => rfl
  have z : ∀ {x : Str}, PySem.W.nsIn K mainGlobals x = some none → mg x = none := fun e => PySem.W.mg_none_of X G e
  have T : Txt K mg C := ⟨⟨pgC, hdC, poC, saC⟩, nC0, PySem.W.mg_of X G aC, ⟨z zabs, z zint, z zrange, z zlen, z zlist, z zreversed, z zdict⟩⟩
  exact ⟨PySem.W.fnOf "law" "law" (defArgs sLaw) (defBody sLaw) (defScope sLaw) .none kVL dcL pmL anL cdL ctL, fun s v => .of_eq rfl, fun base _ _ => ok_law FL T ⟨mkC, aI, iI, kcC⟩ FI bI FP bP ⟨aP, iP, kP⟩ FM bM ⟨aM, iM, kM⟩ FB bB ⟨aB, iB, kB⟩ FD bD (PySem.W.mg_of X G aD) FT bT (PySem.W.mg_of X G aT)⟩
theorem walk {l : PySem.W.OpenLaw} {q : Program} {loose : List Str} {XP : (Str → Option Value) → Heap → Prop} {YP : World → Heap → Prop} {d : DefRec} {K : Params → PySem.W.Frag} (hn : l.most = some 63) (hdf : d.params.defaults = [])
    (hY : ∀ (w : World) (h : Heap), YP w h → (K w.params).In h)
    (F : ∀ (w : World) (mg : Str → Option Value) (fa : Addr) (h : Heap), (K w.params).In h → h.Ns mainGlobals mg → mg d.name = some (.ref fa) →
      ∃ fd : FuncData, (∀ (s : Shared) (u : Value), BindsTo s fd ⟨[u], []⟩ [("script", u)]) ∧ ∀ base : Heap, (K w.params).In base → base.Ns mainGlobals mg → FnOk l.prog w (K w.params) mg base CX0 3 fa fd ["script"] (spLaw (K w.params))) :
    PySem.W.WalkO q loose XP YP l.row.toRowW d [] (fun f vs => PySem.call f vs) :=
  L2.walk_of (n := 63) (k := 3) (x := "script") (CX := fun _ => CX0) (sp := fun w => spLaw (K w.params)) hn (by decide) hdf ⟨rfl, by decide, by decide⟩ hY F (fun _ _ a ns hl _ hS => ⟨a, ns, rfl, hS, hl, fun _ => rfl⟩) fun _ _ _ _ _ z => z
end K16
open PySem PySem.W PyProof.Rows
set_option maxRecDepth 100000 in
set_option maxHeartbeats 0 in
theorem PySem.Challenge.cw_equalsgrown_k16_whole_trails_of_tables_holds : PySem.Challenge.rw_equalsgrown_k16_whole_trails_of_tables.Holds := by
  w_on; o_law; k_head; (case hw => w_witness2)
  k_fill
  refine K16.walk (l := PySem.Challenge.rw_equalsgrown_k16_whole_trails_of_tables) rfl rfl (fun w h Y => PySem.W.kIn_of Y) ?F
  case F =>
    intro w mg fa h KX G hmg
    refine' K16.all_mk KX G hmg ?aC ?aI ?iI ?lI ?cI ?kI ?aP ?iP ?lP ?cP ?kP ?aM ?iM ?lM ?cM ?kM ?aB ?iB ?lB ?cB ?kB ?aD ?lD ?cD ?kD ?aT ?lT ?cT ?kT ?aL ?lL ?cL ?kL ?pgC ?hdC ?poC ?saC ?mkC ?kcC ?nC0 ?zabs ?zint ?zrange ?zlen ?zlist ?zreversed ?zdict
    (case aC => k_is)
    (case aI => k_is)
    (case iI => k_is)
    (case lI => k_is)
    (case cI => k_is)
    (case kI => k_is)
    (case aP => k_is)
    (case iP => k_is)
    (case lP => k_is)
    (case cP => k_is)
    (case kP => k_is)
    (case aM => k_is)
    (case iM => k_is)
    (case lM => k_is)
    (case cM => k_is)
    (case kM => k_is)
    (case aB => k_is)
    (case iB => k_is)
    (case lB => k_is)
    (case cB => k_is)
    (case kB => k_is)
    (case aD => k_is)
    (case lD => k_is)
    (case cD => k_is)
    (case kD => k_is)
    (case aT => k_is)
    (case lT => k_is)
    (case cT => k_is)
    (case kT => k_is)
    (case aL => k_is)
    (case lL => k_is)
    (case cL => k_is)
    (case kL => k_is)
    (case pgC => k_is)
    (case hdC => k_is)
    (case poC => k_is)
    (case saC => k_is)
    (case mkC => k_is)
    (case kcC => k_is)
    (case nC0 => k_is)
    (case zabs => k_is)
    (case zint => k_is)
    (case zrange => k_is)
    (case zlen => k_is)
    (case zlist => k_is)
    (case zreversed => k_is)
    (case zdict => k_is)
#print axioms PySem.Challenge.cw_equalsgrown_k16_whole_trails_of_tables_holds
