import PyProof.Rows.All
import Wide.All
import OpenK.AllK
import Wide.FinOn
import HandS.Base
import HandS.Call
import HandS.List
import HandS.Comp
import HandS.Ends
import HandS.Dict
import HandS.Iter
import HandS.Words
import HandS.WordsList
import HandS.More
import HandS.Rev
import HandS.DictEq
import HandS.GenList
import HandS.AnyAll
import PyProof.GenArm
import HandS.ForMost
import HandS.DeepEq
import HandS.Evl
import HandS.IsInst
import HandS.TryOnly
import HandS.ForExc
import HandS.Hot
import HandS.ExcCtx
import HandS.HotCalls
import HandS.ExcIs
import HandS.DictComp
import PyProof.EnumMake
import KE.GoesMore
import HandS.Walk
import HandS.Star
import HandS.EndBits
import HandS.Style
import HandS.TupAny
import HandS.TupMul
import HandS.Text
import PySem.Challenge.RW_equalsgrown_k08_whole_meanings
import HandS.Zip
import HandS.Strs
import HandS.EndTab
set_option Elab.async false
set_option maxRecDepth 100000
set_option maxHeartbeats 4000000
/-! list(reversed(xs)); xs != ys where both are equal -/
namespace GE
open PySem PySem.Spec PyProof.Rows L2
section
variable {prog : Program} {w : World} {A : Around} {E : Value → Shared → Prop} {s : Shared}

/-- the empty list at S takes all that the reversed iterator it gives -/
theorem fillRev {R : Result → Shared → Prop} {it l S : Addr} {items : Array Value} {res : Value} {c₀ : Nat} (hh : A.handled = none)
    (hit : s.heap.IsRevIter it l ((items.size : Int) - 1)) (hl : s.heap.IsList l items) (nli : l ≠ it) (hz : items.size ≤ sizeLine) (nSi : S ≠ it) (nSl : S ≠ l)
    (hS : s.heap.get? S = some { cls := .type "list", data := .seq #[] c₀ })
    (goal : ∀ h' tk acc c', (∀ b o, b ≠ S → b ≠ it → s.heap.get? b = some o → h'.get? b = some o) → h'.get? S = some { cls := .type "list", dict := none, data := .seq acc c', slots := #[] } →
      ItemsOf (fun i v => items[items.size - 1 - i]? = some v) acc items.size → R (.ok (.ret res)) { s with heap := h', toks := tk }) :
    wpAny (model prog w) A.in1 (Builtin.List.listExtendWith (.ref S) (.ref it) res)
      (fun fin s' => match fin with | .done f => R (.ok f) s' | .again c' => c'.quiet = true ∧ codeAny (model prog w) A c' R s') (fun e s' => R (.error e) s') s := by
  have walk := (Walks.listRev (prog := prog) (w := w) (A := A.in1) hh it l nli items).toS
  have ty : s.TypeIs (.ref it) "list_reverseiterator" := hit.typeIs
  have ne1 : Builtin.List.listSameRef (.ref S) (.ref it) = false := by simp [Builtin.List.listSameRef, nSi]
  have nin : S ∉ [it, l] := by
    intro q
    rcases List.mem_cons.mp q with q | q
    · exact nSi q
    · exact nSl (List.mem_singleton.mp q)
  unfold Builtin.List.listExtendWith
  refine wpAny_bind (wpAny_typeOf ty ?_)
  rw [if_neg (by rw [ne1]; decide)]
  refine wpAny_bind (wpAny_pyIter_revIter hit ?_)
  refine wpAny_bind (wpAny_holding ?_)
  unfold Builtin.List.listLengthHint
  refine wpAny_bind (wpAny_specialOf ty RT.nolen_lri ?_)
  show wpAny _ A.in1 (specialOf (Value.ref it) (Str.ofString "__length_hint__") >>= _) _ _ _
  refine wpAny_bind (wpAny_specialOf ty RT.hint_lri ?_)
  generalize hid : ("list_reverseiterator.__length_hint__" : String) = id0
  wp_delta
  rw [show splitId id0 = some ("list_reverseiterator", "__length_hint__") from by subst hid; decide +kernel]
  subst hid
  refine wpAny_bind (wpAny_isInstance (b := true) ty (by rw [isSubtype_type]; kernel_rfl) ?_)
  refine wpAny_pure ?_
  rw [if_neg (by decide)]
  have z0 : (items.size : Int) - 1 - ((0 : Nat) : Int) = (items.size : Int) - 1 := by omega
  refine wpAny_pure ⟨plainId_quiet F.plain_extend_loop _, codeAny_extend_loopS walk hz _ nin _ items.size 0 _ _ _ rfl (Nat.zero_le _) ⟨Nat.zero_le _, by rw [z0]; exact hit, hl⟩ hS (ItemsOf.nil _) fun s' acc' c' hm hS' hacc => ?_⟩
  rw [Moved.eq_with hm]
  refine goal s'.heap s'.toks acc' c' (fun b o hb hb2 e => hm.heap b o (fun mem => ?_) e) hS' hacc
  rcases List.mem_cons.mp mem with q | q
  · exact hb q
  · exact hb2 (List.mem_singleton.mp q)

/-- list(it) of such an iterator -/
theorem listOfRev {it l : Addr} {items : Array Value} {Q : Value → Shared → Prop} (hh : A.handled = none)
    (hit : s.heap.IsRevIter it l ((items.size : Int) - 1)) (hl : s.heap.IsList l items) (nli : l ≠ it) (hz : items.size ≤ sizeLine)
    (goal : ∀ h' tk acc c', (∀ b o, b ≠ it → s.heap.get? b = some o → h'.get? b = some o) → h'.get? s.heap.objs.size = some { cls := .type "list", dict := none, data := .seq acc c', slots := #[] } →
      ItemsOf (fun i v => items[items.size - 1 - i]? = some v) acc items.size → Q (.ref s.heap.objs.size) { s with heap := h', toks := tk }) :
    wpAny (model prog w) A (call (.type "list") [.ref it]) Q E s := by
  obtain ⟨oi, hoi, _⟩ := id hit
  obtain ⟨ol, hol, _⟩ := id hl
  have n1 : s.heap.objs.size ≠ it := Nat.ne_of_gt (Heap.lt_size hoi)
  have n2 : s.heap.objs.size ≠ l := Nat.ne_of_gt (Heap.lt_size hol)
  refine callType_codes (Q₁ := fun obj s₁ => obj = .ref s.heap.objs.size ∧ s₁ = { s with heap := s.heap.push { cls := .type "list", data := .seq #[] } }) F.called_list (F.typeCall_list_1 _) F.entry_list_init
    (code_list_new _ ⟨rfl, rfl⟩) fun obj s₁ made => ?_
  obtain ⟨rfl, rfl⟩ := made
  have hS : (s.heap.push { cls := .type "list", data := .seq #[] }).get? s.heap.objs.size = some { cls := .type "list", data := .seq #[] } := Heap.get?_push_size _ rfl
  refine ⟨⟨_, hS, rfl⟩, F.args_list_init_2 _ _, ?_⟩
  show wpAny _ _ (do let old ← Builtin.List.listItems (.ref s.heap.objs.size); Builtin.List.listUpdate (.ref s.heap.objs.size) (fun _ => #[]); letGo old.toList.reverse; Builtin.List.listExtendWith (.ref s.heap.objs.size) (.ref it) .none) _ _ _
  refine wpAny_bind ?_
  unfold Builtin.List.listItems
  refine wpAny_bind (wpAny_seqItems hS rfl (wpAny_pure ?_))
  refine wpAny_bind (wpAny_updateSeq hS rfl ?_)
  have hS2 := Heap.get?_update_self (Obj.mapSeq (fun _ => (#[] : Array Value))) hS rfl
  have other : ∀ b o, b ≠ s.heap.objs.size → s.heap.get? b = some o → ((s.heap.push { cls := .type "list", data := .seq #[] }).update s.heap.objs.size (Obj.mapSeq (fun _ => (#[] : Array Value)))).get? b = some o :=
    fun b o hb e => (Heap.get?_update_other _ _ (Ne.symm hb)).trans (Heap.get?_push_of_some _ e)
  refine wpAny_bind (wpAny_letGo ?_)
  refine fillRev (A := A.in1) hh (hit.at fun o e => other it o n1.symm e) (by obtain ⟨o, e, r⟩ := hl; exact ⟨o, other l o n2.symm e, r⟩) nli hz n1 n2 hS2 fun h' tk acc c' keep hnew hacc => ?_
  exact ⟨rfl, goal h' tk acc c' (fun b o hb e => keep b o (Nat.ne_of_lt (Heap.lt_size e)) hb (other b o (Nat.ne_of_lt (Heap.lt_size e)) e)) hnew hacc⟩
end

/-- list(reversed(e)), e a list: a new list -/
def tListRev (K : PySem.W.Frag) (te : TE) : TE := fun σ H Q => te σ H fun v H1 => ∃ (a : Addr) (xs : List V), v = .ref a ∧ SqL K H1 a xs ∧ ∀ q, H1 q = none → Q (.ref q) (upd H1 q (.lst xs.reverse))
section
variable {X : Cx}
theorem pe_listRev {e : Expr} {te : TE} {p p2 pos pos2 : Pos} (hc : X.calm = true) (hg : Gl X "list") (hm : X.mg "list" = none) (hg2 : Gl X "reversed") (hm2 : X.mg "reversed" = none) (he : PE X e te)
    (hs : starEach [e] X.env = (false, eval e X.env) :: starEach [] X.env := by rfl)
    (hs2 : starEach [.Call (.Name "reversed" p2) [e] [] pos2] X.env = (false, eval (.Call (.Name "reversed" p2) [e] [] pos2) X.env) :: starEach [] X.env := by rfl) :
    PE X (.Call (.Name "list" p) [.Call (.Name "reversed" p2) [e] [] pos2] [] pos) (tListRev X.K te) := by
  refine ⟨fun pins s σ H Q I h => ?_⟩
  refine Call_ (ld_blt I hg hm boot_list (PyProof.Rows.callWith_type1 (args_cons (Call_ (ld_blt I hg2 hm2 PyProof.Rows.boot_reversed (PyProof.Rows.callWith_type1 (args_cons (thn (he.run pins s σ H _ I h) fun u s1 got => args_nil ?_) hs) hs rfl))) hs2) hs2 rfl))
  obtain ⟨v, H1, I1, r1, a, xs, ev, hq, q⟩ := got
  subst ev
  obtain rfl : u = Value.ref a := r1
  obtain ⟨its, rv, pl, hz⟩ := I1.list hq
  have isl := pl.isList
  obtain ⟨ol, hol, _⟩ := id isl
  have len : its.toArray.size = xs.length := by rw [List.size_toArray, rv.length]
  refine call_reversed_list isl (args_nil ?_)
  have k0 : ∀ b o, s1.heap.get? b = some o → (s1.heap.push (revObj a ((its.toArray.size : Int) - 1))).get? b = some o := fun b o e => Heap.get?_push_of_some _ e
  have hne : a ≠ s1.heap.objs.size := Nat.ne_of_lt (Heap.lt_size hol)
  refine listOfRev (s := { s1 with heap := s1.heap.push (revObj a ((its.toArray.size : Int) - 1)) }) (I1.ok.hd hc) ⟨_, Heap.get?_push_size _ rfl, rfl, rfl⟩ (isl.push _) hne (by rw [len]; exact hz) fun h' tk acc c' keep hnew hacc => ?_
  have old : ∀ b o, s1.heap.get? b = some o → h'.get? b = some o := fun b o e => keep b o (Nat.ne_of_lt (Heap.lt_size e)) (k0 b o e)
  have le : s1.heap.objs.size ≤ (s1.heap.push (revObj a ((its.toArray.size : Int) - 1))).objs.size := by
    refine Nat.le_of_lt (Heap.lt_size (Heap.get?_push_size _ rfl) : s1.heap.objs.size < _)
  refine ⟨.ref (s1.heap.push (revObj a ((its.toArray.size : Int) - 1))).objs.size, _, I1.laid (t' := tk) (o := .lst xs.reverse) old le (show ObjOk X.prog X.w _ h' _ (.lst xs.reverse) from ⟨by rw [List.length_reverse]; exact hz, acc.toList, c', RT.vals_rev rv hacc, ?_⟩), rfl, q _ (I1.hok.fresh le)⟩
  rw [Array.toArray_toList]
  exact hnew
end
end GE

set_option Elab.async false
set_option linter.all false
set_option maxRecDepth 100000
set_option maxHeartbeats 2000000
/-! generator expressions whose elements may call defs: all, any -/
namespace GG
open PySem PySem.Spec PyProof.Rows L2 GenW

/-- the context of a generator expression's code: s, H as its frame is laid; fp: the source's iterator; pn: the generator's own object -/
abbrev gex (X : Cx) (A : Around) (s : Shared) (H : Hp) (genv : Env) (fp : List Addr) (pn : List (Addr × Obj)) : Cx :=
  { X with A := A.deeper genv, s_0 := s, H_0 := H, env := genv, outer := X.stack, stack := genv :: X.stack, ex := fp, fn := fun _ => false, pn := pn, xe := fun _ _ => False }

theorem over_gen {A : Around} {elt target iter : Expr} {ifs : List Expr} {scope : Scope} {pos : Pos} {it acc : Value} {env : Env} :
    A.over (.compLoop (.GeneratorExp elt [⟨target, iter, ifs, 0⟩] scope pos) 0 it acc env) [] = A.deeper env := by
  first
    | rfl
    | (obtain ⟨hd, d, fr, gs, u⟩ := A; simp [Around.over, Around.deeper, marksOver, frameCount, unitsOf, envsOf, guardsOf, pushEnvs, pushGuards, Code.envs, Code.env?, Code.isFrame, Code.guards, Code.isGuard, Code.weight, Code.frames, Code.isCreation, Code.isCaller, Code.cUnits])
theorem over_gen0 {A : Around} {elt target iter : Expr} {ifs : List Expr} {scope : Scope} {pos : Pos} {it acc : Value} {env : Env} :
    A.over (.compStart (.GeneratorExp elt [⟨target, iter, ifs, 0⟩] scope pos) 0 it acc env) [] = A.deeper env := by
  first
    | rfl
    | (obtain ⟨hd, d, fr, gs, u⟩ := A; simp [Around.over, Around.deeper, marksOver, frameCount, unitsOf, envsOf, guardsOf, pushEnvs, pushGuards, Code.envs, Code.env?, Code.isFrame, Code.guards, Code.isGuard, Code.weight, Code.frames, Code.isCreation, Code.isCaller, Code.cUnits])

section
variable {X : Cx} {pins : List (Addr × Obj)} {σ : L2.St} {H : Hp} {s : Shared}

theorem gen_start {A : Around} {scope : Scope} {own : List (Str × Nat)} {fp : List Addr} {code : Value} {it : Value} {h' h5 : Heap} {g5 : Array GenState} {t5 : Nat} {a : Addr} {ob : Obj}
    (I : Inv X pins σ H s) (ok : BlkOk X.N X.env.scope scope own) (hcell : ∀ y ∈ scope.names, y.2 ≠ .cell) (hN : X.N.Nodup) (hA : A.handled = none) (hfr : A.frames = some X.stack) (hfp : ∀ b ∈ fp, FpOk X pins H b ∧ b < s.heap.objs.size)
    (hn' : h'.Ns s.heap.objs.size (fun y => if y = ".0" then some it else none)) (hk' : ∀ b o, s.heap.get? b = some o → h'.get? b = some o)
    (hk5 : ∀ b o, h'.get? b = some o → h5.get? b = some o) (ha : s.heap.objs.size < a) (hao : h5.get? a = some ob) (hoc : ∀ v, ob.data ≠ .cell v) (hg : AllBare g5) :
    Inv (gex X A s H (genEnv scope (cloFrom X.env.cells scope.names []) s.heap.objs.size code builtinsNs X.env) fp [(a, ob)]) [] (wipe σ (own.map (·.2))) H { s with gens := g5, toks := t5, heap := h5 } := by
  have hfree : ∀ y ∈ scope.names, y.2 = .free → ∃ c, X.env.cells.lookup y.1 = some c := fun y hy e => by
    rcases ok.free y hy e with k | k
    · exact I.ok.has _ (.inl k)
    · exact I.ok.has _ (.inr k)
  have kp : ∀ b o, s.heap.get? b = some o → h5.get? b = some o := fun b o e => hk5 b o (hk' b o e)
  have cm : ∀ {y c}, (y, c) ∈ cloFrom X.env.cells scope.names [] → X.env.cells.lookup y = some c ∧ c < s.heap.objs.size := fun {y c} hm => by
    rcases cloFrom_mem hm with hm | ⟨h1, rfl⟩
    · cases hm
    · obtain ⟨c, hc⟩ := hfree _ h1 rfl
      rw [hc]
      obtain ⟨w, z⟩ := I.cell _ _ hc
      exact ⟨rfl, z.lt⟩
  have cml : ∀ {y c}, (cloFrom X.env.cells scope.names []).lookup y = some c → X.env.cells.lookup y = some c ∧ c < s.heap.objs.size := fun {y c} e => cm (PySem.mem_of_lookup e)
  have look : ∀ {y}, scope.names.lookup y = some .free → ∃ c, (cloFrom X.env.cells scope.names []).lookup y = some c ∧ X.env.cells.lookup y = some c := fun {y} hl => by
    have hy : (y, NameKind.free) ∈ scope.names := PySem.mem_of_lookup hl
    obtain ⟨c', e'⟩ := mem_lookup (cloFrom_has (cells := X.env.cells) (acc := []) hy)
    exact ⟨c', e', (cml e').1⟩
  have okG : (gex X A s H (genEnv scope (cloFrom X.env.cells scope.names []) s.heap.objs.size code builtinsNs X.env) fp [(a, ob)]).Ok := by
    refine ⟨I.ok.mod, ok.kind, I.ok.glob, rfl, Nat.le_refl _, fun y z c e1 e2 => ?_, fun y hy => ?_, fun y c z e => ?_, fun _ => hA, Around.frames_deeper hfr, .inr ⟨rfl, rfl⟩, fun b hb => ⟨?_, fun y c e z => ?_⟩, I.bs, Nat.le_trans I.ok.bsz I.sz, fun b o e hb => ?_, fun b hb z => ?_, I.stack, I.stkFree⟩
    · exact I.ok.inj y z c (cml e1).1 (cml e2).1
    · have hy : scope.names.lookup y = some .cell ∨ scope.names.lookup y = some .free := hy
      rcases hy with hy | hy
      · exact absurd rfl (hcell _ (PySem.mem_of_lookup hy))
      · obtain ⟨c, h1, _⟩ := look hy
        exact ⟨c, h1⟩
    · cases z
    · exact Nat.ne_of_lt (hfp b hb).2
    · exact (hfp b hb).1.2.2.2.2.1 y c (cml e).1 z
    · rcases (hfp b hb).1.2.2.2.1 with z | z
      · exact I.ok.noex b o e z
      · exact absurd (Nat.lt_of_lt_of_le (Heap.lt_size e) (Nat.le_trans I.ok.bsz z)) (Nat.lt_irrefl _)
    · rcases List.mem_cons.mp (I.stkSub b z) with z | z
      · exact (hfp b hb).1.2.1 z
      · exact (hfp b hb).1.2.2.1 z
  refine ⟨okG, rfl, hg, Un.kept kp, ⟨_, hn'.keeps hk5, fun i y av e1 e2 e3 => ?_⟩, fun y c e => ?_, I.hok.fresh (Nat.le_refl _), fun y c e => ?_, fun p hp => ?_, I.hok.kept kp, by rw [wipe_length]; exact I.len⟩
  · obtain ⟨e2, hne⟩ := wipe_some e2
    have e3 : Vis scope y := e3
    have no : ∀ k, scope.names.lookup y = some k → ¬ (k = .local ∨ k = .cell) := fun k e hh => by
      rcases ok.own _ (PySem.mem_of_lookup e) hh with e' | e'
      · obtain ⟨p, hp, hpy⟩ := List.mem_map.mp e'
        have e4 := ok.ix p hp
        have : p.1 = y := hpy
        rw [this] at e4
        exact hne (List.mem_map.mpr ⟨p, hp, nodup_ix hN e4 e1⟩)
      · exact e' (List.mem_of_getElem? e1)
    have hfr' : scope.names.lookup y = some .free := by
      rcases e3 with e3 | e3 | e3
      · exact absurd (.inl rfl) (no _ e3)
      · exact absurd (.inr rfl) (no _ e3)
      · exact e3
    obtain ⟨m, hn, hl⟩ := I.loc
    have hvis : Vis X.env.scope y := (ok.free _ (PySem.mem_of_lookup hfr') rfl).elim (fun k => .inr (.inl k)) (fun k => .inr (.inr k))
    obtain ⟨w, r, q⟩ := hl i y av e1 e2 hvis
    obtain ⟨c, h1, h2⟩ := look hfr'
    refine ⟨w, r, .inr ⟨.inr hfr', ?_⟩⟩
    rcases q with ⟨k, _⟩ | ⟨_, c', e', z⟩
    · have k : X.env.scope.names.lookup y = some .local := k
      rcases ok.free _ (PySem.mem_of_lookup hfr') rfl with k' | k' <;> rw [show X.env.scope.names.lookup y = _ from k'] at k <;> cases k
    · rw [h2] at e'; cases e'
      exact ⟨c, h1, z.keeps kp⟩
  · obtain ⟨w, z⟩ := I.cell y c (cml e).1
    exact ⟨w, z.keeps kp⟩
  · exact I.freeC y c (cml e).1
  · have e : p = (a, ob) := by simpa using hp
    subst e
    exact ⟨hao, I.hok.fresh (Nat.le_of_lt ha), Nat.ne_of_gt ha, fun hb => by
      rcases List.mem_cons.mp (I.stkSub a hb) with z | z
      · have := I.lt
        rw [← z] at this
        exact absurd (Nat.lt_trans this ha) (Nat.lt_irrefl _)
      · exact I.nofs (Nat.le_of_lt ha) z, hoc⟩

/-- while the generator sleeps: all is kept -/
structure Slp (s s' : Shared) : Prop where
  os : s'.os = s.os
  bare : AllBare s'.gens
  keep : ∀ b o, s.heap.get? b = some o → s'.heap.get? b = some o
theorem Inv.slp {s' : Shared} (I : Inv X pins σ H s) (z : Slp s s') : Inv X pins σ H s' :=
  I.call' (ch := []) z.os (Un.kept z.keep) (I.hok.kept z.keep) z.bare fun b hb => absurd hb (by simp)

/-- the end, an item -/
def GRn (G : Cx) (Fin : Hp → Prop) : GenEnd := fun n s₀ r s₁ => ((r = .ok (.ret .none) ∨ r = .ok .next) ∧ ∃ σ H', Inv G [] σ H' s₁ ∧ Fin H') ∨ ∃ e, r = .error e ∧ False
def GYd (G : Cx) (Go : V → Prop) (Stp : V → Hp → Prop) : Protocol := fun n s₀ v s kap =>
  ∃ y pins σ H', RelV y v ∧ Inv G pins σ H' s ∧ ((Go y ∧ ∀ s', Slp s s' → kap (.send .none) s') ∨ Stp y H')

/-- what a turn asks (as tLc): W by the turn and a measure -/
def GTurn (J : It) (g : TG) (tt : TT) (te : TE) (vs : List Nat) (σ : L2.St) (Go : V → Prop) (Stp : V → Hp → Prop) (Fin : Hp → Prop) (W : Nat → Nat → Hp → Prop) : Prop := ∀ i m H, W i m H →
  (J.stop i H ∧ Fin H) ∨ (J.go i H ∧ ∃ Nx : Hp → Prop, (∀ H', Nx H' → ∃ m', m' < m ∧ W (i + 1) m' H') ∧ ∀ x H', J.yld i H x H' → g x (wipe σ vs) H' fun σ2 H2 => wipe σ2 vs = wipe σ vs ∧ tt σ2 H2 fun b H3 =>
    if b = true then te σ2 H3 fun y H4 => (Go y ∧ Nx H4) ∨ Stp y H4 else Nx H3)

theorem seg_gl {A : Around} {s4 : Shared} {H4 : Hp} {genv : Env} {fp : List Addr} {pn : List (Addr × Obj)} {elt tg iter : Expr} {ifs : List Expr} {scope : Scope} {pos : Pos} {vs : List Nat} {it : Addr} {tn : Nat → Heap → Prop} {J : It} {g : TG} {tt : TT} {te : TE}
    {Go : V → Prop} {Stp : V → Hp → Prop} {Fin : Hp → Prop} {W : Nat → Nat → Hp → Prop} (hc : X.calm = true) (hpn : ∀ p ∈ pn, p.1 ∉ fp) (hco : genv.scope.isCoroutine = false)
    (T : Turn X.prog X.w X.K tg J fp it tn) (hg : PG (gex X A s4 H4 genv fp pn) tg g) (ht : PTs (gex X A s4 H4 genv fp pn) ifs tt) (he : PE (gex X A s4 H4 genv fp pn) elt te)
    (turn : GTurn J g tt te vs σ Go Stp Fin W) :
    ∀ (m i n : Nat) (s₀ s : Shared) (H : Hp), m < n → W i m H → Inv (gex X A s4 H4 genv fp pn) [] (wipe σ vs) H s → tn i s.heap → (∀ b ∈ fp, H b = none) →
      Seg (model X.prog X.w) A (GRn (gex X A s4 H4 genv fp pn) Fin) (GYd (gex X A s4 H4 genv fp pn) Go Stp) n s₀
        (.compLoop (.GeneratorExp elt [⟨tg, iter, ifs, 0⟩] scope pos) 0 (.ref it) .none genv)
        ((model X.prog X.w).den (.compLoop (.GeneratorExp elt [⟨tg, iter, ifs, 0⟩] scope pos) 0 (.ref it) .none genv)) [] s := by
  have stat : ∀ {σ' : L2.St} {H' : Hp} {s' : Shared}, Inv (gex X A s4 H4 genv fp pn) [] σ' H' s' → (∀ b ∈ fp, H' b = none) → ∀ b ∈ fp, FpOk (gex X A s4 H4 genv fp pn) [] H' b := fun {σ' H' s'} I' hn b hb =>
    ⟨hn b hb, (I'.ok.exf b hb).1, I'.ok.exfs b hb, .inl hb, fun x c e => (I'.ok.exf b hb).2 x c e, fun p hp z => by
      rcases List.mem_append.mp hp with hp | hp
      · exact hpn p hp (by rw [z]; exact hb)
      · cases hp⟩
  intro m
  induction m using Nat.strongRecOn with
  | ind m ih =>
    intro i n s₀ s H hmn w I st hn
    show Seg _ A _ _ _ s₀ _ ((compTurn (.GeneratorExp elt [⟨tg, iter, ifs, 0⟩] scope pos) 0 (.ref it) .none genv).onRaise (leaving genv)) [] s
    rw [compTurn_gen, Sem.onRaise_eq_wrap]
    refine seg_bind_wrap (wpAny_standAt ?_)
    rcases turn i m H w with ⟨stop, fin⟩ | ⟨go, Nx, hNx, step⟩
    · refine seg_bind_wrap ?_
      rw [over_gen]
      refine thnF (T.done (gex X A s4 H4 genv fp pn) rfl rfl rfl hc i [] s _ H (fun _ _ => False) I (stat I hn) st stop) fun r s1 ⟨hr, I1⟩ => ?_
      subst hr
      exact seg_end (.ok .next) (.inl ⟨.inr rfl, _, H, I1, fin⟩)
    · refine seg_bind_wrap ?_
      rw [over_gen]
      refine thnF (T.item (gex X A s4 H4 genv fp pn) rfl rfl rfl hc i [] s _ H (fun _ _ => False) I (stat I hn) st go) fun r s1 ⟨u, hr, h1⟩ => ?_
      subst hr
      refine seg_bind_wrap ?_
      rw [over_gen]
      refine thnF h1 fun _ s2 ⟨x, H2, I2, r2, y2, st2, n2⟩ => ?_
      have I2' := I2.pinned (stat I2 n2) (T.obj _ _ st2)
      refine seg_bind_wrap ?_
      rw [over_gen]
      refine thnF (hg.run _ s2 _ H2 x u _ I2' r2 (step x H2 y2)) fun _ s3 ⟨σ3, H3, I3, hw3, q3⟩ => ?_
      refine seg_bind_wrap ?_
      rw [over_gen]
      refine thnF (ht.run _ s3 σ3 H3 _ I3 q3) fun b s5 ⟨H5, I5, q5⟩ => ?_
      have fin : ∀ {s' : Shared} {H' : Hp}, Inv (gex X A s4 H4 genv fp pn) ([] ++ pinsAt fp s2.heap) σ3 H' s' → Nx H' →
          ∃ m', m' < m ∧ W (i + 1) m' H' ∧ Inv (gex X A s4 H4 genv fp pn) [] (wipe σ vs) H' s' ∧ tn (i + 1) s'.heap ∧ (∀ b ∈ fp, H' b = none) := fun {s' H'} I' nx => by
        obtain ⟨m', hm, w'⟩ := hNx H' nx
        have pin' : ∀ b ∈ fp, ∀ o, s2.heap.get? b = some o → s'.heap.get? b = some o ∧ H' b = none := fun b hb o e =>
          let z := I'.pin (b, o) (List.mem_append_right _ (List.mem_append_right _ (mem_pinsAt hb e)))
          ⟨z.1, z.2.1⟩
        have hl : (wipe σ vs).length = σ3.length := by rw [← hw3, wipe_length]
        refine ⟨m', hm, w', (I'.unpinned (pins := [])).weak hl (fun j v e => ?_), T.keep _ _ _ st2 fun b hb o e => (pin' b hb o e).1, fun b hb => ?_⟩
        · rw [← hw3] at e
          exact (wipe_some e).1
        · obtain ⟨o, e, _⟩ := T.obj _ _ st2 b hb
          exact (pin' b hb o e).2
      cases b with
      | false =>
        simp only [Bool.false_eq_true, if_false] at q5 ⊢
        obtain ⟨m', hm, w', I6, st6, n6⟩ := fin I5 q5
        exact seg_again rfl (ih m' hm (i + 1) n s₀ _ H5 (Nat.lt_trans hm hmn) w' I6 st6 n6)
      | true =>
        simp only [if_true] at q5 ⊢
        have hy : ∀ v, yieldOut genv v = yieldValue v := fun v => by simp only [yieldOut, hco, Bool.false_eq_true, if_false]
        simp only [hy]
        rw [Sem.bind_eq_wrap', Sem.bind_eq_wrap', Sem.wrap_wrap, Sem.wrap_wrap]
        refine seg_wrap ?_
        rw [over_gen]
        refine thnF (he.run _ s5 σ3 H5 _ I5 q5) fun yv s6 ⟨y, H6, I6, r6, q6⟩ => ?_
        obtain ⟨n, rfl⟩ : ∃ k, n = k + 1 := ⟨n - 1, by omega⟩
        refine seg_at (seg_yield rfl rfl rfl ⟨y, _, _, H6, r6, I6, ?_⟩)
        rcases q6 with ⟨hgo, nx⟩ | stp
        · refine .inl ⟨hgo, fun s' z => ?_⟩
          obtain ⟨m', hm, w', I7, st7, n7⟩ := fin (Inv.slp I6 z) nx
          exact seg_again rfl (ih m' hm (i + 1) n s' s' H6 (by omega) w' I7 st7 n7)
        · exact .inr stp

theorem seg_g0 {A : Around} {s4 : Shared} {H4 : Hp} {genv : Env} {fp : List Addr} {pn : List (Addr × Obj)} {elt tg iter : Expr} {ifs : List Expr} {scope : Scope} {pos : Pos} {vs : List Nat} {it : Addr} {tn : Nat → Heap → Prop} {J : It} {g : TG} {tt : TT} {te : TE}
    {Go : V → Prop} {Stp : V → Hp → Prop} {Fin : Hp → Prop} {W : Nat → Nat → Hp → Prop} (hc : X.calm = true) (hpn : ∀ p ∈ pn, p.1 ∉ fp) (hco : genv.scope.isCoroutine = false)
    (T : Turn X.prog X.w X.K tg J fp it tn) (hg : PG (gex X A s4 H4 genv fp pn) tg g) (ht : PTs (gex X A s4 H4 genv fp pn) ifs tt) (he : PE (gex X A s4 H4 genv fp pn) elt te)
    (turn : GTurn J g tt te vs σ Go Stp Fin W) (m i n : Nat) (s₀ s : Shared) (H : Hp) (hmn : m < n) (w : W i m H) (I : Inv (gex X A s4 H4 genv fp pn) [] (wipe σ vs) H s) (st : tn i s.heap) (hn : ∀ b ∈ fp, H b = none) :
      Seg (model X.prog X.w) A (GRn (gex X A s4 H4 genv fp pn) Fin) (GYd (gex X A s4 H4 genv fp pn) Go Stp) n s₀
        (.compStart (.GeneratorExp elt [⟨tg, iter, ifs, 0⟩] scope pos) 0 (.ref it) .none genv)
        ((model X.prog X.w).den (.compStart (.GeneratorExp elt [⟨tg, iter, ifs, 0⟩] scope pos) 0 (.ref it) .none genv)) [] s := by
  have loop := seg_gl (iter := iter) (scope := scope) (pos := pos) (σ := σ) hc hpn hco T hg ht he turn m i n s₀ s H hmn w I st hn
  show Seg _ A _ _ _ s₀ _ ((compStart (.GeneratorExp elt [⟨tg, iter, ifs, 0⟩] scope pos) 0 (.ref it) .none genv).onRaise (leaving genv)) [] s
  unfold compStart
  rw [Sem.onRaise_eq_wrap]
  show Seg _ A _ _ _ s₀ _ ((ask >>= _).wrap _ _ _ _) [] s
  refine seg_bind_wrap (wpAny_askSetting ?_)
  split
  · exact seg_again rfl loop
  · first
      | exact seg_bind_wrap (wpAny_rule (seg_bind_wrap (wpAny_standAt (seg_bind_wrap (T.self _ i s _ _ st (seg_again rfl loop))))))
      | (refine seg_bind_wrap (wpAny_rule ?_); show Seg _ A _ _ _ s₀ _ ((standAt iter.pos >>= _).wrap _ _ _ _) [] s; exact seg_bind_wrap (wpAny_standAt (seg_bind_wrap (T.self _ i s _ _ st (seg_again rfl loop)))))

theorem Slp.set {s s' : Shared} {g : Nat} {x y : GenState} (hb : AllBare s.gens) (hx : x.bare = true) (hy : y.bare = true) : Slp s ((s.setGen g x).setGen g y) :=
  ⟨rfl, allBare_setGen (s := s.setGen g x) (allBare_setGen hb hx) hy, fun _ _ e => e⟩

theorem all_loopG {G : Cx} {A : Around} {R : Result → Shared → Prop} {a : Addr} {g : Nat} {Fin QF : Hp → Prop} (hp : G.prog = X.prog) (hw : G.w = X.w) (hh : A.handled = none) (hd : A.depth < recursionLimit)
    (hgen : ∀ pins σ H s, Inv G pins σ H s → s.heap.IsGen a g)
    (hend : ∀ pins σ H s, Inv G pins σ H s → Fin H → R (.ok (.ret (.bool true))) s) (hstp : ∀ pins σ H s, Inv G pins σ H s → QF H → R (.ok (.ret (.bool false))) s) :
    ∀ (n : Nat) (s : Shared), s.heap.IsGen a g → s.heap.NoLimit →
      (∃ gs, s.gens[g]? = some gs ∧ gs.Goes (model X.prog X.w) A.in1.in1 (GRn G Fin) (GYd G (fun y => y = .bl true) (fun y H => y = .bl false ∧ QF H)) n (.send .none) (s.setGen g .running)) →
      codeAny (model X.prog X.w) A (.builtin "all.loop" ⟨[.ref a], []⟩) R s := by
  intro n
  induction n with
  | zero =>
    intro s hg hl ⟨gs, hgs, hgo⟩
    refine codeAny_builtin F.entry_all_loop ?_
    rw [Around.under_plainId F.plain_all_loop _]
    show wpAny _ A.in1 (pyNext (.ref a) >>= _) _ _ s
    refine wpAny_bind (next_genG (A := A.in1) hh hl hd hg hgs hgo (fun v s₁ gs' hbare hv => ?_) (fun s₁ hpn h' hk => ?_) fun e s₁ he => he.elim)
    · obtain ⟨y, pins, σ', H', rv, I, ⟨ey, kap⟩ | ⟨ey, q⟩⟩ := hv
      · exact (kap _ ⟨rfl, I.bare, fun _ _ e => e⟩).elim
      · subst ey
        obtain rfl : v = .bool false := rv
        refine wpAny_bind (wpAny_holding (wpAny_truthy_bool ?_))
        refine wpAny_bind (wpAny_letGo ?_)
        simp only [Bool.false_eq_true, if_false]
        refine wpAny_bind (wpAny_rule (wpAny_pure ?_))
        exact hstp _ _ _ _ (Inv.slp I ⟨rfl, allBare_setGen I.bare hbare, fun _ _ e => e⟩) q
    · obtain ⟨σ', H', I, q⟩ := hpn
      refine wpAny_bind (wpAny_rule (wpAny_pure ?_))
      exact hend _ _ _ _ (Inv.slp I ⟨rfl, allBare_setGen I.bare rfl, hk⟩) q
  | succ n ih =>
    intro s hg hl ⟨gs, hgs, hgo⟩
    have hgl : g < s.gens.size := (Array.getElem?_eq_some_iff.mp hgs).1
    refine codeAny_builtin F.entry_all_loop ?_
    rw [Around.under_plainId F.plain_all_loop _]
    show wpAny _ A.in1 (pyNext (.ref a) >>= _) _ _ s
    refine wpAny_bind (wpAny_gsz (n := g + 1) hgl (next_genG (A := A.in1) hh hl hd hg hgs hgo (fun v s₁ gs' hbare hv => ?_) (fun s₁ hpn h' hk => ?_) fun e s₁ he => he.elim))
    · intro hsz
      obtain ⟨y, pins, σ', H', rv, I, ⟨ey, kap⟩ | ⟨ey, q⟩⟩ := hv
      · subst ey
        obtain rfl : v = .bool true := rv
        refine wpAny_bind (wpAny_holding (wpAny_truthy_bool ?_))
        refine wpAny_bind (wpAny_letGo ?_)
        simp only [if_true]
        have hsz1 : g < s₁.gens.size := by
          have q : (s₁.setGen g gs').gens.size = s₁.gens.size := setGen_size _ _ _
          have hsz' : g + 1 ≤ (s₁.setGen g gs').gens.size := hsz
          omega
        refine wpAny_pure ⟨plainId_quiet F.plain_all_loop _, ih _ ?_ ?_ ⟨gs', setGen_at hsz1, ?_⟩⟩
        · exact (show s₁.heap.IsGen a g from hgen _ _ _ _ I)
        · exact (show s₁.heap.NoLimit from I.nolimit)
        · exact kap _ ⟨rfl, allBare_setGen (s := s₁.setGen g gs') (allBare_setGen I.bare hbare) rfl, fun _ _ e => e⟩
      · subst ey
        obtain rfl : v = .bool false := rv
        refine wpAny_bind (wpAny_holding (wpAny_truthy_bool ?_))
        refine wpAny_bind (wpAny_letGo ?_)
        simp only [Bool.false_eq_true, if_false]
        refine wpAny_bind (wpAny_rule (wpAny_pure ?_))
        exact hstp _ _ _ _ (Inv.slp I ⟨rfl, allBare_setGen I.bare hbare, fun _ _ e => e⟩) q
    · intro hsz
      obtain ⟨σ', H', I, q⟩ := hpn
      refine wpAny_bind (wpAny_rule (wpAny_pure ?_))
      exact hend _ _ _ _ (Inv.slp I ⟨rfl, allBare_setGen I.bare rfl, hk⟩) q
theorem any_loopG {G : Cx} {A : Around} {R : Result → Shared → Prop} {a : Addr} {g : Nat} {Fin QF : Hp → Prop} (hp : G.prog = X.prog) (hw : G.w = X.w) (hh : A.handled = none) (hd : A.depth < recursionLimit)
    (hgen : ∀ pins σ H s, Inv G pins σ H s → s.heap.IsGen a g)
    (hend : ∀ pins σ H s, Inv G pins σ H s → Fin H → R (.ok (.ret (.bool false))) s) (hstp : ∀ pins σ H s, Inv G pins σ H s → QF H → R (.ok (.ret (.bool true))) s) :
    ∀ (n : Nat) (s : Shared), s.heap.IsGen a g → s.heap.NoLimit →
      (∃ gs, s.gens[g]? = some gs ∧ gs.Goes (model X.prog X.w) A.in1.in1 (GRn G Fin) (GYd G (fun y => y = .bl false) (fun y H => y = .bl true ∧ QF H)) n (.send .none) (s.setGen g .running)) →
      codeAny (model X.prog X.w) A (.builtin "any.loop" ⟨[.ref a], []⟩) R s := by
  intro n
  induction n with
  | zero =>
    intro s hg hl ⟨gs, hgs, hgo⟩
    refine codeAny_builtin F.entry_any_loop ?_
    rw [Around.under_plainId F.plain_any_loop _]
    show wpAny _ A.in1 (pyNext (.ref a) >>= _) _ _ s
    refine wpAny_bind (next_genG (A := A.in1) hh hl hd hg hgs hgo (fun v s₁ gs' hbare hv => ?_) (fun s₁ hpn h' hk => ?_) fun e s₁ he => he.elim)
    · obtain ⟨y, pins, σ', H', rv, I, ⟨ey, kap⟩ | ⟨ey, q⟩⟩ := hv
      · exact (kap _ ⟨rfl, I.bare, fun _ _ e => e⟩).elim
      · subst ey
        obtain rfl : v = .bool true := rv
        refine wpAny_bind (wpAny_holding (wpAny_truthy_bool ?_))
        refine wpAny_bind (wpAny_letGo ?_)
        simp only [if_true]
        refine wpAny_bind (wpAny_rule (wpAny_pure ?_))
        exact hstp _ _ _ _ (Inv.slp I ⟨rfl, allBare_setGen I.bare hbare, fun _ _ e => e⟩) q
    · obtain ⟨σ', H', I, q⟩ := hpn
      refine wpAny_bind (wpAny_rule (wpAny_pure ?_))
      exact hend _ _ _ _ (Inv.slp I ⟨rfl, allBare_setGen I.bare rfl, hk⟩) q
  | succ n ih =>
    intro s hg hl ⟨gs, hgs, hgo⟩
    have hgl : g < s.gens.size := (Array.getElem?_eq_some_iff.mp hgs).1
    refine codeAny_builtin F.entry_any_loop ?_
    rw [Around.under_plainId F.plain_any_loop _]
    show wpAny _ A.in1 (pyNext (.ref a) >>= _) _ _ s
    refine wpAny_bind (wpAny_gsz (n := g + 1) hgl (next_genG (A := A.in1) hh hl hd hg hgs hgo (fun v s₁ gs' hbare hv => ?_) (fun s₁ hpn h' hk => ?_) fun e s₁ he => he.elim))
    · intro hsz
      obtain ⟨y, pins, σ', H', rv, I, ⟨ey, kap⟩ | ⟨ey, q⟩⟩ := hv
      · subst ey
        obtain rfl : v = .bool false := rv
        refine wpAny_bind (wpAny_holding (wpAny_truthy_bool ?_))
        refine wpAny_bind (wpAny_letGo ?_)
        simp only [Bool.false_eq_true, if_false]
        have hsz1 : g < s₁.gens.size := by
          have q : (s₁.setGen g gs').gens.size = s₁.gens.size := setGen_size _ _ _
          have hsz' : g + 1 ≤ (s₁.setGen g gs').gens.size := hsz
          omega
        refine wpAny_pure ⟨plainId_quiet F.plain_any_loop _, ih _ ?_ ?_ ⟨gs', setGen_at hsz1, ?_⟩⟩
        · exact (show s₁.heap.IsGen a g from hgen _ _ _ _ I)
        · exact (show s₁.heap.NoLimit from I.nolimit)
        · exact kap _ ⟨rfl, allBare_setGen (s := s₁.setGen g gs') (allBare_setGen I.bare hbare) rfl, fun _ _ e => e⟩
      · subst ey
        obtain rfl : v = .bool true := rv
        refine wpAny_bind (wpAny_holding (wpAny_truthy_bool ?_))
        refine wpAny_bind (wpAny_letGo ?_)
        simp only [if_true]
        refine wpAny_bind (wpAny_rule (wpAny_pure ?_))
        exact hstp _ _ _ _ (Inv.slp I ⟨rfl, allBare_setGen I.bare hbare, fun _ _ e => e⟩) q
    · intro hsz
      obtain ⟨σ', H', I, q⟩ := hpn
      refine wpAny_bind (wpAny_rule (wpAny_pure ?_))
      exact hend _ _ _ _ (Inv.slp I ⟨rfl, allBare_setGen I.bare rfl, hk⟩) q

/-- the generator g over the source, not begun, in the state s5; G: its context -/
def Made (X : Cx) (pins : List (Addr × Obj)) (σ : L2.St) (elt tg : Expr) (A : Around) (P : Addr) (H1 : Hp) (Go : V → Prop) (Stp : V → Hp → Prop) (Fin : Hp → Prop) (a : Addr) (s5 : Shared) : Prop :=
  ∃ (G : Cx) (g n : Nat) (gs : GenState), G.prog = X.prog ∧ G.w = X.w ∧ (∀ pins σ H s, Inv G pins σ H s → s.heap.IsGen a g) ∧ s5.heap.IsGen a g ∧ s5.heap.NoLimit ∧ s5.gens[g]? = some gs ∧
    gs.Goes (model X.prog X.w) A (GRn G Fin) (GYd G Go Stp) n (.send .none) (s5.setGen g .running) ∧
    ∀ pins' σ' H' s', Inv G pins' σ' H' s' → Inv X pins σ H' s'

/-- how the source, the turn are read -/
abbrev PGn (X : Cx) (A : Around) (scope : Scope) (tg : Expr) (g : TG) : Prop := ∀ (s : Shared) (H : Hp) (C : Addr) (code : Value) (cl : List (Str × Addr)) (fp : List Addr) (pn : List (Addr × Obj)), PG (gex X A s H (genEnv scope cl C code builtinsNs X.env) fp pn) tg g
abbrev PTn (X : Cx) (A : Around) (scope : Scope) (ifs : List Expr) (t : TT) : Prop := ∀ (s : Shared) (H : Hp) (C : Addr) (code : Value) (cl : List (Str × Addr)) (fp : List Addr) (pn : List (Addr × Obj)), PTs (gex X A s H (genEnv scope cl C code builtinsNs X.env) fp pn) ifs t
abbrev PEn (X : Cx) (A : Around) (scope : Scope) (elt : Expr) (t : TE) : Prop := ∀ (s : Shared) (H : Hp) (C : Addr) (code : Value) (cl : List (Str × Addr)) (fp : List Addr) (pn : List (Addr × Obj)), PE (gex X A s H (genEnv scope cl C code builtinsNs X.env) fp pn) elt t

theorem gen_any {c P : Addr} {elt tg iter : Expr} {ifs : List Expr} {gpos : Pos} {scope : Scope} {own : List (Str × Nat)} {wi : TI} {g : TG} {tt : TT} {te : TE} {k : Nat} {A : Around} {Q' : Value → Shared → Prop} {Go : V → Prop} {Stp : V → Hp → Prop} {Fin : Hp → Prop}
    (hc : X.calm = true) (hN : X.N.Nodup) (hr : Room k X.A) (hA : A.handled = none) (hfr : A.frames = some X.stack) (TB : GxR.TabB X.base X.mg c P) (hcode : X.env.code = .ref c) (ok : BlkOk X.N X.env.scope scope own)
    (hcell : ∀ y ∈ scope.names, y.2 ≠ .cell) (h0 : scope.names.lookup (".0" : Str) = some NameKind.local) (hco : scope.isCoroutine = false)
    (hi : PI X tg iter wi) (hg : PGn X A scope tg g) (ht : PTn X A scope ifs tt) (he : PEn X A scope elt te) (hs : ∀ v, genFold iter X.env v = pure v) (I : Inv X pins σ H s)
    (h : wi σ H fun J H1 => GxR.TabG H1 P ∧ ∀ H2, GxR.Tabbed P H1 H2 → ∃ W : Nat → Nat → Hp → Prop, (∃ m, W 0 m H2) ∧ GTurn J g tt te (own.map (·.2)) σ Go Stp Fin W)
    (hQ : ∀ a s5, Made X pins σ elt tg A P H Go Stp Fin a s5 → Q' (.ref a) s5) :
    wpAny (model X.prog X.w) X.A (eval (.GeneratorExp elt [⟨tg, iter, ifs, 0⟩] scope gpos) X.env) Q' X.xe s := by
  have hfree : ∀ y ∈ scope.names, y.2 = .free → ∃ c, X.env.cells.lookup y.1 = some c := fun y hy e => by
    rcases ok.free y hy e with k | k
    · exact I.ok.has _ (.inl k)
    · exact I.ok.has _ (.inr k)
  refine wpAny_GeneratorExp_make hco (closure_ok hfree) hcell h0 ok.kind (by have := hr.dp; omega) ?_ hs
  refine thn (hi.run pins s σ H _ I h) fun xv s1 hx => thn hx fun itv s2 h2 => ?_
  obtain ⟨it, fp, tn, J, H1, e, I2, T, st2, f2, ⟨ps, hP, htr⟩, q⟩ := h2
  subst e
  refine ⟨I2.nolimit, ?_⟩
  have hPs : s2.heap.get? P = some { cls := .none, data := .fields ps } := I2.hok P _ hP
  have cd : PySem.W.CodeHd s2.heap c P := TB.code.keeps fun b u e => I2.bk b u e
  have Pfp : P ∉ fp := fun hb => by
    have := (f2 P hb).1
    rw [hP] at this; cases this
  have cont : ∀ (code : Value) (h3 : Heap) (tk : Nat) (ps' : Array Value), Heap.ExtBut P s2.heap h3 → h3.get? P = some { cls := .none, data := .fields ps' } → (∃ more, ps' = ps ++ more) → TriplesOk ps'.toList →
      wpAny (model X.prog X.w) X.A (builtinsFor X.env.globals X.env.builtins) (fun bi s₄ =>
        ∀ h', h'.Ns s₄.heap.objs.size (fun y => if y = ".0" then some (.ref it) else none) → Heap.SameBut s₄.heap.objs.size (s₄.heap.push { cls := .type "frame", data := .dict #[] }) h' →
          Q' (.ref h'.objs.size) { s₄ with
            gens := s₄.gens.push (.fresh (.compStart (.GeneratorExp elt [⟨tg, iter, ifs, 0⟩] scope gpos) 0 (.ref it) .none (genEnv scope (cloFrom X.env.cells scope.names []) s₄.heap.objs.size code bi X.env))),
            toks := s₄.toks + 1 + 1 + 1,
            heap := h'.push { cls := .type "generator", data := .fields #[.int s₄.gens.size 0, .str "<genexpr>" (s₄.toks + 1), .str (X.env.qual ++ "<genexpr>") (s₄.toks + 1 + 1)] } }) X.xe { s2 with heap := h3, toks := tk } := by
    intro code h3 tk ps' hx hP3 hmore ht3
    obtain ⟨bm, ob, e1, e2, e3, e4, e5, e6, e7, e8⟩ := TB.bm
    have keep3 : ∀ b u, b ≠ P → s2.heap.get? b = some u → h3.get? b = some u := fun b u hb e => hx b u hb e
    refine wpAny_builtinsFor (m := X.mg) (by rw [I2.ok.glob]; exact (I2.mod.glob.keeps I2.bk).extBut hx TB.gP) e1 e2 (keep3 _ _ e4 (I2.bk _ _ e5)) e6 e7 e8 ?_
    obtain ⟨more, em⟩ := hmore
    have I3 : Inv X pins σ (upd H1 P (.tbl (ps ++ more))) { s2 with heap := h3, gens := s2.gens, drawn := s2.drawn, toks := tk } :=
      GxR.inv_tab (more := more) I2 hP keep3 (by rw [← em]; exact hP3) I2.bare
    have hTab : GxR.Tabbed P H1 (upd H1 P (.tbl (ps ++ more))) := ⟨⟨ps ++ more, upd_same, by rw [← em]; exact ht3⟩, fun b hb => upd_ne hb⟩
    obtain ⟨W, ⟨m0, w0⟩, turn⟩ := q _ hTab
    generalize hH3 : upd H1 P (.tbl (ps ++ more)) = H3 at I3 w0 hTab
    have I3 : Inv X pins σ H3 { s2 with heap := h3, toks := tk } := I3
    generalize hs3 : ({ s2 with heap := h3, toks := tk } : Shared) = s4 at I3 ⊢
    have h4 : s4.heap = h3 := by rw [← hs3]
    have fpn : ∀ b ∈ fp, H3 b = none := fun b hb => by rw [hTab.2 b fun z => Pfp (z ▸ hb)]; exact (f2 b hb).1
    have st4 : tn 0 s4.heap := T.keep _ _ _ st2 fun b hb o e => by rw [h4]; exact keep3 b o (fun z => Pfp (z ▸ hb)) e
    have f4 : ∀ b ∈ fp, FpOk X pins H3 b ∧ b < s4.heap.objs.size := fun b hb => by
      obtain ⟨o, e, _⟩ := T.obj _ _ st4 b hb
      exact ⟨⟨fpn b hb, (f2 b hb).2⟩, Heap.lt_size e⟩
    intro h' hn' hsb
    have hsz : h'.objs.size = s4.heap.objs.size + 1 := by rw [hsb.1, Heap.size_push]
    have keep' : ∀ b o, s4.heap.get? b = some o → h'.get? b = some o := fun b o e => hsb.extBut b o (Nat.ne_of_lt (Heap.lt_size e)) (Heap.get?_push_of_some _ e)
    generalize hgo : ({ cls := .type "generator", data := .fields #[.int s4.gens.size 0, .str "<genexpr>" (s4.toks + 1), .str (X.env.qual ++ "<genexpr>") (s4.toks + 1 + 1)] } : Obj) = go
    have hgen : ∀ h : Heap, h.get? h'.objs.size = some go → h.IsGen h'.objs.size s4.gens.size := fun h e => ⟨go, _, _, e, by rw [← hgo], by rw [← hgo], by rw [← hgo]⟩
    have hpush : (h'.push go).get? h'.objs.size = some go := by rw [← hgo]; exact Heap.get?_push_size _ rfl
    have gnc : ∀ v, go.data ≠ .cell v := fun v z => by rw [← hgo] at z; cases z
    have alt : s4.heap.objs.size < h'.objs.size := by rw [hsz]; exact Nat.lt_succ_self _
    have IG := gen_start (A := A) (code := code) (g5 := (s4.gens.push (.fresh (.compStart (.GeneratorExp elt [⟨tg, iter, ifs, 0⟩] scope gpos) 0 (.ref it) .none (genEnv scope (cloFrom X.env.cells scope.names []) s4.heap.objs.size code builtinsNs X.env)))).setIfInBounds s4.gens.size .running) (t5 := s4.toks + 1 + 1 + 1) I3 ok hcell hN hA hfr f4 hn' keep'
      (fun b o e => Heap.get?_push_of_some go e) alt hpush gnc (allBare_setGen (s := { s4 with gens := s4.gens.push _ }) (AllBare.push I3.bare rfl) rfl)
    refine hQ _ _ ⟨gex X A s4 H3 (genEnv scope (cloFrom X.env.cells scope.names []) s4.heap.objs.size code builtinsNs X.env) fp [(h'.objs.size, go)], s4.gens.size, m0 + 1, _, rfl, rfl, fun pins' σ' H' s' I' => hgen _ (I'.pin (h'.objs.size, go) (List.mem_append_left _ List.mem_cons_self)).1, hgen _ hpush,
      (I3.nolimit.keeps fun b o e => Heap.get?_push_of_some _ (keep' b o e)), Array.getElem?_push_size .., ⟨rfl, ?_⟩, fun pins' σ' H' s' I' => ?_⟩
    · refine seg_g0 (σ := σ) hc (fun p hp z => ?_) hco T (hg _ _ _ _ _ _ _) (ht _ _ _ _ _ _ _) (he _ _ _ _ _ _ _) turn m0 0 (m0 + 1) _ _ H3 (Nat.lt_succ_self _) w0 IG (T.keep _ _ _ st4 fun b _ o e => Heap.get?_push_of_some _ (keep' b o e)) fpn
      have e : p = (h'.objs.size, go) := by simpa using hp
      rw [e] at z
      exact absurd (Nat.lt_trans (f4 _ z).2 alt) (Nat.lt_irrefl _)
    · exact I3.call' (ch := fp) I'.os I'.base I'.hok I'.bare fun b hb => ⟨(f4 b hb).1.2.2.2.1, (f4 b hb).1.2.1, (f4 b hb).1.2.2.2.2.1, (f4 b hb).1.2.2.2.2.2⟩
  cases hf : codeAmong gpos ps.toList with
  | none =>
    refine wpAny_genexprCodeX hcode (cd.code hPs htr) (cd.tab hPs) hf fun c' h' tk hx hge hlt hco' _ htab' _ => ?_
    obtain ⟨o1, vs, f1, tf, fl, tg, inF, tx, tt, op, _, _, _, _, _, _, _, _, _, htr', _⟩ := hco'
    exact cont _ h' tk _ hx htab'.2 ⟨_, rfl⟩ htr'
  | some cv =>
    refine wpAny_genexprCode_hit hcode (cd.code hPs htr) hf ?_
    exact cont cv s2.heap s2.toks ps (Heap.ExtBut.refl _ _) hPs ⟨#[], by simp⟩ htr

/-- all(elt for target in iter if ..), any(..) -/
def tAllG (P : Addr) (wi : TI) (g : TG) (tt : TT) (te : TE) (vs : List Nat) : TE := fun σ H Q => wi σ H fun J H1 => GxR.TabG H1 P ∧ ∀ H2, GxR.Tabbed P H1 H2 → ∃ W : Nat → Nat → Hp → Prop, (∃ m, W 0 m H2) ∧
  GTurn J g tt te vs σ (fun y => y = .bl true) (fun y H => y = .bl false ∧ Q (.bl false) H) (fun H => Q (.bl true) H) W
def tAnyG (P : Addr) (wi : TI) (g : TG) (tt : TT) (te : TE) (vs : List Nat) : TE := fun σ H Q => wi σ H fun J H1 => GxR.TabG H1 P ∧ ∀ H2, GxR.Tabbed P H1 H2 → ∃ W : Nat → Nat → Hp → Prop, (∃ m, W 0 m H2) ∧
  GTurn J g tt te vs σ (fun y => y = .bl false) (fun y H => y = .bl true ∧ Q (.bl true) H) (fun H => Q (.bl false) H) W
/-- the around of the element -/
abbrev gA (X : Cx) : Around := X.A.in1.in1
theorem pe_allG {c P : Addr} {elt tg iter : Expr} {ifs : List Expr} {p pos gpos : Pos} {scope : Scope} {own : List (Str × Nat)} {wi : TI} {g : TG} {tt : TT} {te : TE} {k : Nat}
    (hc : X.calm = true) (hN : X.N.Nodup) (hr : Room k X.A) (hgl : Gl X "all") (hm : X.mg "all" = none) (hb : bootBuiltins "all" = some (.builtin "all")) (TB : GxR.TabB X.base X.mg c P) (hcode : X.env.code = .ref c) (ok : BlkOk X.N X.env.scope scope own)
    (hcell : ∀ y ∈ scope.names, y.2 ≠ .cell) (h0 : scope.names.lookup (".0" : Str) = some NameKind.local) (hco : scope.isCoroutine = false)
    (hi : PI X tg iter wi) (hg : PGn X (gA X) scope tg g) (ht : PTn X (gA X) scope ifs tt) (he : PEn X (gA X) scope elt te) (hs : ∀ v, genFold iter X.env v = pure v)
    (hse : starEach [.GeneratorExp elt [⟨tg, iter, ifs, 0⟩] scope gpos] X.env = (false, eval (.GeneratorExp elt [⟨tg, iter, ifs, 0⟩] scope gpos) X.env) :: starEach [] X.env := by rfl) :
    PE X (.Call (.Name "all" p) [.GeneratorExp elt [⟨tg, iter, ifs, 0⟩] scope gpos] [] pos) (tAllG P wi g tt te (own.map (·.2))) := by
  refine ⟨fun pins s σ H Q I h => ?_⟩
  have hd : X.A.handled = none := I.ok.hd hc
  refine wpAny_Call_Name_kw (ld_blt I hgl hm hb ?_)
  refine PyProof.Rows.callWith_builtin1 ?_ hse (by rfl)
  rw [hse]
  show wpAny _ _ (spliced ((false, eval (.GeneratorExp elt [⟨tg, iter, ifs, 0⟩] scope gpos) X.env) :: backTo pos (starEach [] X.env))) _ _ s
  refine Calls.spliced_cons (gen_any (pins := pins) (A := gA X) hc hN hr hd I.ok.frames TB hcode ok hcell h0 hco hi hg ht he hs I h fun a s5 ⟨G, g, n, gs, hp, hw, hgen, hg5, hl5, hgs, hgo, hback⟩ => ?_)
  refine Calls.spliced_nil ?_
  refine call_function_tree F.kind_all F.plain_all F.entry_all (F.args_all1 _) ?_
  unfold Builtin.«all»
  refine wpAny_bind (m := oneArg "all" _) (wpAny_pure ?_)
  refine wpAny_bind (wpAny_pyIter_gen hg5 ?_)
  refine wpAny_pure ⟨plainId_quiet F.plain_all_loop _, all_loopG (G := G) (A := X.A) hp hw hd (by have := hr.dp; show X.A.depth < _; omega) hgen (fun pins' σ' H' s' I' q => ?_) (fun pins' σ' H' s' I' q => ?_) n s5 hg5 hl5 ⟨gs, hgs, hgo⟩⟩
  · exact ⟨.bl true, H', hback _ _ _ _ I', rfl, q⟩
  · exact ⟨.bl false, H', hback _ _ _ _ I', rfl, q⟩
theorem pe_anyG {c P : Addr} {elt tg iter : Expr} {ifs : List Expr} {p pos gpos : Pos} {scope : Scope} {own : List (Str × Nat)} {wi : TI} {g : TG} {tt : TT} {te : TE} {k : Nat}
    (hc : X.calm = true) (hN : X.N.Nodup) (hr : Room k X.A) (hgl : Gl X "any") (hm : X.mg "any" = none) (TB : GxR.TabB X.base X.mg c P) (hcode : X.env.code = .ref c) (ok : BlkOk X.N X.env.scope scope own)
    (hcell : ∀ y ∈ scope.names, y.2 ≠ .cell) (h0 : scope.names.lookup (".0" : Str) = some NameKind.local) (hco : scope.isCoroutine = false)
    (hi : PI X tg iter wi) (hg : PGn X (gA X) scope tg g) (ht : PTn X (gA X) scope ifs tt) (he : PEn X (gA X) scope elt te) (hs : ∀ v, genFold iter X.env v = pure v)
    (hse : starEach [.GeneratorExp elt [⟨tg, iter, ifs, 0⟩] scope gpos] X.env = (false, eval (.GeneratorExp elt [⟨tg, iter, ifs, 0⟩] scope gpos) X.env) :: starEach [] X.env := by rfl) :
    PE X (.Call (.Name "any" p) [.GeneratorExp elt [⟨tg, iter, ifs, 0⟩] scope gpos] [] pos) (tAnyG P wi g tt te (own.map (·.2))) := by
  refine ⟨fun pins s σ H Q I h => ?_⟩
  have hd : X.A.handled = none := I.ok.hd hc
  refine wpAny_Call_Name_kw (ld_blt I hgl hm boot_any ?_)
  refine PyProof.Rows.callWith_builtin1 ?_ hse (by rfl)
  rw [hse]
  show wpAny _ _ (spliced ((false, eval (.GeneratorExp elt [⟨tg, iter, ifs, 0⟩] scope gpos) X.env) :: backTo pos (starEach [] X.env))) _ _ s
  refine Calls.spliced_cons (gen_any (pins := pins) (A := gA X) hc hN hr hd I.ok.frames TB hcode ok hcell h0 hco hi hg ht he hs I h fun a s5 ⟨G, g, n, gs, hp, hw, hgen, hg5, hl5, hgs, hgo, hback⟩ => ?_)
  refine Calls.spliced_nil ?_
  refine call_function_tree F.kind_any F.plain_any F.entry_any (F.args_any1 _) ?_
  unfold Builtin.«any»
  refine wpAny_bind (m := oneArg "any" _) (wpAny_pure ?_)
  refine wpAny_bind (wpAny_pyIter_gen hg5 ?_)
  refine wpAny_pure ⟨plainId_quiet F.plain_any_loop _, any_loopG (G := G) (A := X.A) hp hw hd (by have := hr.dp; show X.A.depth < _; omega) hgen (fun pins' σ' H' s' I' q => ?_) (fun pins' σ' H' s' I' q => ?_) n s5 hg5 hl5 ⟨gs, hgs, hgo⟩⟩
  · exact ⟨.bl false, H', hback _ _ _ _ I', rfl, q⟩
  · exact ⟨.bl true, H', hback _ _ _ _ I', rfl, q⟩
theorem room_gA {k : Nat} (r : Room (k + 1) X.A) (env : Env) : Room k ((gA X).deeper env) :=
  ⟨r.hd, by have := r.dp; show X.A.depth + 1 + 3 * k + 5 < _; omega, by have := r.un; show X.A.units + 1 + 1 + 3 + 16 * k + 200 < _; omega⟩

theorem gt_range {lo : Int} {n : Nat} {g : TG} {tt : TT} {te : TE} {vs : List Nat} {σ : L2.St} {H1 : Hp} {Go : V → Prop} {Stp : V → Hp → Prop} {Fin : Hp → Prop} (Pv : Nat → Hp → Prop) (h0 : Pv 0 H1)
    (hs : ∀ i H, i < n → Pv i H → g (.int (lo + i)) (wipe σ vs) H fun σ2 H2 => wipe σ2 vs = wipe σ vs ∧ tt σ2 H2 fun b H3 =>
      if b = true then te σ2 H3 fun y H4 => (Go y ∧ Pv (i + 1) H4) ∨ Stp y H4 else Pv (i + 1) H3) (hd : ∀ H, Pv (n) H → Fin H) :
    ∃ W : Nat → Nat → Hp → Prop, (∃ m, W 0 m H1) ∧ GTurn (Itr lo n) g tt te vs σ Go Stp Fin W := by
  refine ⟨fun i m H => m = n - i ∧ i ≤ n ∧ Pv i H, ⟨n, by simp, Nat.zero_le _, h0⟩, ?_⟩
  rintro i m H ⟨rfl, hi, p⟩
  by_cases hlt : i < n
  · refine .inr ⟨hlt, Pv (i + 1), fun H' p' => ⟨n - (i + 1), by omega, rfl, hlt, p'⟩, fun x H' y => ?_⟩
    obtain ⟨e, y⟩ := y
    subst e
    subst y
    exact hs i _ hlt p
  · have e : i = n := by omega
    subst e
    exact .inl ⟨Nat.le_refl _, hd _ p⟩

theorem gt_list {K : PySem.W.Frag} {a : Addr} {xs : List V} {g : TG} {tt : TT} {te : TE} {vs : List Nat} {σ : L2.St} {H1 : Hp} {Go : V → Prop} {Stp : V → Hp → Prop} {Fin : Hp → Prop} (Pv : Nat → Hp → Prop) (h0 : Pv 0 H1) (hl : ∀ i H, i ≤ xs.length → Pv i H → SqL K H a xs)
    (hs : ∀ i x H, xs[i]? = some x → Pv i H → g x (wipe σ vs) H fun σ2 H2 => wipe σ2 vs = wipe σ vs ∧ tt σ2 H2 fun b H3 =>
      if b = true then te σ2 H3 fun y H4 => (Go y ∧ Pv (i + 1) H4) ∨ Stp y H4 else Pv (i + 1) H3) (hd : ∀ H, Pv (xs.length) H → Fin H) :
    ∃ W : Nat → Nat → Hp → Prop, (∃ m, W 0 m H1) ∧ GTurn (Itl K a) g tt te vs σ Go Stp Fin W := by
  refine ⟨fun i m H => m = xs.length - i ∧ i ≤ xs.length ∧ Pv i H, ⟨xs.length, by simp, Nat.zero_le _, h0⟩, ?_⟩
  rintro i m H ⟨rfl, hi, p⟩
  by_cases hlt : i < xs.length
  · have q := hl i H hi p
    refine .inr ⟨⟨xs, xs[i], q, by simp [hlt]⟩, Pv (i + 1), fun H' p' => ⟨xs.length - (i + 1), by omega, rfl, hlt, p'⟩, fun x H' y => ?_⟩
    obtain ⟨e, y⟩ := y
    subst e
    exact hs i x _ (y xs q) p
  · have q := hl i H hi p
    have e : i = xs.length := by omega
    subst e
    exact .inl ⟨⟨xs, q, Nat.le_refl _⟩, hd _ p⟩

theorem gt_tup {K : PySem.W.Frag} {a : Addr} {xs : List V} {g : TG} {tt : TT} {te : TE} {vs : List Nat} {σ : L2.St} {H1 : Hp} {Go : V → Prop} {Stp : V → Hp → Prop} {Fin : Hp → Prop} (Pv : Nat → Hp → Prop) (h0 : Pv 0 H1) (hl : ∀ i H, i ≤ xs.length → Pv i H → SqT K H a xs)
    (hs : ∀ i x H, xs[i]? = some x → Pv i H → g x (wipe σ vs) H fun σ2 H2 => wipe σ2 vs = wipe σ vs ∧ tt σ2 H2 fun b H3 =>
      if b = true then te σ2 H3 fun y H4 => (Go y ∧ Pv (i + 1) H4) ∨ Stp y H4 else Pv (i + 1) H3) (hd : ∀ H, Pv (xs.length) H → Fin H) :
    ∃ W : Nat → Nat → Hp → Prop, (∃ m, W 0 m H1) ∧ GTurn (Itt K a) g tt te vs σ Go Stp Fin W := by
  refine ⟨fun i m H => m = xs.length - i ∧ i ≤ xs.length ∧ Pv i H, ⟨xs.length, by simp, Nat.zero_le _, h0⟩, ?_⟩
  rintro i m H ⟨rfl, hi, p⟩
  by_cases hlt : i < xs.length
  · have q := hl i H hi p
    refine .inr ⟨⟨xs, xs[i], q, by simp [hlt]⟩, Pv (i + 1), fun H' p' => ⟨xs.length - (i + 1), by omega, rfl, hlt, p'⟩, fun x H' y => ?_⟩
    obtain ⟨e, y⟩ := y
    subst e
    exact hs i x _ (y xs q) p
  · have q := hl i H hi p
    have e : i = xs.length := by omega
    subst e
    exact .inl ⟨⟨xs, q, Nat.le_refl _⟩, hd _ p⟩

theorem gt_str {a : Str} {g : TG} {tt : TT} {te : TE} {vs : List Nat} {σ : L2.St} {H1 : Hp} {Go : V → Prop} {Stp : V → Hp → Prop} {Fin : Hp → Prop} (Pv : Nat → Hp → Prop) (h0 : Pv 0 H1)
    (hs : ∀ i c H, a.cps[i]? = some c → Pv i H → g (.str ⟨#[c]⟩) (wipe σ vs) H fun σ2 H2 => wipe σ2 vs = wipe σ vs ∧ tt σ2 H2 fun b H3 =>
      if b = true then te σ2 H3 fun y H4 => (Go y ∧ Pv (i + 1) H4) ∨ Stp y H4 else Pv (i + 1) H3) (hd : ∀ H, Pv (a.cps.size) H → Fin H) :
    ∃ W : Nat → Nat → Hp → Prop, (∃ m, W 0 m H1) ∧ GTurn (Its a) g tt te vs σ Go Stp Fin W := by
  refine ⟨fun i m H => m = a.cps.size - i ∧ i ≤ a.cps.size ∧ Pv i H, ⟨a.cps.size, by simp, Nat.zero_le _, h0⟩, ?_⟩
  rintro i m H ⟨rfl, hi, p⟩
  by_cases hlt : i < a.cps.size
  · refine .inr ⟨hlt, Pv (i + 1), fun H' p' => ⟨a.cps.size - (i + 1), by omega, rfl, hlt, p'⟩, fun x H' y => ?_⟩
    obtain ⟨e, c, hc, y⟩ := y
    subst e
    subst y
    exact hs i c _ hc p
  · have e : i = a.cps.size := by omega
    subst e
    exact .inl ⟨Nat.le_refl _, hd _ p⟩
end
end GG

set_option Elab.async false
set_option linter.all false
set_option maxRecDepth 100000
set_option maxHeartbeats 4000000
/-! the rules whose reading names the context's K, with K given: for use inside comprehensions -/
namespace GK
open PySem PySem.Spec PyProof.Rows L2
section
variable {X : Cx} {pos : Pos}
theorem ixQK (K : PySem.W.Frag) (h : X.K = K := by rfl) : IxR X (rIx K) := by subst h; exact ix_seq
theorem ixLK (K : PySem.W.Frag) (h : X.K = K := by rfl) : IxR X (rIxL K) := by subst h; exact ix_list
theorem ixTK (K : PySem.W.Frag) (h : X.K = K := by rfl) : IxR X (rIxT K) := by subst h; exact ix_tup
theorem slTK (K : PySem.W.Frag) (h : X.K = K := by rfl) : SlR X (rSlT K) := by subst h; exact sl_tup
theorem slLK (K : PySem.W.Frag) (h : X.K = K := by rfl) : SlR X (rSlL K) := by subst h; exact sl_list
def rTupOf (K : PySem.W.Frag) : List V → Hp → VK → Prop := fun xs H Q => ∃ p ys, xs = [V.ref p] ∧ ((SqL K H p ys ∧ ∀ l, H l = none → Q (.ref l) (upd H l (.tup ys))) ∨ (SqT K H p ys ∧ Q (.ref p) H))
theorem tupOfK (K : PySem.W.Frag) (h : X.K = K := by rfl) : CallR X (.type "tuple") (rTupOf K) := by subst h; exact call_tuple_of
def rListOf (K : PySem.W.Frag) : List V → Hp → VK → Prop := fun xs H Q => ∃ p ys, xs = [.ref p] ∧ (SqL K H p ys ∨ SqT K H p ys) ∧ ∀ l, H l = none → Q (.ref l) (upd H l (.lst ys))
theorem listOfK (K : PySem.W.Frag) (h : X.K = K := by rfl) : CallR X (.type "list") (rListOf K) := by subst h; exact call_list_of
def rLen (K : PySem.W.Frag) : List V → Hp → VK → Prop := fun xs H Q => ∃ p ys, xs = [V.ref p] ∧ (SqL K H p ys ∨ SqT K H p ys) ∧ Q (.int ys.length) H
theorem lenK (K : PySem.W.Frag) (h : X.K = K := by rfl) : CallR X (.builtin "len") (rLen K) := by subst h; exact call_len_seq
theorem isiK (K : PySem.W.Frag) (h : X.K = K := by rfl) : CallR X (.builtin "isinstance") (rIsi K) := by subst h; exact call_isi
theorem inK (K : PySem.W.Frag) (h : X.K = K := by rfl) : OpR X (compareOp .In) (rIn K false) := by subst h; exact op_in_seq
theorem notInK (K : PySem.W.Frag) (h : X.K = K := by rfl) : OpR X (compareOp .NotIn) (rIn K true) := by subst h; exact op_notIn_seq
theorem eqDK (K : PySem.W.Frag) (hu : X.A.units + 64 < cLine) (h : X.K = K := by rfl) : OpR X (compareOp .Eq) (rEqD K) := by subst h; exact op_eqD hu
theorem neDK (K : PySem.W.Frag) (hu : X.A.units + 64 < cLine) (h : X.K = K := by rfl) : OpR X (compareOp .NotEq) (rNeD K) := by subst h; exact op_neD hu
theorem pgTK (K : PySem.W.Frag) {es : List Expr} {k : Nat} {t : TGs} {n : Nat} (hc : X.calm = true) (h : PGs X es t) (hn : (assignEach es X.env).length = n := by rfl) (hst : (assignEach es X.env).findIdx? (·.1) = none := by rfl) (hk : X.K = K := by rfl) : PG X (.Tuple es k pos) (gTup K n t) := by
  subst hk
  exact pg_tup hc h hn hst
theorem pgLK (K : PySem.W.Frag) {es : List Expr} {k : Nat} {t : TGs} {n : Nat} (hc : X.calm = true) (h : PGs X es t) (hn : (assignEach es X.env).length = n := by rfl) (hst : (assignEach es X.env).findIdx? (·.1) = none := by rfl) (hk : X.K = K := by rfl) : PG X (.Tuple es k pos) (gLst K n t) := by
  subst hk
  exact pg_lst hc h hn hst
theorem fldK (K : PySem.W.Frag) {e : Expr} {f : Str} {ta : TE} (he : PE X e ta) (hb : attributeBase e f X.env (eval e X.env) = eval e X.env) (hk : X.K = K := by rfl) : PE X (.Attribute e f pos) (tFld K ta f) := by
  subst hk
  exact pe_fld he hb
end
end GK

set_option Elab.async false
set_option linter.all false
set_option maxRecDepth 100000
set_option maxHeartbeats 4000000
/-! a def that an except suite calls, handed the exception: isinstance of it, a comprehension over a list of truth values -/
namespace GE
open PySem PySem.Spec PyProof.Rows L2 HotX L2H
section
variable {prog : Program} {w : World} {A : Around} {E : Value → Shared → Prop} {s : Shared}
/-- the end of a list's iterator, an exception being handled -/
theorem next_list_end_hot {it l x1 : Addr} {i : Nat} {items} {Q : Option Value → Shared → Prop} (hot : HotAt A x1 s.heap) (nx : x1 ≠ it)
    (hit : s.heap.IsListIter it l i) (hl : s.heap.IsList l items) (hx : items[i]? = none)
    (hQ : ∀ h', (∀ b o, b ≠ it → s.heap.get? b = some o → h'.get? b = some o) → Q none { s with heap := h' }) : wpAny (model prog w) A (pyNext (.ref it)) Q E s := by
  obtain ⟨o, ho, hc, hd⟩ := id hit
  obtain ⟨ol, hol, _, nl, hdl⟩ := hl
  obtain ⟨hh, o1, vs1, h1, d1, c1⟩ := hot
  unfold pyNext
  refine wpAny_bind (wpAny_attempt (wpAny_callSpecial?_slot (name := Str.ofString "__next__") hit.typeIs slot_listiter_next
    (wpAny_call_entry slot_listiter_next hit.typeIs entry_listiter_next ?_ (args_listiter_next _))))
  show wpAny _ _ (field (.ref it) 0 >>= _) _ _ s
  refine wpAny_bind (wpAny_field ho hd (x := .ref l) rfl ?_)
  show wpAny _ _ (if (Value.ref l == Value.none) = true then _ else _) _ _ s
  rw [if_neg (show ¬ ((Value.ref l == Value.none) = true) from Bool.false_ne_true)]
  show wpAny _ _ (field (.ref it) 1 >>= _) _ _ s
  refine wpAny_bind (wpAny_field ho hd (x := .int i 0) rfl ?_)
  show wpAny _ _ (seqItems? (.ref l) >>= _) _ _ s
  refine wpAny_bind (wpAny_seqItems hol hdl ?_)
  simp only [Int.toNat_natCast, hx]
  refine wpAny_bind (wpAny_rule (wpAny_bind (wpAny_setField ho hd (by simp) ?_)))
  generalize hgen : s.heap.update it _ = h2
  have keep : ∀ b u, b ≠ it → s.heap.get? b = some u → h2.get? b = some u := fun b u nb e => by
    rw [← hgen, Heap.get?_update_other _ _ (Ne.symm nb)]
    exact e
  have h1' : h2.get? x1 = some o1 := keep _ _ nx h1
  show wpAny _ _ (newExc (.type "StopIteration") [] >>= _) _ _ _
  refine wpAny_bind ?_
  simp only [newExc, newTuple]
  refine wpAny_bind (wpAny_newObj_type ?_ (by size_fits))
  refine wpAny_bind (m := firstArgMember _ _) (wpAny_of_eq (a := Value.none) (by first | rfl | (simp only [firstArgMember]; rfl)) ?_)
  refine wpAny_newObj_type ?_ (by size_fits)
  refine raiseNew_hot (x1 := x1) ⟨hh, o1, vs1, Heap.get?_push_of_some _ (Heap.get?_push_of_some _ h1'), d1, c1⟩ (Nat.ne_of_lt (Heap.lt_size (Heap.get?_push_of_some _ h1'))) (Heap.get?_push_size _ rfl) rfl (by first | (simp; done) | (simp; omega) | (simp only [Array.size_append]; simp; omega)) ?_
  refine wpAny_bind (wpAny_isInstance (T := "StopIteration") (b := true) ⟨_, Heap.get?_update_self _ (Heap.get?_push_size _ rfl) rfl, rfl⟩ isSubtype_stop ?_)
  refine wpAny_pure (hQ _ fun b u nb e => ?_)
  have e2 := keep b u nb e
  rw [Heap.get?_update_other _ _ (Nat.ne_of_gt (Heap.lt_size (Heap.get?_push_of_some _ e2)))]
  exact Heap.get?_push_of_some _ (Heap.get?_push_of_some _ e2)
end
/-- the handled exception stands in the state at which the context starts -/
structure HotB (X : Cx) (x1 : Addr) (o : Obj) : Prop where
  hot : Hot1 X.A (x1, o)
  get : X.s_0.heap.get? x1 = some o
  free : X.H_0 x1 = none
  nofs : x1 ∉ X.fs
  noex : x1 ∉ X.ex
theorem HotB.stay {X : Cx} {x1 : Addr} {o : Obj} (c : HotB X x1 o) {pins : List (Addr × Obj)} {σ : L2.St} {H : Hp} {s : Shared} (I : Inv X pins σ H s) : s.heap.get? x1 = some o := I.base.keep _ _ c.get c.free c.nofs c.noex
theorem HotB.no {X : Cx} {x1 : Addr} {o : Obj} (c : HotB X x1 o) {pins : List (Addr × Obj)} {σ : L2.St} {H : Hp} {s : Shared} (I : Inv X pins σ H s) : H x1 = none := I.base.free _ _ c.get c.free c.noex
theorem HotB.at {X : Cx} {x1 : Addr} {o : Obj} (c : HotB X x1 o) {pins : List (Addr × Obj)} {σ : L2.St} {H : Hp} {s : Shared} (I : Inv X pins σ H s) : HotAt X.A x1 s.heap := by
  obtain ⟨hh, v1, e1, c1⟩ := c.hot
  exact ⟨hh, o, v1, c.stay I, e1, c1⟩
section
variable {X : Cx}
theorem sameUpd {H : Hp} {a : Addr} {o : HO} (h : H a = none) : Same H (upd H a o) := fun b u e => by
  rw [upd_ne (fun z => by rw [z, h] at e; cases e)]
  exact e
def tTrue (K : PySem.W.Frag) (ti : TE) : TE := fun σ H Q => ti σ H fun v H1 => ∃ (a : Addr) (bs : List Bool), v = .ref a ∧ SqL K H1 a (bs.map V.bl) ∧ ∀ D, H1 D = none → Q (.ref D) (upd H1 D (.lst ((bs.filter id).map V.bl)))
/-- [x for x in xs if x], xs a list of truth values, an exception being handled -/
theorem pe_lcTrue {x : Str} {i : Nat} {iter : Expr} {p1 p2 p4 pos : Pos} {scope : Scope} {own : List (Str × Nat)} {ti : TE} {x1 : Addr} {o1 : Obj} (hc : HotB X x1 o1) (hN : X.N.Nodup) (hi : PE X iter ti) (ok : BlkOk X.N X.env.scope scope own) (hx : i ∈ own.map (·.2)) (hil : i < X.N.length)
    (hg : ∀ (s : Shared) (H : Hp) (C : Addr) (cl : List (Str × Addr)) (fp : List Addr), PG (X.blk s H scope (compEnvC scope cl C X.env) fp) (.Name x p2) (gName i))
    (ht : ∀ (s : Shared) (H : Hp) (C : Addr) (cl : List (Str × Addr)) (fp : List Addr), PTs (X.blk s H scope (compEnvC scope cl C X.env) fp) [.Name x p4] (tB (tVar i)))
    (he : ∀ (s : Shared) (H : Hp) (C : Addr) (cl : List (Str × Addr)) (fp : List Addr), PE (X.blk s H scope (compEnvC scope cl C X.env) fp) (.Name x p1) (tVar i)) (hs : ∀ x, foldedSetIterable iter X.env x = pure x := by intro _; rfl) :
    PE X (.ListComp (.Name x p1) [⟨.Name x p2, iter, [.Name x p4], 0⟩] scope pos) (tTrue X.K ti) := by
  refine ⟨fun pins s σ H Q I h => ?_⟩
  have hfree : ∀ y ∈ scope.names, y.2 = .free → ∃ c, X.env.cells.lookup y.1 = some c := fun y hy e => by
    rcases ok.free y hy e with k | k
    · exact I.ok.has _ (.inl k)
    · exact I.ok.has _ (.inr k)
  rw [eval_ListComp]
  refine wpAny_comprehension_free (use := none) rfl hs (closure_ok hfree) ok.kind (fun y hy e => by rw [ok.uniq y hy, e]) (thn (hi.run pins s σ H _ I h) fun u s1 ⟨v, H1, I1, r1, a, bs, ev, hq, q⟩ => ?_)
  subst ev
  cases r1
  obtain ⟨its, rv, p, hz⟩ := I1.list hq
  have hlen : its.length = bs.length := by rw [← rv.length, List.length_map]
  refine wpAny_pyIter_list p.isList ?_
  -- the iterator, the new list
  generalize hit : s1.heap.objs.size = it
  have itn : H1 it = none := I1.hok.fresh (Nat.le_of_eq hit)
  have fit : FpOk X pins H1 it := I1.fpOk (Nat.le_of_eq hit) itn
  generalize hs2 : ({ s1 with heap := s1.heap.push { cls := .type "list_iterator", data := .fields #[.ref a, .int 0 0] } } : Shared) = s2
  have I2 : Inv X pins σ H1 s2 := by
    rw [← hs2]
    exact I1.kept (t' := s1.toks) fun b o e => Heap.get?_push_of_some _ e
  have st2 : s2.heap.IsListIter it a 0 := by
    rw [← hs2, ← hit]
    exact ⟨_, Heap.get?_push_size _ rfl, rfl, rfl⟩
  refine wpAny_newObj_type (newEnv_comp ?_) (by show 0 ≤ sizeLine; decide)
  generalize hD : s2.heap.objs.size = D
  have hDn : H1 D = none := I2.hok.fresh (Nat.le_of_eq hD)
  generalize hs3 : ({ s2 with heap := s2.heap.push { cls := .type "list", data := .seq ([] : List Value).toArray } } : Shared) = s3
  have I3 : Inv X pins σ (upd H1 D (.lst [])) s3 := by
    rw [← hs3]
    refine I2.laid (t' := s2.toks) (fun b o e => Heap.get?_push_of_some _ e) (Nat.le_of_eq hD) ⟨Nat.zero_le _, [], 0, .nil, ?_⟩
    rw [← hD]
    exact Heap.get?_push_size _ rfl
  have itlt : it < s2.heap.objs.size := by
    obtain ⟨o, e, _⟩ := st2
    exact Heap.lt_size e
  have nDi : it ≠ D := by rw [← hD]; exact Nat.ne_of_lt itlt
  have k23 : ∀ b o, s2.heap.get? b = some o → s3.heap.get? b = some o := fun b o e => by
    rw [← hs3]
    exact Heap.get?_push_of_some _ e
  have st3 : s3.heap.IsListIter it a 0 := st2.at (k23 it)
  have f3 : ∀ b ∈ [it], FpOk X pins (upd H1 D (.lst [])) b ∧ b < s3.heap.objs.size := fun b hb => by
    rw [List.mem_singleton.mp hb]
    refine ⟨⟨?_, fit.2⟩, ?_⟩
    · rw [upd_ne nDi]
      exact itn
    · rw [← hs3]
      show it < (s2.heap.push _).objs.size
      rw [Heap.size_push]
      exact Nat.lt_succ_of_lt itlt
  have I4 := block_start I3 ok hN f3
  have hq3 : SqL X.K (upd H1 D (.lst [])) a (bs.map V.bl) := (sameUpd hDn).seq hq
  generalize hH3 : upd H1 D (.lst []) = H3 at I3 I4 f3 hq3
  have pg := hg s3 H3 s3.heap.objs.size (cellsFrom (s3.heap.objs.size + 1) scope.names (cloFrom X.env.cells scope.names [])) [it]
  have pt := ht s3 H3 s3.heap.objs.size (cellsFrom (s3.heap.objs.size + 1) scope.names (cloFrom X.env.cells scope.names [])) [it]
  have pe := he s3 H3 s3.heap.objs.size (cellsFrom (s3.heap.objs.size + 1) scope.names (cloFrom X.env.cells scope.names [])) [it]
  show codeAny _ _ (.compStart (.ListComp (.Name x p1) [⟨.Name x p2, iter, [.Name x p4], 0⟩] scope pos) 0 (.ref it) (.ref D) (compEnvC scope (cellsFrom (s3.heap.objs.size + 1) scope.names (cloFrom X.env.cells scope.names [])) s3.heap.objs.size X.env)) _ { s3 with heap := pushCells (s3.heap.push { cls := .type "dict", data := .dict #[] }) scope.names }
  generalize hce : compEnvC scope (cellsFrom (s3.heap.objs.size + 1) scope.names (cloFrom X.env.cells scope.names [])) s3.heap.objs.size X.env = ce at I4 pg pt pe ⊢
  have cL : ce.locals = s3.heap.objs.size := by subst hce; rfl
  generalize hs4 : ({ s3 with heap := pushCells (s3.heap.push { cls := .type "dict", data := .dict #[] }) scope.names } : Shared) = s4 at I4 ⊢
  have st4 : s4.heap.IsListIter it a 0 := st3.at fun o e => by
    rw [← hs4]
    exact pushCells_keeps _ _ _ _ (Heap.get?_push_of_some _ e)
  -- the handled exception in the block
  have hs3g : s3.heap.get? x1 = some o1 := hc.stay I3
  have nx : x1 ≠ it := fun z => by
    have e := hc.stay I1
    rw [z] at e
    exact absurd (Heap.lt_size e) (by rw [hit]; exact Nat.lt_irrefl _)
  have hb : HotB (X.blk s3 H3 scope ce [it]) x1 o1 := ⟨hc.hot, hs3g, hc.no I3, fun m => by
    rcases List.mem_cons.mp (I3.stkSub x1 m) with z | z
    · exact absurd (Heap.lt_size hc.get) (by rw [z]; exact Nat.not_lt_of_le I3.ok.above)
    · exact hc.nofs z, fun m => nx (List.mem_singleton.mp m)⟩
  have stat : ∀ {σ' : L2.St} {H' : Hp} {s' : Shared}, Inv (X.blk s3 H3 scope ce [it]) [] σ' H' s' → H' it = none → ∀ b ∈ [it], FpOk (X.blk s3 H3 scope ce [it]) [] H' b := fun {σ' H' s'} I' hn b hb => by
    have e := List.mem_singleton.mp hb
    subst e
    exact ⟨hn, (I'.ok.exf b hb).1, I'.ok.exfs b hb, .inl hb, fun x c e => (I'.ok.exf b hb).2 x c e, fun p hp => absurd (show p ∈ ([] : List (Addr × Obj)) ++ [] from hp) (by simp)⟩
  have acc0 : (bs.take 0).filter id = [] := rfl
  have hlk : (wipe σ (own.map (·.2)))[i]? = some none := by
    have hl : i < (wipe σ (own.map (·.2))).length := by rw [wipe_length, I.len]; exact hil
    cases e : (wipe σ (own.map (·.2)))[i]? with
    | none => rw [List.getElem?_eq_none_iff] at e; omega
    | some z =>
      cases z with
      | none => rfl
      | some v => exact absurd hx (wipe_some e).2
  have loop : codeAny (model X.prog X.w) X.A (.compLoop (.ListComp (.Name x p1) [⟨.Name x p2, iter, [.Name x p4], 0⟩] scope pos) 0 (.ref it) (.ref D) ce) (compPost (model X.prog X.w) X.A X.xe none (fun v s' => EP X pins σ Q v s') (.ref D) s3.heap.objs.size) s4 := by
    refine compLoop_any (fun n s' => ∃ k, Inv (X.blk s3 H3 scope ce [it]) [] (wipe σ (own.map (·.2))) (upd H3 D (.lst (((bs.take k).filter id).map V.bl))) s' ∧ s'.heap.IsListIter it a k ∧ k ≤ bs.length ∧ n = bs.length - k) ?_ bs.length ⟨0, ?_, st4, Nat.zero_le _, rfl⟩
    · rintro n s5 ⟨k, I5, st5, hk, rfl⟩
      have nH3 : H3 it = none := (f3 it List.mem_cons_self).1.1
      have n5 : upd H3 D (.lst (((bs.take k).filter id).map V.bl)) it = none := by rw [upd_ne nDi]; exact nH3
      have hq5 : SqL X.K (upd H3 D (.lst (((bs.take k).filter id).map V.bl))) a (bs.map V.bl) := by
        rw [← hH3, upd_upd]
        exact (sameUpd hDn).seq hq
      obtain ⟨its5, rv5, p5, hz5⟩ := I5.list hq5
      have hl5 : its5.length = bs.length := by rw [← rv5.length, List.length_map]
      obtain ⟨f0, f1, f2, f3', f4, f5⟩ := stat I5 n5 it List.mem_cons_self
      by_cases hend : k = bs.length
      · -- no item is left
        subst hend
        refine next_list_end_hot (hb.at I5) nx st5 p5.isList (by simp [hl5]) fun h' kk => ?_
        have I6 : Inv (X.blk s3 H3 scope ce [it]) [] (wipe σ (own.map (·.2))) (upd H3 D (.lst (((bs.take bs.length).filter id).map V.bl))) { s5 with heap := h' } := I5.turned (t' := s5.toks) (fun b o nb e => kk b o nb e) f0 f1 f3' f4 f5
        have I7 : Inv X pins σ (upd H3 D (.lst (((bs.take bs.length).filter id).map V.bl))) { s5 with heap := h' } := I3.call' (ch := [it]) I6.os I6.base I6.hok I6.bare fun b hb => ⟨(f3 b hb).1.2.2.2.1, (f3 b hb).1.2.1, (f3 b hb).1.2.2.2.2.1, (f3 b hb).1.2.2.2.2.2⟩
        have nC : (upd H3 D (.lst (((bs.take bs.length).filter id).map V.bl))) s3.heap.objs.size = none := by
          have z := I6.free
          rw [show (X.blk s3 H3 scope ce [it]).env.locals = s3.heap.objs.size from cL] at z
          exact z
        obtain ⟨m, hn, _⟩ := I6.loc
        have hn : h'.Ns ce.locals m := hn
        rw [cL] at hn
        obtain ⟨g0, g1, g2, g3, g4, g5⟩ := I3.fpOk (Nat.le_refl _) nC
        refine ⟨m, hn, fun h'' sb => ⟨.ref D, _, I7.turned (t' := s5.toks) (fun b o hb e => (sb.2 b hb).trans e) g0 g1 g3 g4 g5, rfl, ?_⟩⟩
        have z := q D hDn
        rw [List.take_length, ← hH3, upd_upd]
        exact z
      · have hlt : k < bs.length := by omega
        have hx5 : (bs.map V.bl)[k]? = some (.bl bs[k]) := by rw [List.getElem?_map, List.getElem?_eq_getElem hlt]; rfl
        obtain ⟨u, hu, ru⟩ := rv5.get hx5
        cases ru
        refine wpAny_pyNext_list_item st5 p5.isList (x := .bool bs[k]) (by simpa using hu) fun h' st' sb => ?_
        have I6 : Inv (X.blk s3 H3 scope ce [it]) [] (wipe σ (own.map (·.2))) (upd H3 D (.lst (((bs.take k).filter id).map V.bl))) { s5 with heap := h' } := I5.turned (t' := s5.toks) (fun b o hb e => (sb.2 b hb).trans e) f0 f1 f3' f4 f5
        obtain ⟨o, e, c, d⟩ := id st'
        refine go_of (s := { s5 with heap := h' }) e c d (by decide) ?_
        have objs : ∀ b ∈ [it], ∃ o, h'.get? b = some o ∧ ∀ v, o.data ≠ .cell v := fun b hb => by
          rw [List.mem_singleton.mp hb]
          exact ⟨o, e, fun v z => by rw [d] at z; cases z⟩
        have I6' := I6.pinned (stat I6 n5) objs
        have pin2 : ∀ {σ' : L2.St} {H' : Hp} {s' : Shared}, Inv (X.blk s3 H3 scope ce [it]) ([] ++ pinsAt [it] h') σ' H' s' → s'.heap.IsListIter it a (k + 1) := fun {σ' H' s'} I' => st'.at fun o e => (I'.pin (it, o) (List.mem_append_right _ (List.mem_append_right _ (mem_pinsAt List.mem_cons_self e)))).1
        refine thnF (pg.run _ _ _ _ (.bl bs[k]) (.bool bs[k]) (fun σ2 H2 => σ2 = (wipe σ (own.map (·.2))).set i (some (.bl bs[k])) ∧ H2 = upd H3 D (.lst (((bs.take k).filter id).map V.bl))) I6' rfl ⟨rfl, rfl⟩) fun _ s8 ⟨σ8, H8, I8, e8, e8'⟩ => ?_
        subst e8 e8'
        have hli : i < (wipe σ (own.map (·.2))).length := by rw [wipe_length, I.len]; exact hil
        have hsl : ((wipe σ (own.map (·.2))).set i (some (.bl bs[k])))[i]? = some (some (.bl bs[k])) := List.getElem?_set_self hli
        refine thnF (pt.run _ s8 _ _ (fun b H9 => b = bs[k] ∧ H9 = upd H3 D (.lst (((bs.take k).filter id).map V.bl))) I8 ⟨_, hsl, _, rfl, rfl, rfl⟩) fun b s9 ⟨H9, I9, e9, e9'⟩ => ?_
        subst e9 e9'
        -- the turn's end
        have tk : (bs.take (k + 1)).filter id = (bs.take k).filter id ++ (if bs[k] = true then [bs[k]] else []) := by
          rw [List.take_succ, List.getElem?_eq_getElem hlt, List.filter_append]
          cases bs[k] <;> rfl
        have fin : ∀ {s' : Shared}, Inv (X.blk s3 H3 scope ce [it]) ([] ++ pinsAt [it] h') ((wipe σ (own.map (·.2))).set i (some (.bl bs[k]))) (upd H3 D (.lst (((bs.take (k + 1)).filter id).map V.bl))) s' →
            ∃ m, m < bs.length - k ∧ ∃ k, Inv (X.blk s3 H3 scope ce [it]) [] (wipe σ (own.map (·.2))) (upd H3 D (.lst (((bs.take k).filter id).map V.bl))) s' ∧ s'.heap.IsListIter it a k ∧ k ≤ bs.length ∧ m = bs.length - k := fun {s'} I' => by
          refine ⟨bs.length - (k + 1), by omega, k + 1, (I'.unpinned (pins := [])).weak (by rw [List.length_set]) (fun j v e => ?_), pin2 I', hlt, rfl⟩
          by_cases ji : i = j
          · subst ji
            rw [hlk] at e
            cases e
          · rw [List.getElem?_set_ne ji]
            exact e
        cases hbk : bs[k] with
        | false =>
          rw [hbk] at I9
          simp only [Bool.false_eq_true, if_false]
          refine fin ?_
          rw [tk, hbk]
          simpa using I9
        | true =>
          simp only [if_true]
          refine thnF (pe.run _ s9 _ _ (fun y H10 => y = .bl true ∧ H10 = upd H3 D (.lst (((bs.take k).filter id).map V.bl))) I9 ⟨_, by rw [hsl, hbk], rfl, rfl⟩) fun z s10 ⟨yv, H10, I10, r10, e10, e10'⟩ => ?_
          subst e10 e10'
          refine app_ok (X := X.blk s3 H3 scope ce [it]) I10 upd_same ?_ r10 fun s11 I11 => fin ?_
          · have l1 := List.length_filter_le id (bs.take k)
            rw [List.length_take] at l1
            have l2 : (bs.map V.bl).length = bs.length := List.length_map _
            rw [List.length_map]
            have l3 : min k bs.length = k := Nat.min_eq_left (by omega)
            rw [l3] at l1
            omega
          · rw [tk, hbk]
            rw [upd_upd, hbk] at I11
            simpa using I11
    · show Inv _ _ _ (upd H3 D (.lst [])) s4
      rw [show upd H3 D (.lst []) = H3 from by rw [← hH3, upd_upd]]
      exact I4
  exact codeAny_compStart_list loop (wpAny_pyIter_listiter st4 loop)
end
/-! ### a def that the suite calls, handed the exception -/
structure FnW (P : Program) (w : World) (K : PySem.W.Frag) (mg : Str → Option Value) (base : Heap) (CX : CXT) (k : Nat) (f : Addr) (fd : FuncData) (ps : List Str) (Z : Obj → Prop) (sp : Addr → Sp) : Prop where
  len : ∀ a vs H Q E, sp a vs H Q E → vs.length = ps.length
  run : ∀ (A : Around) (outer : List Env) (s : Shared) (H : Hp) (args : Args) (us : List Value) (vs : List V) (Q : VK) (E : XK) (p : Addr × Obj), RoomH k A → Hot1 A p → PinOk outer H s p → Z p.2 → Env0 P w K mg base A outer s H → BindsTo s fd args (ps.zip us) → Vals vs us → sp p.1 vs H Q E →
    codeAny (model P w) A (.call (.ref f) args) (CR CX outer P w H s Q E) s
section
variable {P : Program} {w : World} {K : PySem.W.Frag} {mg : Str → Option Value} {base : Heap} {CX : CXT} {Z : Obj → Prop}
theorem Fun.okW {x qual : Str} {st : Stmt} {f : Addr} {fd : FuncData} {N ps : List Str} {k : Nat} {sp : Addr → Sp} (F : Fun K x qual st f fd) (S : FnScope N ps (defScope st)) (len : ∀ a vs H Q E, sp a vs H Q E → vs.length = ps.length)
    (hbody : ∀ (cdv : Value) (A : Around) (outer : List Env) (s : Shared) (H : Hp) (vs : List V) (Q : VK) (E : XK) (p : Addr × Obj), Hot1 A p → Z p.2 → HotB (cxH CX P w K mg base N qual (defScope st) f cdv A outer s H E p) p.1 p.2 → RoomH k (A.deeper (envOfC qual (defScope st) s.heap.objs.size f cdv)) → sp p.1 vs H Q E →
      ∃ t, PSs (cxH CX P w K mg base N qual (defScope st) f cdv A outer s H E p) (defBody st) t ∧ t { nx := fun _ H' => Q .non H', rt := Q } (L2.start N vs) H) : FnW P w K mg base CX (k + 1) f fd ps Z sp := by
  obtain ⟨oc, od, kV, doc, pm, an, cdv, ct, osl, rfl, lk, hcd⟩ := F.ex
  refine ⟨len, fun A outer s H args us vs Q E p hr hot hpin hz e0 hb r hsp => ?_⟩
  have hl := len _ _ _ _ _ hsp
  have KX : K.In s.heap := e0.mod.kin.keeps fun b o e => (e0.bs b o e).1
  have lim : s.heap.NoLimit := e0.mod.nolimit.keeps fun b o e => (e0.bs b o e).1
  have hkind : ∀ y ∈ ps.zip us, (defScope st).names.lookup y.1 = some .local ∨ ((defScope st).names.lookup y.1 = some .cell ∧ ((cellsFrom (s.heap.objs.size + 1) (defScope st).names []).lookup y.1).isSome = true) := fun ⟨n, v⟩ hy => by
    rcases S.par n (List.of_mem_zip hy).1 with q | q
    · exact .inl q
    · exact .inr ⟨q, PySem.W.cellsFrom_some _ _ _ (.inl q)⟩
  refine codeAny_call_function hr.depth (KX _ _ lk) rfl S.co S.gen rfl (PySem.W.codeRec_of KX hcd) (hb _ _ _ _ ?_)
  refine wpAny_newFunctionEnv_cells S.kind hkind fun env he s1 x => ?_
  subst he
  refine ⟨lim.keeps x.toInCall.keep, codeAny_func ?_⟩
  have hB : HotB (cxH CX P w K mg base N qual (defScope st) f cdv A outer s H E p) p.1 p.2 := ⟨hot, hpin.get, hpin.free, hpin.nofs, fun z => absurd (show p.1 ∈ ([] : List Addr) from z) (by simp)⟩
  obtain ⟨t, ht, hq⟩ := hbody cdv A outer s H vs Q E p hot hz hB (hr.deeper _) hsp
  have I : Inv (cxH CX P w K mg base N qual (defScope st) f cdv A outer s H E p) [] (L2.start N vs) H s1 := inv_startH S hpin e0 hl r x
  refine wpAny_mono (ht.run [] s1 (L2.start N vs) H _ I hq) (fun fl s' hs => ?_) fun e s' hs => hs
  have fin : ∀ {σ' : L2.St} {H' : Hp} {v : V} {u : Value}, Inv (cxH CX P w K mg base N qual (defScope st) f cdv A outer s H E p) [] σ' H' s' → RelV v u → Q v H' → CE outer P w H s Q u s' :=
    fun {σ' H' v u} J rv q => ⟨v, H', J.os, J.bare, J.base, J.hok, rv, q⟩
  cases fl with
  | ret u =>
    obtain ⟨v, σ', H', J, rv, q⟩ := hs
    exact fin J rv q
  | next =>
    obtain ⟨σ', H', J, q⟩ := hs
    exact fin (v := V.non) (u := Value.none) J rfl q
  | brk =>
    obtain ⟨_, _, _, q⟩ := hs
    exact False.elim q
  | cont =>
    obtain ⟨_, _, _, q⟩ := hs
    exact False.elim q
end
section
variable {X : Cx} {CX : CXT} {k : Nat} {f : Addr} {fd : FuncData} {ps : List Str} {Z : Obj → Prop} {sp : Addr → Sp} {E : L2.St → XK} {x : Str} {q pos : Pos} {e : Expr} {es : List Expr} {t : TA}
/-- its call; (a, oe) is what the suite has pinned -/
theorem pe_callW {a : Addr} {oe : Obj} (F : FnW X.prog X.w X.K X.mg X.base CX k f fd ps Z sp) (hr : RoomH k X.A) (hot : Hot1 X.A (a, oe)) (hp : (a, oe) ∈ X.pn) (hz : Z oe) (hg : Gl X x) (hm : X.mg x = some (.ref f)) (hk : PySem.W.keepIn X.K (.ref f) = true) (hb : Binds X.K fd ps []) (hx : ∀ σ, PassesAt CX X σ (E σ))
    (ha : PA X (e :: es) t) (hdb : (x == ("__debug__" : Str)) = false := by decide) (he : starEach (e :: es) X.env = (false, eval e X.env) :: starEach es X.env := by rfl) (hpl : (backTo pos (starEach es X.env)).any (·.1) = false := by rfl) :
    PE X (.Call (.Name x q) (e :: es) [] pos) (tCallS (sp a) E t) := by
  refine ⟨fun pins s σ H Q I h => ?_⟩
  refine wpAny_Call_Name_kw (ld_glob I hg hm ?_ hdb)
  refine PySem.W.callWith_K (h₀ := X.base) I.ok.mod.kin hk (thn (ha.run pos pins s σ H _ I h) fun us s1 ⟨vs, H1, I1, r, h⟩ => ⟨I1.kIn, ?_⟩) he hpl
  have hl : us.length = ps.length := by rw [← r.length]; exact F.len _ _ _ _ _ h
  have b := hb s1 us I1.kIn (by rw [List.append_nil]; exact hl)
  rw [List.append_nil] at b
  have P1 := I1.pin (a, oe) (List.mem_append_left _ hp)
  have hpin : PinOk X.stack H1 s1 (a, oe) := ⟨P1.1, P1.2.1, fun hm => (List.mem_cons.mp (I1.stkSub a hm)).elim P1.2.2.1 P1.2.2.2.1, P1.2.2.2.2⟩
  refine wpAny_call (codeAny_mono (F.run X.A X.stack s1 H1 ⟨us, []⟩ us vs Q (E σ) (a, oe) hr hot hpin hz I1.env0 b r h) fun r s' hq => ?_)
  cases r with
  | error e => exact hx σ pins H1 s1 e s' I1 hq
  | ok fl =>
    cases fl with
    | ret u => exact I1.after hq
    | next => exact False.elim hq
    | brk => exact False.elim hq
    | cont => exact False.elim hq
/-- isinstance(e, c), e the pinned exception, D its class -/
theorem call_isP {a D : Addr} {oe : Obj} (C : ExcC X.K D) (hp : (a, oe) ∈ X.pn) (hz : Zc (.ref D) none oe) (hf : ∃ vs, oe.data = .fields vs) : CallR X (.builtin "isinstance") (rIsE X.K D a) := by
  intro pins s σ H xs us Q I r h
  obtain ⟨c, cv, b, rfl, hcv, e, q⟩ := h
  obtain ⟨u1, u2, rfl, r1, r2⟩ := vals2 r
  cases r1
  have ec := hcv _ r2
  subst ec
  obtain ⟨hget, _⟩ := I.pin (a, oe) (List.mem_append_left _ hp)
  obtain ⟨vs, hv⟩ := hf
  have J : PySem.W.InstAt s.heap a oe D none := by
    obtain ⟨oc, od, oda, osl⟩ := oe
    obtain ⟨h1, h2⟩ := hz
    dsimp only at h1 h2 hv
    subst h1 h2 hv
    exact ⟨hget, rfl, rfl, trivial⟩
  exact PySem.W.kia_one (PySem.W.handS_kitx_exc C.hg C.hk C.hs C.hd C.ha C.hn C.ht C.hm) I.kIn J e (fun z => nomatch z) fun tk => ⟨.bl b, H, I.kept (t' := tk) fun _ _ z => z, rfl, q⟩
end
end GE

set_option Elab.async false
set_option linter.all false
set_option maxRecDepth 100000
set_option maxHeartbeats 4000000
/-! a method's call in a try's body: what it lets out is told with the slots; a suite's proof that knows the exception -/
namespace GE
open PySem PySem.Spec PyProof.Rows L2
section
variable {X : Cx} {CX : CXT} {k : Nat} {f C : Addr} {fd : FuncData} {ps : List Str} {sp : Sp} {E : L2.St → XK} {m : Str} {pos apos : Pos} {e o : Expr} {es : List Expr} {ta : TE} {t : TA}
def tMethA (C : Addr) (m : Str) (sp : Sp) (E : L2.St → XK) (ta : TE) (t : TA) : TE := fun σ H Q => ta σ H fun x H1 => ∃ a dx fs, x = .ref a ∧ H1 a = some (.ins C dx fs) ∧ fs.lookup m = none ∧ t σ H1 fun vs H2 => sp (x :: vs) H2 Q (E σ)
theorem pe_methA {pl : Sem Bool} (he : PE X o ta) (c : Cls X.K C) (hm : Meth X.K C m f) (F : FnOk X.prog X.w X.K X.mg X.base CX k f fd ps sp) (hr : Room k X.A) (hb : Binds X.K fd ps []) (hx : ∀ σ, PassesAt CX X σ (E σ)) (ha : PA X (e :: es) t)
    (hst : starEach (e :: es) X.env = (false, eval e X.env) :: starEach es X.env := by rfl) (hpl : (backTo pos (starEach es X.env)).any (·.1) = false := by rfl)
    (ht : eval (.Call (.Attribute o m apos) (e :: es) [] pos) X.env = (do
      let ov ← eval o X.env
      standAt apos.atName
      let (f, first) ← holding [ov] (getMethod ov m pl)
      callWith pos f first (backTo pos (starEach (e :: es) X.env)) (backToKw pos (keywordEach [] X.env))) := by rfl) :
    PE X (.Call (.Attribute o m apos) (e :: es) [] pos) (tMethA C m sp E ta t) := by
  refine ⟨fun pins s σ H Q I h => ?_⟩
  refine PySem.W.methodCall_KW (pl := pl) (thn (he.run pins s σ H _ I h) fun u s1 ⟨x, H1, I1, rx, a, dx, fs, ex, ea, l, q⟩ => ?_) ht
  subst ex
  obtain rfl : u = Value.ref a := rx
  refine getmeth_ok I1 ea c hm l ?_
  refine PySem.W.callWith_K (first := [.ref a]) (h₀ := X.base) I.ok.mod.kin hm.kp (thn (ha.run pos pins s1 σ H1 _ I1 q) fun us s2 ⟨vs, H2, I2, r, q2⟩ => ⟨I2.kIn, ?_⟩) hst hpl
  exact run_fnS (us := .ref a :: us) (vs := .ref a :: vs) F hr hb (hx σ) I2 (.cons rfl r) q2
/-- a block's proof that leans on p: its reading says p too -/
theorem pss_when {l : List Stmt} {p : Prop} {t : TS} (h : p → PSs X l t) : PSs X l (fun D σ H => p ∧ t D σ H) := ⟨fun pins s σ H D I q => (h q.1).run pins s σ H D I q.2⟩
end
end GE

set_option Elab.async false
set_option maxRecDepth 100000
set_option maxHeartbeats 2000000
/-! ExtD: name = {k: v for ..} on one line, the name a local (HandS.Comp's ps_setLc, turned to dict comprehensions) -/
namespace GD
open PySem PySem.Spec PyProof.Rows L2
section
variable {X : Cx}
theorem sw_dict {kx vx : Expr} {gs : List Comprehension} {sc : Scope} {p1 p2 : Pos} {y : Str} {ln : Nat} {env : Env} (fk : env.scope.kind = .function) (fy : env.scope.names.lookup y = some .local) (fl : (p2.line == p1.line) = true)
    (fa : (sc.names.any fun (n, k) => n == y && (k == .local || k == .cell)) = false) : swapsWith (.DictComp kx vx gs sc p1) (some (.Name y p2)) ln env = pure true := by
  have e1 : env.kindOf y = some .local := fy
  have e2 : env.blockKind = .function := by
    unfold Env.blockKind
    rw [fk] <;> rfl
  unfold swapsWith
  simp only [e1, e2, fa, fl, Expr.pos] <;> rfl
theorem ps_setDc {i : Nat} {y : Str} {p1 p2 p3 : Pos} {kx vx tg iter : Expr} {ifs : List Expr} {sc : Scope} {own : List (Str × Nat)} {wi : TI} {g : TG} {tt : TT} {tk tv : TE} (hc : X.calm = true) (nd : X.N.Nodup) (hy : X.N[i]? = some y) (loc : X.env.scope.names.lookup y = some .local)
    (sw : swapsWith (.DictComp kx vx [⟨tg, iter, ifs, 0⟩] sc p1) (some (.Name y p2)) p3.line X.env = pure true) (hi : PI X tg iter wi) (ok : BlkOk X.N X.env.scope sc own)
    (hg : ∀ (s : Shared) (H : Hp) (C : Addr) (cl : List (Str × Addr)) (fp : List Addr), PG (X.blk s H sc (compEnvC sc cl C X.env) fp) tg g) (ht : ∀ (s : Shared) (H : Hp) (C : Addr) (cl : List (Str × Addr)) (fp : List Addr), PTs (X.blk s H sc (compEnvC sc cl C X.env) fp) ifs tt)
    (hk : ∀ (s : Shared) (H : Hp) (C : Addr) (cl : List (Str × Addr)) (fp : List Addr), PE (X.blk s H sc (compEnvC sc cl C X.env) fp) kx tk)
    (he : ∀ (s : Shared) (H : Hp) (C : Addr) (cl : List (Str × Addr)) (fp : List Addr), PE (X.blk s H sc (compEnvC sc cl C X.env) fp) vx tv) (hs : ∀ x, foldedSetIterable iter X.env x = pure x := by intro _; rfl) :
    PS X (.Assign [.Name y p2] (.DictComp kx vx [⟨tg, iter, ifs, 0⟩] sc p1) p3) (tAsg (tDc wi g tt tk tv (own.map (·.2))) (gName i)) := by
  constructor
  intro pins s σ H D I h
  rw [exec_Assign_Name_used _ _ _ _ sw]
  apply wpAny_bind
  apply wpAny_standAt
  apply wpAny_bind
  show wpAny _ X.A (do
    let _ ← comprehension (.DictComp kx vx [⟨tg, iter, ifs, 0⟩] sc p1) sc X.env (firstIterPos [⟨tg, iter, ifs, 0⟩] p1) newDict false (eval iter X.env) (some (assign (.Name y p2) X.env))) _ _ s
  have h1 : tDc wi g tt tk tv (own.map (·.2)) σ H (fun x H1 => gName i x σ H1 D.nx) := h
  apply wpAny_bind
  refine thn (dc_core (Qf := fun _ s' => SP X pins D .next s') hc nd I hi ok hg ht hk he hs h1 fun L C s1 m H1 J q nsC f => ?_) fun _ s1 z => wpAny_pure (wpAny_pure z)
  show wpAny _ _ (assign (.Name y p2) X.env (.ref L)) _ _ _
  obtain ⟨f0, f1, f2, f3, f4, f5⟩ := f
  refine wpAny_assign_Name (store_ok2 (v := V.ref L) J nd hy (.inl loc) rfl (fun s2 J2 ⟨a, sb, place⟩ => ?_) (.inr loc))
  have far : C ≠ a := place.elim (fun z => by rw [z]; exact f1) fun z e => f4 y a z e.symm
  exact ⟨m, nsC.sameBut sb far, fun h3 sb3 => ⟨_, H1, J2.turned (t' := s2.toks) (fun b o hb e => (sb3.2 b hb).trans e) f0 f1 f3 f4 f5, q⟩⟩
end
end GD

set_option Elab.async false
set_option maxRecDepth 100000
set_option maxHeartbeats 2000000
/-! ExtE: for i, x in enumerate(t), t a tuple (HandS.Iter's rule for lists, turned to tuples) -/
namespace GN
open PySem PySem.Spec PyProof.Rows L2
open AutoSeq1 (wpAny_loadPart')
theorem meetsT (a : Addr) (xs : Array Value) (k : Nat) (dc : Option Addr) (sl : Array (Option Value)) :
    Meets (Builtin.«enumerate.__new__» ⟨[.type "enumerate", .ref a], []⟩) (fun _ R s => s.heap.get? a = some { cls := .type "tuple", dict := dc, data := .seq xs k, slots := sl } ∧
      R (.ok (.ret (.ref (s.heap.push { cls := .type "tuple_iterator", data := .fields #[.ref a, .int 0 0] }).objs.size)))
        { s with heap := (s.heap.push { cls := .type "tuple_iterator", data := .fields #[.ref a, .int 0 0] }).push { cls := .type "enumerate", data := .fields #[.none, .bool false, .ref s.heap.objs.size, rawInt 0, .none, .none] } }) :=
  .of_wp fun prog w A R s z => by
    obtain ⟨hp, gn, dr, tk, os⟩ := s
    obtain ⟨ha, z⟩ := z
    have isE := sub_enumerate
    have isT : Heap.IsTuple (Shared.heap ⟨hp, gn, dr, tk, os⟩) a xs := ⟨_, ha, rfl, k, rfl⟩
    wp_walk using wpAny_loadPart' ha
    refine wpAny_stack_any fun _ => wpAny_pure ?_
    split
    · rename_i cl _ _ _ _ _
      cases (cl == Value.type "enumerate") <;> (wp_walk using wpAny_loadPart' ha, wpAny_pyIter_tuple isT; exact ⟨_, rfl, z⟩)
    · wp_walk using wpAny_loadPart' ha, wpAny_pyIter_tuple isT
      exact ⟨_, rfl, z⟩
theorem callT {prog : Program} {w : World} {A : Around} {E : Value → Shared → Prop} {s : Shared} {a : Addr} {xs : Array Value} {Q : Value → Shared → Prop} (isT : s.heap.IsTuple a xs)
    (q : ∀ h', IsEnum h' (s.heap.objs.size + 1) s.heap.objs.size 0 .none → h'.IsTupleIter s.heap.objs.size a 0 → h'.objs.size = s.heap.objs.size + 2 → (∀ b o, s.heap.get? b = some o → h'.get? b = some o) → Q (.ref (s.heap.objs.size + 1)) { s with heap := h' }) :
    wpAny (model prog w) A (call (.type "enumerate") [.ref a]) Q E s := by
  obtain ⟨⟨cl, dc, dt, sl⟩, ha, hc, k, hd⟩ := isT
  obtain rfl : cl = .type "tuple" := hc
  obtain rfl : dt = .seq xs k := hd
  refine callType_new F.called_enumerate (by decide) (F.typeCall_enumerate_1 _) (F.newCall_enumerate_1 _) (fun ob => F.args_object_init_2 ob _) F.entry_enumerate_new (meetsT a xs k dc sl) ⟨ha, ?_⟩
  have sz : (s.heap.push { cls := .type "tuple_iterator", data := .fields #[.ref a, .int 0 0] }).objs.size = s.heap.objs.size + 1 := Heap.size_push ..
  show _ ∧ _
  rw [sz]
  have en : IsEnum ((s.heap.push { cls := .type "tuple_iterator", data := .fields #[.ref a, .int 0 0] }).push { cls := .type "enumerate", data := .fields #[.none, .bool false, .ref s.heap.objs.size, rawInt 0, .none, .none] }) (s.heap.objs.size + 1) s.heap.objs.size 0 .none := by
    have e := Heap.get?_push_size (s.heap.push { cls := .type "tuple_iterator", data := .fields #[.ref a, .int 0 0] }) (o := { cls := .type "enumerate", data := .fields #[.none, .bool false, .ref s.heap.objs.size, rawInt 0, .none, .none] }) rfl
    rw [sz] at e
    exact e
  exact ⟨⟨_, en, rfl⟩, q _ en ⟨_, Heap.get?_push_of_some _ (Heap.get?_push_size _ rfl), rfl, rfl⟩ (by rw [Heap.size_push, sz]) fun b o x => Heap.get?_push_of_some _ (Heap.get?_push_of_some _ x)⟩
theorem endT {prog : Program} {w : World} {A : Around} {E : Value → Shared → Prop} {s : Shared} {e it a : Addr} {i : Nat} {xs : Array Value} {old : Value} {Q : Option Value → Shared → Prop} (hh : A.handled = none) (he : IsEnum s.heap e it i old) (hit : s.heap.IsTupleIter it a i) (ha : s.heap.IsTuple a xs)
    (hx : xs[i]? = none) (q : ∀ h', Heap.ExtBut it s.heap h' → Q none { s with heap := h' }) : wpAny (model prog w) A (pyNext (.ref e)) Q E s := by
  have ty : s.TypeIs (.ref e) "enumerate" := ⟨_, he, rfl⟩
  unfold pyNext
  refine wpAny_bind (wpAny_attempt (wpAny_callSpecial?_slot (name := Str.ofString "__next__") ty F.slot_enumerate_next (wpAny_call_entry F.slot_enumerate_next ty F.entry_enumerate_next ?_ (F.args_enumerate_next_1 _))))
  show wpAny _ _ (field (.ref e) 2 >>= _) _ _ s
  refine wpAny_bind (wpAny_field he rfl (x := .ref it) rfl (wpAny_bind (wpAny_nextOf_tuple_end hh hit ha hx fun h' x k ⟨o, ho, hc⟩ => ?_)))
  exact wpAny_bind (wpAny_isInstance (T := "StopIteration") (b := true) ⟨o, ho, hc⟩ isSubtype_stop (wpAny_pure (q _ k)))
/-- the tuple at a as it stands at each turn, each item in a new pair -/
def IteT (K : PySem.W.Frag) (a : Addr) : It :=
  ⟨fun i H => ∃ (xs : List V) (x : V), SqT K H a xs ∧ xs[i]? = some x, fun i H v H' => ∃ T x, v = .ref T ∧ H T = none ∧ H' = upd H T (.tup [.int (i : Nat), x]) ∧ ∀ xs, SqT K H a xs → xs[i]? = some x, fun i H => ∃ xs : List V, SqT K H a xs ∧ xs.length ≤ i⟩
theorem turnT {P : Program} {w : World} {K : PySem.W.Frag} {elts : List Expr} {kk : Nat} {tpos : Pos} (a e it : Addr) :
    Turn P w K (.Tuple elts kk tpos) (IteT K a) [e, it] e (fun i h => (∃ old, IsEnum h e it ((i : Nat) : Int) old) ∧ h.IsTupleIter it a i ∧ e ≠ it ∧ a ≠ it ∧ a ≠ e) where
  mem := List.mem_cons_self
  obj := fun i h st b hb => by
    obtain ⟨⟨old, he⟩, ⟨o, ho, hc, hd⟩, _⟩ := st
    rcases List.mem_cons.mp hb with z | z
    · rw [z]; exact ⟨_, he, fun v q => nomatch q⟩
    · rw [List.mem_singleton.mp z]; exact ⟨o, ho, fun v q => by rw [hd] at q; cases q⟩
  keep := fun i h h' st k => let ⟨⟨old, he⟩, hi, hne⟩ := st; ⟨⟨old, k e List.mem_cons_self _ he⟩, hi.at fun o q => k it (by simp) o q, hne⟩
  item := by
    intro X hP hw hK hc i pins s σ H E I hf st hg
    subst hP hw hK
    obtain ⟨⟨old, he⟩, hit, hne, ha1, ha2⟩ := st
    obtain ⟨xs, x, hq, hx⟩ := hg
    obtain ⟨its, rv, p, _⟩ := I.tuple hq
    obtain ⟨u, hu, ru⟩ := rv.get hx
    have el : e < s.heap.objs.size := Heap.lt_size he
    have il : it < s.heap.objs.size := by obtain ⟨_, q, _⟩ := hit; exact Heap.lt_size q
    have hu' : its.toArray[i]? = some u := by simpa using hu
    have sz : i < its.toArray.size := (Array.getElem?_eq_some_iff.mp hu').1
    have DT := Draws.tuple (prog := X.prog) (w := X.w) (A := X.A.in1) (I.ok.hd hc) it a ha1 its.toArray
    refine wpAny_pyNext_enum_itemD DT he ⟨hit, p⟩ sz hne (by simp [hne, Ne.symm ha2]) fun y h' tk hy ho hst' hT hsz hk => ?_
    rw [hu'] at hy
    cases hy
    obtain ⟨hit', _⟩ := hst'
    refine ⟨_, rfl, wpAny_letOwnedTupleGo_enum (s := { s with heap := h', toks := tk + 1 }) ho fun h'' he' sb => ?_⟩
    have hT2 : h''.get? s.heap.objs.size = some { cls := .type "tuple", data := .seq #[.int i tk, u] } := (sb.2 _ (Nat.ne_of_gt el)).trans hT
    have new : ObjOk X.prog X.w (upd H s.heap.objs.size (.tup [.int (i : Nat), x])) h'' s.heap.objs.size (.tup [.int (i : Nat), x]) :=
      ⟨(by show 2 ≤ sizeLine; decide), [.int i tk, u], .cons ⟨_, rfl⟩ (.cons ru .nil), ⟨_, hT2, rfl, _, rfl⟩⟩
    have I1 : Inv X pins σ (upd H s.heap.objs.size (.tup [.int (i : Nat), x])) { s with heap := h'', toks := tk + 1 } :=
      I.turnedNew (ch := [e, it]) (fun b ob hb q => have n1 : b ≠ e := (fun z => hb (by simp [z])); have n2 : b ≠ it := (fun z => hb (by simp [z])); (sb.2 b n1).trans (hk b ob n1 n2 q)) hf (Nat.le_refl _) new
    refine ⟨.ref s.heap.objs.size, _, I1, rfl, ⟨_, x, rfl, I.hok.fresh (Nat.le_refl _), rfl, fun ys hy => by rw [I.tuple_inj hy hq]; exact hx⟩, ⟨⟨u, ?_⟩, hit'.at fun o q => (sb.2 it (Ne.symm hne)).trans q, hne, ha1, ha2⟩, fun b hb => ?_⟩
    · rw [show ((i + 1 : Nat) : Int) = (i : Int) + 1 from rfl]
      exact he'
    · have lt : b < s.heap.objs.size := by
        rcases List.mem_cons.mp hb with z | z
        · exact z ▸ el
        · exact List.mem_singleton.mp z ▸ il
      rw [upd_ne (Nat.ne_of_lt lt)] <;> exact (hf b hb).1
  done := by
    intro X hP hw hK hc i pins s σ H E I hf st hg
    subst hP hw hK
    obtain ⟨⟨old, he⟩, hit, hne, ha1, ha2⟩ := st
    obtain ⟨xs, hq, hx⟩ := hg
    obtain ⟨its, rv, p, _⟩ := I.tuple hq
    obtain ⟨f0, f1, f2, f3, f4, f5⟩ := hf it (by simp)
    have hl := rv.length
    have none_at : its.toArray[i]? = none := by simp; omega
    exact endT (I.ok.hd hc) he hit p none_at fun h' eb => ⟨rfl, I.turned (t' := s.toks) (fun b o hb q => eb b o hb q) f0 f1 f3 f4 f5⟩
  self := fun A i s Q E st h => let ⟨⟨_, he⟩, _⟩ := st; wpAny_pyIter_enum he h
def iEnumT (K : PySem.W.Frag) (ta : TA) : TI := fun σ H R => ta σ H fun vs H1 => ∃ a xs, vs = [.ref a] ∧ SqT K H1 a xs ∧ R (IteT K a) H1
theorem pi_enumT {X : Cx} {e : Expr} {ta : TA} {p1 p2 p3 : Pos} {elts : List Expr} {kk : Nat} (hg : Gl X "enumerate") (hm : X.mg "enumerate" = none) (ha : PA X [e] ta) (hs : starEach [e] X.env = [(false, eval e X.env)] := by rfl) :
    PI X (.Tuple elts kk p3) (.Call (.Name "enumerate" p1) [e] [] p2) (iEnumT X.K ta) := by
  constructor
  intro pins s σ H R I h
  refine Call_ (ld_blt I hg hm boot_enumerate (PyProof.Rows.callWith_type1 (thn (ha.run p2 pins s σ H _ I h) fun us s1 ⟨vs, H1, J, r1, a, xs, ex, hq, q⟩ => ?_) hs rfl))
  subst ex
  cases r1 with
  | cons r rr =>
    cases rr
    cases r
    obtain ⟨its, rv, tp, _⟩ := J.tuple hq
    have la : a < s1.heap.objs.size := by obtain ⟨_, z, _⟩ := tp; exact Heap.lt_size z
    refine callT tp fun h' he hit hsz hk => wpAny_pyIter_enum he ?_
    have J2 : Inv X pins σ H1 { s1 with heap := h' } := J.kept (t' := s1.toks) hk
    refine ⟨s1.heap.objs.size + 1, [s1.heap.objs.size + 1, s1.heap.objs.size], _, _, H1, rfl, J2, turnT a (s1.heap.objs.size + 1) s1.heap.objs.size, ⟨⟨.none, he⟩, hit, Nat.succ_ne_self _, Nat.ne_of_lt la, Nat.ne_of_lt (Nat.lt_succ_of_lt la)⟩, fun b hb => ?_, q⟩
    have le : s1.heap.objs.size ≤ b := by
      rcases List.mem_cons.mp hb with z | z
      · exact z ▸ Nat.le_succ _
      · exact Nat.le_of_eq (List.mem_singleton.mp z).symm
    exact J.fpOk le (J.hok.fresh le)
theorem walk_enumT {K : PySem.W.Frag} {a : Addr} {xs : List V} : Walk (IteT K a) xs.length (fun H => SqT K H a xs) (YPair (fun i => some (.int (i : Nat))) (fun i => xs[i]?)) :=
  ⟨fun i _ hi q => ⟨xs, xs[i], q, by simp [hi]⟩, fun _ q => ⟨xs, q, Nat.le_refl _⟩, fun i H v H' _ q ⟨T, x, h1, h2, h3, h4⟩ => ⟨T, .int (i : Nat), x, h1, h2, h3, rfl, h4 xs q⟩⟩
theorem pa_starK {X : Cx} (K : PySem.W.Frag) {e : Expr} {es : List Expr} {p : Pos} {te : TE} {t : TA} (he : PE X e te) (hr : PA X es t) (hs : starEach (.Starred e p :: es) X.env = (true, eval e X.env) :: starEach es X.env := by rfl) (hk : X.K = K := by rfl) : PA X (.Starred e p :: es) (StX.tStar K te t) := by
  subst hk
  exact StX.pa_star he hr hs
end GN

set_option Elab.async false
set_option maxRecDepth 100000
set_option maxHeartbeats 4000000
namespace K08
open PySem L2
def top (i : Nat) : Stmt := PySem.Challenge.pw_equalsgrown_k08_whole_meanings.main.body.getD i (.Pass ⟨0, 0, 0, 0⟩)
abbrev s_is_number : Stmt := top 8
abbrev s_is_sort : Stmt := top 18
abbrev s_is_operation_name : Stmt := top 19
abbrev s_numeral_of : Stmt := top 20
abbrev s_number_of : Stmt := top 21
abbrev s_is_operation : Stmt := top 22
abbrev s_is_signature : Stmt := top 23
abbrev s_kind_of : Stmt := top 24
abbrev s_is_world : Stmt := top 31
abbrev s_worked : Stmt := top 32
abbrev s_value_of : Stmt := top 33
abbrev s_value_in : Stmt := top 34
abbrev s_literal_of : Stmt := top 35
abbrev s_is_literal : Stmt := top 36
abbrev s_folded : Stmt := top 37
abbrev s_sort_within : Stmt := top 40
abbrev s_is_term : Stmt := top 41
abbrev s_paths_of : Stmt := top 42
abbrev s_at : Stmt := top 43
abbrev s_put : Stmt := top 44
abbrev s__law_draws : Stmt := top 46
abbrev s__law_take : Stmt := top 47
abbrev s__law_alike : Stmt := top 48
abbrev s__law_says : Stmt := top 49
abbrev s__law_word : Stmt := top 50
abbrev s__law_told : Stmt := top 51
abbrev s__law_num : Stmt := top 52
abbrev s__law_truth : Stmt := top 53
abbrev s__law_value : Stmt := top 54
abbrev s__law_leaf : Stmt := top 55
abbrev s_law : Stmt := top 56
/-- the built-in names that the module does not bind, the numbers and texts that it binds -/
structure Bi (mg : Str → Option Value) : Prop where
  abs : mg "abs" = none
  int : mg "int" = none
  range : mg "range" = none
  len : mg "len" = none
  list : mg "list" = none
  reversed : mg "reversed" = none
  isinstance : mg "isinstance" = none
  bool : mg "bool" = none
  str : mg "str" = none
  tuple : mg "tuple" = none
  min : mg "min" = none
  max : mg "max" = none
  all : mg "all" = none
  zip : mg "zip" = none
  enumerate : mg "enumerate" = none
  g_MOST_OPERATIONS : ∃ t, mg "MOST_OPERATIONS" = some (.int 20 t)
  g_MOST_PLACES : ∃ t, mg "MOST_PLACES" = some (.int 3 t)
  g_MOST_NAME : ∃ t, mg "MOST_NAME" = some (.int 8 t)
  g_MOST_SORT : ∃ t, mg "MOST_SORT" = some (.int 5 t)
  g_MOST_NUMERAL : ∃ t, mg "MOST_NUMERAL" = some (.int 999 t)
  g_MOST_INPUT : ∃ t, mg "MOST_INPUT" = some (.int 1000000 t)
  g_MOST_SIZE : ∃ t, mg "MOST_SIZE" = some (.int 200 t)
  g_NUMBERS : ∃ t, mg "NUMBERS" = some (.str "num" t)
  g_LETTERS : ∃ t, mg "LETTERS" = some (.str "abcdefghijklmnopqrstuvwxyz" t)
  g_FIGURES : ∃ t, mg "FIGURES" = some (.str "0123456789" t)
section
variable {X : Cx}
theorem pe_gint {x : Str} {i : Int} {pos : Pos} (hg : Gl X x) (h : ∃ t, X.mg x = some (.int i t)) (hd : (x == ("__debug__" : Str)) = false := by decide) : PE X (.Name x pos) (tC (.int i)) :=
  let ⟨t, e⟩ := h
  pe_glob hg e ⟨t, rfl⟩ hd
theorem pe_gstr {x z : Str} {pos : Pos} (hg : Gl X x) (h : ∃ t, X.mg x = some (.str z t)) (hd : (x == ("__debug__" : Str)) = false := by decide) : PE X (.Name x pos) (tC (.str z)) :=
  let ⟨t, e⟩ := h
  pe_glob hg e ⟨t, rfl⟩ hd
theorem pe_gref {x : Str} {a : Addr} {pos : Pos} (hg : Gl X x) (h : X.mg x = some (.ref a)) (hd : (x == ("__debug__" : Str)) = false := by decide) : PE X (.Name x pos) (tC (.ref a)) := pe_glob hg h rfl hd
/-- any two ints whose product is laid -/
theorem op_mulB : OpR X (binaryOp .Mult) (rI IntMulOk fun i j => .int (i * j)) := opI fun _ _ _ _ _ _ _ hc q => PyProof.Rows.mul_int q hc
end
/-! ### frames -/
theorem updId {H : Hp} {a : Addr} {o : HO} (h : H a = some o) : upd H a o = H := by
  funext c
  by_cases q : c = a
  · rw [q, upd_same, h]
  · rw [upd_ne q]
/-- all is kept but what stands at M (lists and dicts, objects); tables grow -/
structure Kp (H H' : Hp) (M : List Addr) : Prop where
  keep : ∀ c o, H c = some o → (∀ q, o ≠ .tbl q) → c ∉ M → H' c = some o
  tab : ∀ c ps, H c = some (.tbl ps) → ∃ ps', H' c = some (.tbl ps') ∧ (TriplesOk ps.toList → TriplesOk ps'.toList)
  kind : ∀ m ∈ M, ∀ ps, H m ≠ some (.tbl ps)
theorem Kp.refl (H : Hp) : Kp H H [] := ⟨fun _ _ e _ _ => e, fun _ ps e => ⟨ps, e, fun h => h⟩, fun _ h => nomatch h⟩
theorem Kp.tup {H H' : Hp} {M : List Addr} (k : Kp H H' M) {t : Addr} {xs : List V} (h : H t = some (.tup xs)) (n : t ∉ M) : H' t = some (.tup xs) := k.keep t _ h (fun _ e => nomatch e) n
theorem Kp.lst {H H' : Hp} {M : List Addr} (k : Kp H H' M) {t : Addr} {xs : List V} (h : H t = some (.lst xs)) (n : t ∉ M) : H' t = some (.lst xs) := k.keep t _ h (fun _ e => nomatch e) n
theorem Kp.dic {H H' : Hp} {M : List Addr} (k : Kp H H' M) {t : Addr} {xs : List (Key × V)} (h : H t = some (.dK xs)) (n : t ∉ M) : H' t = some (.dK xs) := k.keep t _ h (fun _ e => nomatch e) n
theorem Kp.tup0 {H H' : Hp} (k : Kp H H' []) {t : Addr} {xs : List V} (h : H t = some (.tup xs)) : H' t = some (.tup xs) := k.tup h (by simp)
theorem Kp.lst0 {H H' : Hp} (k : Kp H H' []) {t : Addr} {xs : List V} (h : H t = some (.lst xs)) : H' t = some (.lst xs) := k.lst h (by simp)
theorem Kp.tabG {H H' : Hp} {M : List Addr} (k : Kp H H' M) {P : Addr} (h : GxR.TabG H P) : GxR.TabG H' P := by
  obtain ⟨ps, e, t⟩ := h
  obtain ⟨ps', e', t'⟩ := k.tab P ps e
  exact ⟨ps', e', t' t⟩
theorem Kp.has {H H' : Hp} {M : List Addr} (k : Kp H H' M) {c : Addr} {o : HO} (h : H c = some o) (n : c ∉ M) : ∃ o', H' c = some o' := by
  by_cases z : ∃ q, o = .tbl q
  · obtain ⟨q, rfl⟩ := z
    obtain ⟨p, e, _⟩ := k.tab c q h
    exact ⟨_, e⟩
  · exact ⟨o, k.keep c o h (fun q e => z ⟨q, e⟩) n⟩
theorem Kp.free {H H' : Hp} {M : List Addr} (k : Kp H H' M) {q : Addr} (h : H' q = none) (hm : q ∉ M) : H q = none := by
  cases e : H q with
  | none => rfl
  | some o =>
    obtain ⟨o', e'⟩ := k.has e hm
    rw [h] at e'
    cases e'
theorem Kp.free0 {H H' : Hp} (k : Kp H H' []) {q : Addr} (h : H' q = none) : H q = none := k.free h (by simp)
theorem Kp.wr {H : Hp} {a : Addr} {o u : HO} (h : H a = some u) (n : ∀ q, u ≠ .tbl q) : Kp H (upd H a o) [a] :=
  ⟨fun c v e _ m => by rw [upd_ne (fun q => m (by rw [q]; exact List.mem_singleton.mpr rfl))]; exact e,
   fun c ps e => ⟨ps, by rw [upd_ne (fun q => n ps (by rw [q, h] at e; exact Option.some.inj e))]; exact e, fun h => h⟩,
   fun m hm ps e => n ps (by rw [List.mem_singleton.mp hm, h] at e; exact Option.some.inj e)⟩
theorem Kp.wl {H : Hp} {a : Addr} {xs : List V} {o : HO} (h : H a = some (.lst xs)) : Kp H (upd H a o) [a] := Kp.wr h fun _ e => nomatch e
theorem Kp.wd {H : Hp} {a : Addr} {xs : List (Key × V)} {o : HO} (h : H a = some (.dK xs)) : Kp H (upd H a o) [a] := Kp.wr h fun _ e => nomatch e
theorem Kp.wi {H : Hp} {a C dx : Addr} {fs : List (Str × V)} {o : HO} (h : H a = some (.ins C dx fs)) : Kp H (upd H a o) [a] := Kp.wr h fun _ e => nomatch e
theorem Kp.new {H : Hp} {a : Addr} {o : HO} (h : H a = none) : Kp H (upd H a o) [] :=
  ⟨fun c u e _ _ => by rw [upd_ne (ne_of_none e h)]; exact e, fun c ps e => ⟨ps, by rw [upd_ne (ne_of_none e h)]; exact e, fun h => h⟩, fun _ h => nomatch h⟩
theorem Kp.tabbed {H H' : Hp} {P : Addr} (g : GxR.TabG H P) (t : GxR.Tabbed P H H') : Kp H H' [] := by
  obtain ⟨ps, e, _⟩ := g
  obtain ⟨⟨ps', e', t'⟩, k⟩ := t
  refine ⟨fun c o h n _ => ?_, fun c qs h => ?_, fun _ h => nomatch h⟩
  · rw [k c fun z => n ps (by rw [z, e] at h; exact (Option.some.inj h).symm)]
    exact h
  · by_cases z : c = P
    · rw [z]
      exact ⟨ps', e', fun _ => t'⟩
    · exact ⟨qs, by rw [k c z]; exact h, fun h => h⟩
/-- one after the other; what the second one changes is new or stands in L -/
theorem Kp.trans {H H1 H2 : Hp} {M N L : List Addr} (a : Kp H H1 M) (b : Kp H1 H2 N) (hM : ∀ x ∈ M, x ∈ L) (hN : ∀ x ∈ N, x ∈ L ∨ H x = none) (hL : ∀ m ∈ L, ∀ ps, H m ≠ some (.tbl ps)) : Kp H H2 L :=
  ⟨fun c o e t n => b.keep c o (a.keep c o e t fun q => n (hM c q)) t fun q => (hN c q).elim n fun z => (nomatch (z.symm.trans e)),
   fun c ps e => let ⟨p1, e1, t1⟩ := a.tab c ps e; let ⟨p2, e2, t2⟩ := b.tab c p1 e1; ⟨p2, e2, fun h => t2 (t1 h)⟩, hL⟩
theorem Kp.then {H H1 H2 : Hp} {M : List Addr} (a : Kp H H1 M) (b : Kp H1 H2 []) : Kp H H2 M := a.trans b (fun _ h => h) (fun _ h => nomatch h) a.kind
theorem Kp.nt {H H1 : Hp} (a : Kp H H1 []) {L : List Addr} (b : ∀ m ∈ L, ∀ ps, H1 m ≠ some (.tbl ps)) : ∀ m ∈ L, ∀ ps, H m ≠ some (.tbl ps) := fun m hm ps e =>
  let ⟨p1, e1, _⟩ := a.tab m ps e
  b m hm p1 e1
theorem Kp.pre {H H1 H2 : Hp} {M : List Addr} (a : Kp H H1 []) (b : Kp H1 H2 M) : Kp H H2 M := a.trans b (fun _ h => nomatch h) (fun _ h => .inl h) (a.nt b.kind)
theorem Kp.up {H H1 : Hp} {M L : List Addr} (a : Kp H H1 M) (h : ∀ x ∈ M, x ∈ L) (hL : ∀ m ∈ L, ∀ ps, H m ≠ some (.tbl ps)) : Kp H H1 L := ⟨fun c o e t n => a.keep c o e t fun q => n (h c q), a.tab, hL⟩
/-- what is new, and then written, is as new -/
theorem Kp.fresh {H H1 H2 : Hp} {M : List Addr} (a : Kp H H1 []) (b : Kp H1 H2 M) (hN : ∀ x ∈ M, H x = none) : Kp H H2 [] := a.trans b (fun _ h => nomatch h) (fun x h => .inr (hN x h)) fun _ h => nomatch h
/-- both write at M -/
theorem Kp.both {H H1 H2 : Hp} {M : List Addr} (a : Kp H H1 M) (b : Kp H1 H2 M) : Kp H H2 M := a.trans b (fun _ h => h) (fun _ h => .inl h) a.kind
theorem nw {G : Hp} {a x : Addr} {o : HO} (e : G x = some o) (f : G a = none) : a ≠ x := fun z => by
  rw [← z, f] at e
  cases e
theorem nm1 {a b : Addr} (h : a ≠ b) : a ∉ [b] := by simpa using h
theorem nm2 {a b c : Addr} (h : a ≠ b) (h2 : a ≠ c) : a ∉ [b, c] := by simp [h, h2]
theorem nm3 {a b c d : Addr} (h : a ≠ b) (h2 : a ≠ c) (h3 : a ≠ d) : a ∉ [b, c, d] := by simp [h, h2, h3]
/-- what is known of the text -/
structure Txt0 (mg : Str → Option Value) : Prop where
  B : Bi mg
theorem Kp.same {H H' : Hp} (s : Same H H') : Kp H H' [] := ⟨fun c o e _ _ => s c o e, fun c ps e => ⟨ps, s c _ e, fun h => h⟩, fun _ h => nomatch h⟩
/-- the draws: a new list of ints -/
def spDraws (K : PySem.W.Frag) : Sp := fun vs H Q _ => ∃ (a : Addr) (ns : List Int), vs = [.ref a] ∧ SqL K H a (ns.map V.int) ∧ ns.length ≤ 63 ∧
  ∀ H' p (ms : List Int), Same H H' → H p = none → H' p = some (.lst (ms.map V.int)) → ms.length ≤ 10000 → Q (.ref p) H'
/-- a draw: the last int of the list goes, a number below the bound comes -/
def spTake : Sp := fun vs H Q _ => ∃ (d : Addr) (b : Int) (ms : List Int), vs = [.ref d, .int b] ∧ H d = some (.lst (ms.map V.int)) ∧ 0 < b ∧
  ∀ (z : Int) (ks : List Int), 0 ≤ z → z < b → ks.length ≤ ms.length → Q (.int z) (upd H d (.lst (ks.map V.int)))
def inR (v : V) (l m : Int) : Bool := match v with
  | .int i => decide (l ≤ i) && decide (i ≤ m)
  | _ => false
def Numb (v : V) : Prop := (∃ i, v = .int i) ∨ (∃ b, v = .bl b) ∨ v = .non ∨ ∃ x, v = .str x
def spNum : Sp := fun vs H Q _ => ∃ (v : V) (l m : Int), vs = [v, .int l, .int m] ∧ Numb v ∧ Q (.bl (inR v l m)) H
section
variable {P : Program} {w : World} {K : PySem.W.Frag} {mg : Str → Option Value} {base : Heap}
theorem sc_is_number : FnScope ["value", "least", "most"] ["value", "least", "most"] (defScope s_is_number) := ⟨rfl, rfl, rfl, by decide +kernel, rfl, by decide +kernel, by decide +kernel⟩
theorem ok_is_number {f : Addr} {fd : FuncData} (F : Fun K "is_number" "is_number" s_is_number f fd) (T : Txt0 mg) : FnOk P w K mg base CX0 1 f fd ["value", "least", "most"] spNum := by
  refine F.ok sc_is_number (fun vs H Q E h => ?_) (fun cdv A outer s H vs Q E hr h => ?_)
  · obtain ⟨v, l, m, rfl, _⟩ := h
    rfl
  obtain ⟨v, l, m, rfl, hv, k⟩ := h
  refine ⟨_, (pss_one (ps_ret (pe_and (pe_callB call_isi (by rfl) T.B.isinstance (by decide +kernel) (pa_cons (pv 0) (pa_cons (pe_bltn (v := .ty "int") (by rfl) T.B.int (by decide +kernel) rfl) pa_nil))) (pe_and (pe_not (pe_callB call_isi (by rfl) T.B.isinstance (by decide +kernel) (pa_cons (pv 0) (pa_cons (pe_bltn (v := .ty "bool") (by rfl) T.B.bool (by decide +kernel) rfl) pa_nil)))) (pe_one (pe_chain op_le op_le (pv 1) (pv 0) (pv 2))))))), ?_⟩
  rcases hv with ⟨i, rfl⟩ | ⟨b, rfl⟩ | rfl | ⟨x, rfl⟩
  · refine ⟨_, rfl, _, .ty "int", _, _, true, rfl, .ty _, .base (.int _), kit_ty (by decide +kernel), true, rfl, ?_⟩
    refine ⟨_, rfl, _, .ty "bool", _, _, false, rfl, .ty _, .base (.int _), kit_ty (by decide +kernel), false, rfl, true, rfl, ?_⟩
    refine ⟨_, rfl, _, rfl, _, _, rfl, rfl, _, rfl, ite2 (fun a => ?_) (fun a => ?_)⟩
    · refine ⟨_, rfl, _, _, rfl, rfl, ?_⟩
      have e : inR (.int i) l m = decide (i ≤ m) := by
        show (decide (l ≤ i) && decide (i ≤ m)) = _
        rw [a, Bool.true_and]
      rw [e] at k
      exact k
    · have e : inR (.int i) l m = false := by
        show (decide (l ≤ i) && decide (i ≤ m)) = _
        rw [Bool.eq_false_iff.mpr a, Bool.false_and]
      rw [e] at k
      exact k
  · refine ⟨_, rfl, _, .ty "int", _, _, true, rfl, .ty _, .base (.bl _), kit_ty (by decide +kernel), true, rfl, ?_⟩
    refine ⟨_, rfl, _, .ty "bool", _, _, true, rfl, .ty _, .base (.bl _), kit_ty (by decide +kernel), true, rfl, false, rfl, ?_⟩
    exact k
  · refine ⟨_, rfl, _, .ty "int", _, _, false, rfl, .ty _, .base .non, kit_ty (by decide +kernel), false, rfl, ?_⟩
    exact k
  · refine ⟨_, rfl, _, .ty "int", _, _, false, rfl, .ty _, .base (.str _), kit_ty (by decide +kernel), false, rfl, ?_⟩
    exact k
theorem snoc_int (ms : List Int) (z : Int) : ms.map V.int ++ [V.int z] = (ms ++ [z]).map V.int := by simp
theorem same_new {H H1 : Hp} {d : Addr} {o : HO} (s : Same H H1) (h : H d = none) : Same H (upd H1 d o) := fun b u e => by
  rw [upd_ne (ne_of_none e h)]
  exact s b u e
theorem at_int {ns : List Int} {i : Nat} {y : V} (h : (ns.map V.int)[i]? = some y) : ∃ z, y = V.int z ∧ ns[i]? = some z := by
  rw [List.getElem?_map] at h
  cases e : ns[i]? with
  | none => rw [e] at h; cases h
  | some z => rw [e] at h; exact ⟨z, (Option.some.inj h).symm, rfl⟩

theorem sc__law_draws : FnScope ["script", "draws", "cell", "number", "first", "k", "seed"] ["script"] (defScope s__law_draws) := ⟨rfl, rfl, rfl, by decide +kernel, rfl, by decide +kernel, by decide +kernel⟩
theorem ok_draws {f : Addr} {fd : FuncData} (F : Fun K "_law_draws" "_law_draws" s__law_draws f fd) (T : Txt0 mg) : FnOk P w K mg base CX0 1 f fd ["script"] (spDraws K) := by
  refine F.ok sc__law_draws (fun vs H Q E h => ?_) (fun cdv A outer s H vs Q E hr h => ?_)
  · obtain ⟨a, ns, rfl, _⟩ := h
    rfl
  obtain ⟨a, ns, rfl, hS, hlen, k⟩ := h
  have nd := sc__law_draws.nd
  refine ⟨_, pss_cons (ps_set (i := 1) nd rfl (.inl rfl) (pe_lst pa_nil))
    (pss_cons (ps_for PassesOwn.never rfl (pi_list (pv 0)) (pg_name (i := 2) nd rfl (.inl rfl))
      (pss_cons (ps_set (i := 3) nd rfl (.inl rfl) (pe_callB call_abs (by rfl) T.B.abs (by decide +kernel) (pa_cons (pv 2) pa_nil)))
      (Evl.pss_cut (ps_if (pt_cmpR op_lt (pv 3) (pe_op op_pow pe_int pe_int) (nomark _))
        (pss_cons (ps_set (i := 4) nd rfl (.inl rfl) (pe_op op_mod (pe_callTy call_int1 (by rfl) T.B.int (by decide +kernel) (pa_cons (pe_op op_add (pe_op op_mul (pv 3) pe_int) pe_int) pa_nil)) pe_int))
        (pss_cons (ps_expr (pe_bm PySem.F.plainAttrs_list PySem.F.slot_list_append PySem.F.type_list_append mt_append (pv 1) (pa_cons
          (pe_op op_mod (pe_callTy call_int1 (by rfl) T.B.int (by decide +kernel) (pa_cons (pe_op op_add (pe_op op_mul (pv 4) pe_int) (pv 3)) pa_nil)) pe_int) pa_nil)))
        (pss_cons (ps_expr (pe_bm PySem.F.plainAttrs_list PySem.F.slot_list_append PySem.F.type_list_append mt_append (pv 1) (pa_cons
          (pe_op op_mod (pe_callTy call_int1 (by rfl) T.B.int (by decide +kernel) (pa_cons (pe_op op_add (pv 4) (pe_op op_fdiv (pv 3) pe_int)) pa_nil)) pe_int) pa_nil)))
        (pss_one (ps_set (i := 3) nd rfl (.inl rfl) pe_int))))) pss_nil)
      (pss_one (ps_for PassesOwn.never rfl (pi_range1 rfl T.B.range (pa_cons pe_int pa_nil)) (pg_name (i := 5) nd rfl (.inl rfl))
        (pss_one (ps_if (pt_cmpR op_gt (pv 3) pe_int (nomark _))
          (pss_cons (ps_expr (pe_bm PySem.F.plainAttrs_list PySem.F.slot_list_append PySem.F.type_list_append mt_append (pv 1) (pa_cons
            (pe_op op_mod (pe_callTy call_int1 (by rfl) T.B.int (by decide +kernel) (pa_cons (pv 3) pa_nil)) pe_int) pa_nil)))
          (pss_one (ps_set (i := 3) nd rfl (.inl rfl) (pe_op op_fdiv (pv 3) pe_int)))) pss_nil)))))))
    (pss_cons (ps_set (i := 6) nd rfl (.inl rfl) pe_int)
    (Evl.pss_cut (ps_if (pt_cmpR op_gt (pe_callB call_len_seq (by rfl) T.B.len PySem.boot_len (pa_cons (pv 0) pa_nil)) pe_int (nomark _))
      (pss_one (ps_set (i := 6) nd rfl (.inl rfl) (pe_op op_add pe_int (pe_callB call_abs (by rfl) T.B.abs (by decide +kernel) (pa_cons (pe_ix ix_list (pv 0) pe_int (fun _ _ => rfl)) pa_nil))))) pss_nil)
    (pss_cons (ps_for PassesOwn.never rfl (pi_range1 rfl T.B.range (pa_cons pe_int pa_nil)) (pg_name (i := 5) nd rfl (.inl rfl))
      (pss_cons (ps_set (i := 6) nd rfl (.inl rfl) (pe_op op_mod (pe_callTy call_int1 (by rfl) T.B.int (by decide +kernel) (pa_cons (pe_op op_add (pe_op op_mul (pv 6) pe_int) pe_int) pa_nil)) pe_int))
      (pss_one (ps_expr (pe_bm PySem.F.plainAttrs_list PySem.F.slot_list_append PySem.F.type_list_append mt_append (pv 1) (pa_cons (pe_op op_fdiv (pv 6) pe_int) pa_nil))))))
    (pss_one (ps_ret (GE.pe_listRev rfl (by rfl) T.B.list (by rfl) T.B.reversed (pv 1)))))))), ?_⟩
  -- draws = []
  refine ⟨Nat.zero_le _, fun d hd => ?_⟩
  have nad : ∀ {H1 : Hp}, Same H H1 → SqL K H1 a (ns.map V.int) := fun s => s.seq hS
  have room : ∀ {n : Nat}, n ≤ 10000 → n < sizeLine := fun h => Nat.lt_of_le_of_lt h (by decide)
  -- for cell in script
  refine ⟨_, rfl, a, rfl, ⟨_, nad (same_new (Same.refl H) hd)⟩, for_list (K := K) (a := a) (xs := ns.map V.int)
    (fun i σ H' => ∃ (v2 v3 v4 v5 : Option V) (ms : List Int), σ = [some (.ref a), some (.ref d), v2, v3, v4, v5, none] ∧ Same H H' ∧ H' d = some (.lst (ms.map V.int)) ∧ ms.length ≤ 70 * i)
    ⟨none, none, none, none, [], rfl, same_new (Same.refl H) hd, upd_same, Nat.zero_le _⟩ (fun i σ H' _ ⟨_, _, _, _, _, _, s1, _⟩ => nad s1) ?_ ?_⟩
  · rintro i y σ H' hi ⟨v2, v3, v4, v5, ms, rfl, s1, h1, l1⟩
    have hi63 : i < 63 := by
      have := (List.getElem?_eq_some_iff.mp hi).1
      rw [List.length_map] at this
      omega
    obtain ⟨z, rfl, hz⟩ := at_int hi
    refine ⟨_, rfl, _, rfl, ?_⟩
    -- behind the if
    refine ⟨fun σ' H1 => ∃ (n : Int) (u4 : Option V) (ms1 : List Int), σ' = [some (.ref a), some (.ref d), some (.int z), some (.int n), u4, v5, none] ∧ Same H H1 ∧ H1 d = some (.lst (ms1.map V.int)) ∧ ms1.length ≤ 70 * i + 2, ?_, ?_⟩
    · refine ⟨_, rfl, _, _, rfl, rfl, ⟨by decide, by decide, by decide⟩, _, _, rfl, rfl, _, rfl, ?_⟩
      refine ite2 (fun lt => ?_) (fun _ => ?_)
      · have lt := of_decide_eq_true lt
        have nn : (0 : Int) ≤ (if z < 0 then -z else z) := by split <;> omega
        have e18 : (10 : Int) ^ (18 : Int).toNat = 1000000000000000000 := by decide
        rw [e18] at lt
        generalize (if z < 0 then -z else z) = n at lt nn ⊢
        refine ⟨_, rfl, _, _, rfl, rfl, .inl ⟨by omega, by omega⟩, _, _, rfl, rfl, .inl ⟨_, rfl, ?_⟩⟩
        refine ⟨_, _, rfl, rfl, (by show (0 : Int) < 2147483647; decide), ?_⟩
        have m0 := Int.emod_nonneg (n * 48271 + 11) (b := 2147483647) (by decide)
        have m1 := Int.emod_lt_of_pos (n * 48271 + 11) (b := 2147483647) (by decide)
        generalize (n * 48271 + 11) % 2147483647 = fi at m0 m1 ⊢
        -- draws.append
        refine ⟨_, rfl, .inl ⟨rfl, _, SqL.of h1⟩, _, rfl, _, _, rfl, rfl, .inl ⟨by omega, by omega⟩, _, rfl, _, _, rfl, rfl, .inl ⟨_, rfl, ?_⟩⟩
        refine ⟨_, _, rfl, rfl, (by show (0 : Int) < 2147483629; decide), d, _, _, rfl, rfl, h1, room (by rw [List.length_map]; omega), ?_⟩
        rw [snoc_int]
        refine ⟨_, rfl, .inl ⟨rfl, _, SqL.of upd_same⟩, _, rfl, _, rfl, _, _, rfl, rfl, ⟨by decide, by decide⟩, _, _, rfl, rfl, .inl ⟨_, rfl, ?_⟩⟩
        refine ⟨_, _, rfl, rfl, (by show (0 : Int) < 1000003; decide), d, _, _, rfl, rfl, upd_same, room (by simp; omega), ?_⟩
        rw [snoc_int, upd_upd]
        exact ⟨_, _, _, rfl, same_new s1 hd, upd_same, by simp; omega⟩
      · exact ⟨_, _, _, rfl, s1, h1, by omega⟩
    · rintro σ' H1 ⟨n, u4, ms1, rfl, s2, h2, l2⟩
      refine ⟨60, rfl, by decide, by decide, for_range (n := 60) (fun j σ2 H2 => ∃ (n : Int) (u4 u5 : Option V) (ms2 : List Int), σ2 = [some (.ref a), some (.ref d), some (.int z), some (.int n), u4, u5, none] ∧ Same H H2 ∧ H2 d = some (.lst (ms2.map V.int)) ∧ ms2.length ≤ 70 * i + 2 + j)
        ⟨_, _, _, _, rfl, s2, h2, l2⟩ ?_ ?_⟩
      · rintro j σ2 H2 hj ⟨n, u4, u5, ms2, rfl, s3, h3, l3⟩
        refine ⟨_, rfl, _, _, rfl, rfl, _, rfl, ite2 (fun _ => ?_) (fun _ => ?_)⟩
        · refine ⟨_, rfl, .inl ⟨rfl, _, SqL.of h3⟩, _, rfl, .inl ⟨_, rfl, _, _, rfl, rfl, (by show (0 : Int) < 997; decide), d, _, _, rfl, rfl, h3, room (by rw [List.length_map]; omega), ?_⟩⟩
          rw [snoc_int]
          refine ⟨_, rfl, _, _, rfl, rfl, ⟨by decide, by decide⟩, ?_⟩
          exact ⟨_, _, _, _, rfl, same_new s3 hd, upd_same, by simp; omega⟩
        · exact ⟨_, _, _, _, rfl, s3, h3, by omega⟩
      · rintro σ2 H2 ⟨n, u4, u5, ms2, rfl, s3, h3, l3⟩
        exact ⟨_, _, _, _, _, rfl, s3, h3, by omega⟩
  · rintro σ H1 ⟨v2, v3, v4, v5, ms, rfl, s1, h1, l1⟩
    rw [List.length_map] at l1
    refine ⟨fun σ' H2 => ∃ n : Int, σ' = [some (.ref a), some (.ref d), v2, v3, v4, v5, some (.int n)] ∧ H2 = H1, ?_, ?_⟩
    · refine ⟨_, rfl, a, _, rfl, .inl (nad s1), _, _, rfl, rfl, _, rfl, ite2 (fun pos => ?_) (fun _ => ⟨_, rfl, rfl⟩)⟩
      have pos := of_decide_eq_true pos
      cases ns with
      | nil => simp at pos
      | cons n0 r =>
        refine ⟨_, rfl, a, _, _, _, rfl, rfl, nad s1, at_of (j := 0) rfl rfl, _, rfl, _, _, rfl, rfl, _, rfl, rfl⟩
    · rintro σ' H2 ⟨n, rfl, rfl⟩
      refine ⟨900, rfl, by decide, by decide, for_range (n := 900) (fun j σ2 H3 => ∃ (n : Int) (u5 : Option V) (ms2 : List Int), σ2 = [some (.ref a), some (.ref d), v2, v3, v4, u5, some (.int n)] ∧ Same H H3 ∧ H3 d = some (.lst (ms2.map V.int)) ∧ ms2.length ≤ 70 * 63 + j)
        ⟨_, _, _, rfl, s1, h1, by omega⟩ ?_ ?_⟩
      · rintro j σ2 H3 hj ⟨n, u5, ms2, rfl, s3, h3, l3⟩
        refine ⟨_, rfl, _, _, rfl, rfl, .inr ⟨by decide, by decide⟩, _, _, rfl, rfl, .inl ⟨_, rfl, ?_⟩⟩
        refine ⟨_, _, rfl, rfl, (by show (0 : Int) < 2147483647; decide), ?_⟩
        refine ⟨_, rfl, .inl ⟨rfl, _, SqL.of h3⟩, _, rfl, _, _, rfl, rfl, ⟨by decide, by decide⟩, d, _, _, rfl, rfl, h3, room (by rw [List.length_map]; omega), ?_⟩
        rw [snoc_int]
        exact ⟨_, _, _, rfl, same_new s3 hd, upd_same, by simp; omega⟩
      · rintro σ2 H3 ⟨n, u5, ms2, rfl, s3, h3, l3⟩
        refine ⟨_, rfl, d, _, rfl, SqL.of h3, fun q hq => ?_⟩
        rw [← List.map_reverse]
        exact k _ q _ (same_new s3 (s3.free hq)) (s3.free hq) upd_same (by rw [List.length_reverse]; omega)
theorem sc__law_take : FnScope ["draws", "bound"] ["draws", "bound"] (defScope s__law_take) := ⟨rfl, rfl, rfl, by decide +kernel, rfl, by decide +kernel, by decide +kernel⟩
theorem ok_take {f : Addr} {fd : FuncData} (F : Fun K "_law_take" "_law_take" s__law_take f fd) (T : Txt0 mg) : FnOk P w K mg base CX0 1 f fd ["draws", "bound"] spTake := by
  refine F.ok sc__law_take (fun vs H Q E h => ?_) (fun cdv A outer s H vs Q E hr h => ?_)
  · obtain ⟨d, b, ms, rfl, _⟩ := h
    rfl
  obtain ⟨d, b, ms, rfl, hd, hb, k⟩ := h
  refine ⟨_, pss_cons (ps_if (pt_cmpR op_eq (pe_callB call_len_seq (by rfl) T.B.len PySem.boot_len (pa_cons (pv 0) pa_nil)) pe_int (nomark _)) (pss_one (ps_ret pe_int)) pss_nil)
    (pss_one (ps_ret (pe_op op_mod (pe_callTy call_int1 (by rfl) T.B.int (by decide +kernel) (pa_cons (pe_bm0 PySem.F.plainAttrs_list PySem.F.slot_list_pop PySem.F.type_list_pop mt_pop (pv 0)) pa_nil)) (pv 1)))), ?_⟩
  refine ⟨_, rfl, d, _, rfl, .inl (SqL.of hd), rfl, _, rfl, ite2 (fun _ => ?_) (fun ne => ?_)⟩
  · have e : upd H d (.lst (ms.map V.int)) = H := by
      funext c
      by_cases q : c = d
      · rw [q, upd_same, hd]
      · rw [upd_ne q]
    have := k 0 ms (Int.le_refl _) hb (Nat.le_refl _)
    rw [e] at this
    exact this
  · have pos : 0 < ms.length := by
      rcases Nat.eq_zero_or_pos ms.length with z | z
      · exact absurd (decide_eq_true (by rw [List.length_map, z]; rfl)) ne
      · exact z
    have hl : ms[ms.length - 1]? = some (ms[ms.length - 1]'(by omega)) := List.getElem?_eq_getElem (by omega)
    refine ⟨_, rfl, .inl ⟨rfl, _, SqL.of hd⟩, d, _, .int (ms[ms.length - 1]'(by omega)), rfl, rfl, hd, ?_, .inl ⟨_, rfl, _, rfl, _, _, rfl, rfl, hb, ?_⟩⟩
    · rw [List.length_map, List.getElem?_map, hl]
      rfl
    · rw [← List.map_dropLast]
      exact k _ ms.dropLast (Int.emod_nonneg _ (by omega)) (Int.emod_lt_of_pos _ hb) (by rw [List.length_dropLast]; omega)
end
end K08

set_option Elab.async false
set_option maxRecDepth 100000
set_option maxHeartbeats 4000000
namespace K08
open PySem L2
/-! ### a def whose code object's table is tracked -/
structure FunC (K : PySem.W.Frag) (x qual : Str) (st : Stmt) (f : Addr) (fd : FuncData) (c : Addr) : Prop where
  ex : ∃ (oc : Value) (od : Option Addr) (kV doc pm : Value) (an : Option Addr) (ct : Value) (osl : Array (Option Value)),
    fd = PySem.W.fnOf x qual (defArgs st) (defBody st) (defScope st) .none kV doc pm an (.ref c) ct ∧ K.lookup f = some ⟨oc, od, .func fd, osl⟩ ∧ PySem.W.codeIn K (.ref c) qual = true
  kp : PySem.W.keepIn K (.ref f) = true
theorem FunC.fun {K : PySem.W.Frag} {x qual : Str} {st : Stmt} {f : Addr} {fd : FuncData} {c : Addr} (F : FunC K x qual st f fd c) : Fun K x qual st f fd := by
  obtain ⟨⟨oc, od, kV, doc, pm, an, ct, osl, e, l, h⟩, kp⟩ := F
  exact ⟨⟨oc, od, kV, doc, pm, an, .ref c, ct, osl, e, l, h⟩, kp⟩
section
variable {P : Program} {w : World} {K : PySem.W.Frag} {mg : Str → Option Value} {base : Heap}
theorem FunC.ok {x qual : Str} {st : Stmt} {f c : Addr} {fd : FuncData} {N ps : List Str} {k : Nat} {sp : Sp} (F : FunC K x qual st f fd c) (S : FnScope N ps (defScope st)) (len : ∀ vs H Q E, sp vs H Q E → vs.length = ps.length)
    (hbody : ∀ (A : Around) (outer : List Env) (s : Shared) (H : Hp) (vs : List V) (Q : VK) (E : XK), Room k (A.deeper (PyProof.Rows.envOfC qual (defScope st) s.heap.objs.size f (.ref c))) → sp vs H Q E →
      ∃ t, PSs (cxOf CX0 P w K mg base N qual (defScope st) f (.ref c) A outer s H E).nox (defBody st) t ∧ t { nx := fun _ H' => Q .non H', rt := Q } (start N vs) H) : FnOk P w K mg base CX0 (k + 1) f fd ps sp := by
  obtain ⟨oc, od, kV, doc, pm, an, ct, osl, rfl, lk, hcd⟩ := F.ex
  refine fn_of lk hcd S len fun A outer s H vs Q E hr hsp => ?_
  obtain ⟨t, h, q⟩ := hbody A outer s H vs Q E hr hsp
  exact ⟨t, h.nox, q⟩
end
/-! ### numerals -/
def neg1 (n : Str) : Bool := match n.cps.toList with
  | c :: _ => decide (V.str ⟨#[c]⟩ = V.str "-")
  | [] => false
def figs (n : Str) : Str := if neg1 n = true then cutS n (some 1) none else n
def isDig (s : Str) : Bool := s.cps.toList.all fun c => decide (c ∈ ("0123456789" : Str).cps.toList)
def figV (n : Str) : Int := if neg1 n = true then 0 - ((PySem.intText? (figs n)).getD 0) else (PySem.intText? (figs n)).getD 0
def numOf (n : Str) : Option Int :=
  if (decide (1 ≤ n.length) && decide (n.length ≤ 4)) = true then
    if figs n = "" ∨ isDig (figs n) = false then none
    else if inR (.int (figV n)) (-999) 999 = true ∧ (toString (figV n) : Str) = n then some (figV n) else none
  else none
def optV : Option Int → V
  | some i => .int i
  | none => .non
def nms : List Str := ["x", "y", "z", "7", "-2", "0", "yes", "no", "add", "sub", "mul", "min", "less", "alike", "both", "not", "neg", "pick", "plus", "1000", "?a"]
def okN (n : Str) : Bool := decide (1 ≤ n.length) && decide (n.length ≤ 600) && (!(decide (n.length ≤ 4)) || decide (figs n = "") || !(isDig (figs n)) || (PySem.intText? (figs n)).isSome)
theorem nms_ok : ∀ n ∈ nms, okN n = true := by decide +kernel
def spNumeral : Sp := fun vs H Q _ => ∃ (i : Int), vs = [.int i] ∧ Q (if inR (.int i) (-999) 999 = true then .str (toString i) else .non) H
def spNumber (Pn : Addr) : Sp := fun vs H Q _ => ∃ (n : Str), vs = [.str n] ∧ okN n = true ∧ GxR.TabG H Pn ∧ ∀ H', Kp H H' [] → Q (optV (numOf n)) H'
section
variable {P : Program} {w : World} {K : PySem.W.Frag} {mg : Str → Option Value} {base : Heap}
theorem sc_numeral_of : FnScope ["number"] ["number"] (defScope s_numeral_of) := ⟨rfl, rfl, rfl, by decide +kernel, rfl, by decide +kernel, by decide +kernel⟩
theorem ok_numeral {f f1 : Addr} {fd fd1 : FuncData} (F : Fun K "numeral_of" "numeral_of" s_numeral_of f fd) (T : Txt0 mg) (G_is_number : FnOk P w K mg base CX0 1 f1 fd1 ["value", "least", "most"] spNum) (F_is_number : Fun K "is_number" "is_number" s_is_number f1 fd1) (b_is_number : Binds K fd1 ["value", "least", "most"] []) (g_is_number : mg "is_number" = some (.ref f1)) :
    FnOk P w K mg base CX0 2 f fd ["number"] spNumeral := by
  refine F.ok sc_numeral_of (fun vs H Q E h => ?_) (fun cdv A outer s H vs Q E hr1 h => ?_)
  · obtain ⟨i, rfl, _⟩ := h
    rfl
  obtain ⟨i, rfl, k⟩ := h
  refine ⟨_, (pss_cons (ps_if (pt_not (pt_val (pe_call G_is_number hr1 (by rfl) g_is_number F_is_number.kp b_is_number .nil pass0 (pa_cons (pv 0) (pa_cons (pe_un un_neg (pe_gint (by rfl) T.B.g_MOST_NUMERAL)) (pa_cons (pe_gint (by rfl) T.B.g_MOST_NUMERAL) pa_nil)))))) 
      (pss_one (ps_ret pe_non)) pss_nil)
    (pss_one (ps_ret (pe_callTy call_str_int (by rfl) T.B.str (by decide +kernel) (pa_cons (pv 0) pa_nil))))), ?_⟩
  refine ⟨_, rfl, _, rfl, .int i, -999, 999, rfl, .inl ⟨i, rfl⟩, ?_⟩
  cases hb : inR (.int i) (-999) 999 with
  | false =>
    rw [hb] at k
    exact ⟨_, rfl, k⟩
  | true =>
    rw [hb] at k
    have hb : (decide (-999 ≤ i) && decide (i ≤ 999)) = true := hb
    rw [Bool.and_eq_true, decide_eq_true_eq, decide_eq_true_eq] at hb
    refine ⟨_, rfl, _, rfl, _, rfl, ?_, k⟩
    exact Nat.lt_of_le_of_lt (Nat.log2_le_self _) (by omega)
theorem sc_number_of : FnScope ["name", "figures", "number", "sign"] ["name"] (defScope s_number_of) := ⟨rfl, rfl, rfl, by decide +kernel, rfl, by decide +kernel, by decide +kernel⟩
theorem ok_number {f c Pn f1 : Addr} {fd fd1 : FuncData} (F : FunC K "number_of" "number_of" s_number_of f fd c) (tb_number_of : GxR.TabB base mg c Pn) (T : Txt0 mg) (G_numeral_of : FnOk P w K mg base CX0 2 f1 fd1 ["number"] spNumeral) (F_numeral_of : Fun K "numeral_of" "numeral_of" s_numeral_of f1 fd1) (b_numeral_of : Binds K fd1 ["number"] []) (g_numeral_of : mg "numeral_of" = some (.ref f1)) :
    FnOk P w K mg base CX0 3 f fd ["name"] (spNumber Pn) := by
  refine F.ok sc_number_of (fun vs H Q E h => ?_) (fun A outer s H vs Q E hr2 h => ?_)
  · obtain ⟨i, rfl, _⟩ := h
    rfl
  obtain ⟨n, rfl, ok, hT, k⟩ := h
  have nd := sc_number_of.nd
  have hr1 := hr2
  refine ⟨_, (pss_cons (ps_if (PW.pt (pw_or (pt_not (pt_val (pe_callB call_isi (by rfl) T.B.isinstance (by decide +kernel) (pa_cons (pv 0) (pa_cons (pe_bltn (v := .ty "str") (by rfl) T.B.str (by decide +kernel) rfl) pa_nil))))) (pw_or1 (pt_not (pt_chain op_le op_le pe_int (pe_callB call_len_str (by rfl) T.B.len (by decide +kernel) (pa_cons (pv 0) pa_nil)) (pe_callB call_len_str (by rfl) T.B.len (by decide +kernel) (pa_cons (pe_callTy call_str_int (by rfl) T.B.str (by decide +kernel) (pa_cons (pe_un un_neg (pe_gint (by rfl) T.B.g_MOST_NUMERAL)) pa_nil)) pa_nil))))))) 
      (pss_one (ps_ret pe_non)) pss_nil)
    (Evl.pss_cut (ps_set (i := 1) nd rfl (.inl rfl) (pe_ifExp (pt_cmpR op_eq (pe_ix ix_str (pv 0) pe_int (fun _ _ => rfl)) pe_str (nomark _)) (pe_slice sl_str (pv 0) (po_some pe_int) po_none) (pv 0)))
    (Evl.pss_cut (ps_if (PW.pt (pw_or (pt_cmpR op_eq (pv 1) pe_str (nomark _)) (pw_or1 (pt_not (pt_val (GG.pe_allG (own := [("sign", 3)]) (g := gName 3) (tt := tYes) rfl nd hr1 (by rfl) T.B.all (by rfl) tb_number_of rfl (blkOk_by (N := ["name", "figures", "number", "sign"]) (sc := defScope s_number_of) (by decide +kernel)) (by decide +kernel) rfl rfl (pi_str (pv 1)) (fun _ _ _ _ _ _ _ => (pg_name (i := 3) nd rfl (.inl rfl))) (fun _ _ _ _ _ _ _ => pts_nil) (fun _ _ _ _ _ _ _ => (pe_cmpR op_in_sign (pv 3) (pe_gstr (by rfl) T.B.g_FIGURES) rfl)) (by intro _; rfl))))))) 
      (pss_one (ps_ret pe_non)) pss_nil)
    (Evl.pss_cut (ps_set (i := 2) nd rfl (.inl rfl) (pe_ifExp (pt_cmpR op_ne (pe_ix ix_str (pv 0) pe_int (fun _ _ => rfl)) pe_str (nomark _)) (pe_callTy call_int_str (by rfl) T.B.int (by decide +kernel) (pa_cons (pv 1) pa_nil)) (pe_op op_sub pe_int (pe_callTy call_int_str (by rfl) T.B.int (by decide +kernel) (pa_cons (pv 1) pa_nil)))))
    (pss_one (ps_ret (pe_ifExp (pt_cmpR op_eq (pe_call G_numeral_of hr2 (by rfl) g_numeral_of F_numeral_of.kp b_numeral_of .nil pass0 (pa_cons (pv 2) pa_nil)) (pv 0) (nomark _)) (pv 2) pe_non))))))), ?_⟩
  have ok : (decide (1 ≤ n.length) && decide (n.length ≤ 600) && (!(decide (n.length ≤ 4)) || decide (figs n = "") || !(isDig (figs n)) || (PySem.intText? (figs n)).isSome)) = true := ok
  rw [Bool.and_eq_true, Bool.and_eq_true, decide_eq_true_eq, decide_eq_true_eq] at ok
  obtain ⟨⟨n1, n2⟩, ok⟩ := ok
  refine ⟨_, rfl, _, .ty "str", _, _, true, rfl, .ty _, .base (.str _), kit_ty (by decide +kernel), true, rfl, ?_⟩
  have e1 : decide ((1 : Int) ≤ (n.length : Int)) = true := decide_eq_true (by omega)
  have e4 : ((Str.ofString (toString (-999 : Int))).length : Int) = 4 := by decide +kernel
  refine iteF ⟨_, rfl, n, rfl, Nat.le_trans n2 (by decide), _, _, rfl, rfl, _, rfl, ?_⟩
  rw [e1]
  refine iteT ⟨_, rfl, _, rfl, (by show (-999 : Int).natAbs.log2 < 1920; decide), _, rfl, (by decide +kernel), _, _, rfl, rfl, _, rfl, ?_⟩
  rw [e4]
  have h1 : decide (1 ≤ n.length) = true := decide_eq_true n1
  by_cases h4 : n.length ≤ 4
  · rw [decide_eq_true (show (n.length : Int) ≤ 4 by omega)]
    obtain ⟨c0, r, hcr⟩ : ∃ c r, n.cps.toList = c :: r := by
      cases e : n.cps.toList with
      | nil =>
        have : n.cps.toList.length = 0 := by rw [e]; rfl
        have : n.length = 0 := this
        omega
      | cons c r => exact ⟨c, r, rfl⟩
    have at0 : atI n.cps.toList (0 : Int) = some c0 := by
      rw [hcr]
      exact atI_nat (j := 0) rfl
    have en : neg1 n = decide (V.str ⟨#[c0]⟩ = V.str "-") := by
      unfold neg1
      rw [hcr]
    have fl : (figs n).length ≤ 600 := by
      unfold figs
      split
      · refine Nat.le_trans ?_ n2
        show ((n.cps.toList.drop _).take _).toArray.size ≤ _
        rw [List.size_toArray, List.length_take, List.length_drop]
        exact Nat.le_trans (Nat.min_le_right _ _) (Nat.sub_le _ _)
      · exact n2
    refine iteF ⟨fun σ' H1 => H1 = H ∧ σ' = [some (.str n), some (.str (figs n)), none, none], ?_, ?_⟩
    · refine ⟨_, rfl, n, _, c0, rfl, rfl, Nat.le_trans n2 (by decide), at0, rfl, _, rfl, ?_⟩
      cases hb : decide (V.str ⟨#[c0]⟩ = V.str "-") with
      | true =>
        refine ite2 (fun _ => ?_) (fun z => absurd rfl z)
        rw [hb] at en
        refine ⟨_, rfl, _, rfl, n, rfl, Nat.le_trans n2 (by decide), rfl, ?_⟩
        unfold figs
        rw [if_pos en]
        rfl
      | false =>
        refine ite2 (fun z => absurd z (by decide)) (fun _ => ?_)
        rw [hb] at en
        refine ⟨_, rfl, rfl, ?_⟩
        unfold figs
        rw [en, if_neg (by decide)]
        rfl
    rintro σ' H1 ⟨rfl, rfl⟩
    -- the figures
    refine ⟨fun σ' H2 => Kp H1 H2 [] ∧ σ' = [some (.str n), some (.str (figs n)), none, none] ∧ ¬ (figs n = "" ∨ isDig (figs n) = false), ?_, ?_⟩
    · have none_of : (figs n = "" ∨ isDig (figs n) = false) → numOf n = none := fun z => by
        unfold numOf
        rw [h1, decide_eq_true h4, if_pos (by decide), if_pos z]
      refine ⟨_, rfl, rfl, _, rfl, ?_⟩
      by_cases e0 : figs n = ""
      · rw [decide_eq_true (show V.str (figs n) = V.str "" by rw [e0])]
        have := none_of (.inl e0)
        rw [this] at k
        exact iteT (k _ (Kp.refl _))
      · rw [decide_eq_false (show ¬ V.str (figs n) = V.str "" from fun z => e0 (V.str.inj z))]
        refine iteF ⟨_, rfl, _, rfl, hT, fun H2 tb => ?_⟩
        have k2 : Kp H1 H2 [] := Kp.tabbed hT tb
        refine GG.gt_str (fun i H' => H' = H2 ∧ ∀ j c, j < i → (figs n).cps[j]? = some c → c ∈ ("0123456789" : Str).cps.toList) ⟨rfl, fun _ _ h => absurd h (Nat.not_lt_zero _)⟩ (fun i c0 H' hc ⟨e, all⟩ => ?_) (fun H' ⟨e, all⟩ => ?_)
        · subst e
          refine ⟨rfl, _, rfl, c0, _, rfl, rfl, ?_⟩
          by_cases hm : c0 ∈ ("0123456789" : Str).cps.toList
          · rw [decide_eq_true hm]
            refine .inl ⟨rfl, rfl, fun j c1 hj e1 => ?_⟩
            by_cases ej : j = i
            · rw [ej, hc] at e1
              cases e1
              exact hm
            · exact all j c1 (by omega) e1
          · rw [decide_eq_false hm]
            refine .inr ⟨rfl, false, rfl, ?_⟩
            have hf : isDig (figs n) = false := by
              unfold isDig
              rw [List.all_eq_false]
              refine ⟨c0, ?_, by rw [decide_eq_false hm]; decide⟩
              rw [← Array.getElem?_toList] at hc
              exact List.mem_of_getElem? hc
            rw [none_of (.inr hf)] at k
            exact iteT (k _ k2)
        · subst e
          refine ⟨true, rfl, iteF ⟨k2, rfl, fun z => z.elim e0 fun z => ?_⟩⟩
          unfold isDig at z
          rw [List.all_eq_false] at z
          obtain ⟨c1, hm, hn⟩ := z
          obtain ⟨j, hj, e1⟩ := List.mem_iff_getElem.mp hm
          refine hn (decide_eq_true (all j c1 ?_ ?_))
          · simpa using hj
          · rw [← Array.getElem?_toList, List.getElem?_eq_getElem hj, e1]
    rintro σ' H2 ⟨k2, rfl, good⟩
    -- the number
    have hv : (PySem.intText? (figs n)).isSome = true := by
      rw [decide_eq_true h4] at ok
      rw [decide_eq_false (fun z => good (.inl z))] at ok
      cases hd : isDig (figs n) with
      | false => exact absurd (.inr hd) good
      | true =>
        rw [hd] at ok
        simpa using ok
    obtain ⟨v, hv⟩ := Option.isSome_iff_exists.mp hv
    refine ⟨fun σ' H3 => H3 = H2 ∧ σ' = [some (.str n), some (.str (figs n)), some (.int (figV n)), none], ?_, ?_⟩
    · refine ⟨_, rfl, n, _, c0, rfl, rfl, Nat.le_trans n2 (by decide), at0, rfl, _, rfl, ?_⟩
      cases hb : decide (V.str ⟨#[c0]⟩ = V.str "-") with
      | true =>
        rw [hb] at en
        refine iteF ⟨_, rfl, _, v, rfl, hv, Nat.le_trans fl (by decide), _, _, rfl, rfl, rfl, ?_⟩
        unfold figV
        rw [if_pos en, hv]
        rfl
      | false =>
        rw [hb] at en
        refine iteT ⟨_, rfl, _, v, rfl, hv, Nat.le_trans fl (by decide), rfl, ?_⟩
        unfold figV
        rw [en, if_neg (by decide), hv]
        rfl
    rintro σ' H3 ⟨rfl, rfl⟩
    have e : numOf n = if inR (.int (figV n)) (-999) 999 = true ∧ (toString (figV n) : Str) = n then some (figV n) else none := by
      show (if (decide (1 ≤ n.length) && decide (n.length ≤ 4)) = true then _ else _) = _
      rw [h1, decide_eq_true h4, if_pos (by decide), if_neg good]
    have k := k _ k2
    rw [e] at k
    refine ⟨_, rfl, _, rfl, ?_⟩
    cases hb : inR (.int (figV n)) (-999) 999 with
    | false =>
      rw [hb, if_neg (fun z => nomatch z.1)] at k
      exact ⟨_, rfl, rfl, false, rfl, iteF k⟩
    | true =>
      rw [hb] at k
      by_cases hn : (toString (figV n) : Str) = n
      · rw [if_pos ⟨rfl, hn⟩] at k
        refine ⟨_, rfl, rfl, true, ?_, iteT ⟨_, rfl, k⟩⟩
        show V.bl (decide (V.str _ = V.str n)) = _
        rw [decide_eq_true (by rw [hn])]
      · rw [if_neg (fun z => hn z.2)] at k
        refine ⟨_, rfl, rfl, false, ?_, iteF k⟩
        show V.bl (decide (V.str _ = V.str n)) = _
        rw [decide_eq_false (fun z => hn (V.str.inj z))]
  · rw [decide_eq_false (show ¬ (n.length : Int) ≤ 4 by omega)]
    have e : numOf n = none := by
      unfold numOf
      rw [h1, decide_eq_false h4, if_neg (by decide)]
    rw [e] at k
    exact iteT (k H (Kp.refl H))
end
/-! ### the operations -/
abbrev Op := Str × List Str × Str
def std : List Op := [("add", ["num", "num"], "num"), ("alike", ["num", "num"], "truth"), ("any", ["truth", "truth"], "truth"), ("both", ["truth", "truth"], "truth"), ("less", ["num", "num"], "truth"), ("max", ["num", "num"], "num"), ("min", ["num", "num"], "num"),
  ("mul", ["num", "num"], "num"), ("neg", ["num"], "num"), ("no", [], "truth"), ("not", ["truth"], "truth"), ("pick", ["truth", "num", "num"], "num"), ("sub", ["num", "num"], "num"), ("x", [], "num"), ("y", [], "num"), ("yes", [], "truth"), ("z", [], "num")]
def kindOf (n : Str) : Option (List Str × Str) := if (numOf n).isSome = true then some ([], "num") else (std.find? fun r => decide (r.1 = n)).map (·.2)
def TupK (K : PySem.W.Frag) (H : Hp) (q : Addr) (xs : List V) : Prop := (∀ G, SqT K G q xs) ∨ H q = some (.tup xs)
theorem TupK.sq {K : PySem.W.Frag} {H : Hp} {q : Addr} {xs : List V} (h : TupK K H q xs) : SqT K H q xs := h.elim (fun z => z H) SqT.of
theorem TupK.kp {K : PySem.W.Frag} {H H' : Hp} {M : List Addr} {q : Addr} {xs : List V} (h : TupK K H q xs) (k : Kp H H' M) (n : ∀ m ∈ M, ∀ ys, H m ≠ some (.tup ys)) : TupK K H' q xs := h.elim .inl fun z => .inr (k.tup z fun m => n _ m _ z)
theorem TupK.kp0 {K : PySem.W.Frag} {H H' : Hp} {q : Addr} {xs : List V} (h : TupK K H q xs) (k : Kp H H' []) : TupK K H' q xs := h.kp k fun _ h => nomatch h
def KTup (K : PySem.W.Frag) (a : Addr) (xs : List V) : Prop := (∀ H, SqT K H a xs) ∧ ∃ o, K.lookup a = some o ∧ o.cls = .type "tuple"
structure Std (K : PySem.W.Frag) (mg : Str → Option Value) (S : Addr) : Prop where
  g : mg "STANDARD" = some (.ref S)
  tk : ∃ os : List Addr, KTup K S (os.map V.ref) ∧ Paired (fun o (r : Op) => ∃ q, KTup K o [.str r.1, .ref q, .str r.2.2] ∧ KTup K q (r.2.1.map V.str)) os std
theorem mapR {α β : Type} {R S : α → β → Prop} (f : ∀ x y, R x y → S x y) : ∀ {xs : List α} {ys : List β}, Paired R xs ys → Paired S xs ys
  | _, _, .nil => .nil
  | _, _, .cons a b => .cons (f _ _ a) (mapR f b)
theorem Std.t {K : PySem.W.Frag} {mg : Str → Option Value} {S : Addr} (h : Std K mg S) : ∃ os : List Addr, (∀ H, SqT K H S (os.map V.ref)) ∧ Paired (fun o (r : Op) => ∃ q, (∀ H, SqT K H o [.str r.1, .ref q, .str r.2.2]) ∧ ∀ H, SqT K H q (r.2.1.map V.str)) os std := by
  obtain ⟨os, a, b⟩ := h.tk
  exact ⟨os, a.1, mapR (fun o r ⟨q, x, y⟩ => ⟨q, x.1, y.1⟩) b⟩
def KindAt (K : PySem.W.Frag) (H : Hp) (v : V) (r : List Str × Str) : Prop := ∃ p q, v = .ref p ∧ H p = some (.tup [.ref q, .str r.2]) ∧ TupK K H q (r.1.map V.str)
def spKind (K : PySem.W.Frag) (Pn S : Addr) : Sp := fun vs H Q _ => ∃ (n : Str), vs = [.ref S, .str n] ∧ okN n = true ∧ GxR.TabG H Pn ∧ (kindOf n = none → ∀ H', Kp H H' [] → Q .non H') ∧ ∀ r v H', kindOf n = some r → Kp H H' [] → KindAt K H' v r → Q v H'
section
variable {P : Program} {w : World} {K : PySem.W.Frag} {mg : Str → Option Value} {base : Heap}
theorem sc_kind_of : FnScope ["signature", "name", "operation", "ins", "out"] ["signature", "name"] (defScope s_kind_of) := ⟨rfl, rfl, rfl, by decide +kernel, rfl, by decide +kernel, by decide +kernel⟩
theorem Paired.get {α β : Type} {R : α → β → Prop} : ∀ {xs : List α} {ys : List β}, Paired R xs ys → ∀ (i : Nat) (x : α), xs[i]? = some x → ∃ y, ys[i]? = some y ∧ R x y
  | _, _, .nil, i, x, h => by simp at h
  | _, _, .cons a b, 0, x, h => by
    cases h
    exact ⟨_, rfl, a⟩
  | _, _, .cons a b, i + 1, x, h => Paired.get b i x h
theorem Paired.len {α β : Type} {R : α → β → Prop} : ∀ {xs : List α} {ys : List β}, Paired R xs ys → xs.length = ys.length
  | _, _, .nil => rfl
  | _, _, .cons a b => congrArg Nat.succ (Paired.len b)
theorem find_at {α : Type} {p : α → Bool} : ∀ {l : List α} {i : Nat} {x : α}, l[i]? = some x → p x = true → (∀ j y, j < i → l[j]? = some y → p y = false) → l.find? p = some x
  | a :: l, 0, x, h, hp, _ => by
    cases h
    rw [List.find?_cons, hp]
  | a :: l, i + 1, x, h, hp, hn => by
    have := hn 0 a (Nat.succ_pos _) rfl
    rw [List.find?_cons, this]
    exact find_at (i := i) h hp fun j y hj e => hn (j + 1) y (Nat.succ_lt_succ hj) e
theorem ok_kind {f c Pn S f1 : Addr} {fd fd1 : FuncData} (F : Fun K "kind_of" "kind_of" s_kind_of f fd) (T : Txt0 mg) (TS : Std K mg S) (G_number_of : FnOk P w K mg base CX0 3 f1 fd1 ["name"] (spNumber Pn)) (F_number_of : Fun K "number_of" "number_of" s_number_of f1 fd1) (b_number_of : Binds K fd1 ["name"] []) (g_number_of : mg "number_of" = some (.ref f1)) :
    FnOk P w K mg base CX0 4 f fd ["signature", "name"] (spKind K Pn S) := by
  refine F.ok sc_kind_of (fun vs H Q E h => ?_) (fun cdv A outer s H vs Q E hr1 h => ?_)
  · obtain ⟨i, rfl, _⟩ := h
    rfl
  obtain ⟨n, rfl, ok, hT, kn, ks⟩ := h
  have nd := sc_kind_of.nd
  refine ⟨_, (pss_cons (ps_if (pt_cmpR op_notN (pe_call G_number_of hr1 (by rfl) g_number_of F_number_of.kp b_number_of .nil pass0 (pa_cons (pv 1) pa_nil)) pe_non (nomark _)) 
      (pss_one (ps_ret (pe_tup (pa_cons (pe_tup pa_nil) (pa_cons (pe_gstr (by rfl) T.B.g_NUMBERS) pa_nil))))) pss_nil)
    (pss_cons (ps_for PassesOwn.never rfl (pi_tup (pv 0)) (pg_tup rfl (pgs_cons (pg_name (i := 2) nd rfl (.inl rfl)) (pgs_cons (pg_name (i := 3) nd rfl (.inl rfl)) (pgs_cons (pg_name (i := 4) nd rfl (.inl rfl)) pgs_nil)))) 
      (pss_one (ps_if (pt_cmpR op_eq (pv 2) (pv 1) (nomark _)) 
        (pss_one (ps_ret (pe_tup (pa_cons (pv 3) (pa_cons (pv 4) pa_nil))))) pss_nil)))
    (pss_one (ps_ret pe_non)))), ?_⟩
  refine ⟨_, rfl, n, rfl, ok, hT, fun H1 k1 => ⟨rfl, _, rfl, ?_⟩⟩
  cases hn : numOf n with
  | some i =>
    have e : kindOf n = some (([], "num") : List Str × Str) := by
      unfold kindOf
      rw [hn]
      rfl
    refine iteT ⟨Nat.zero_le _, fun q hq => ?_⟩
    have k2 := k1.then (Kp.new (o := .tup []) hq)
    have hq2 : upd H1 q (.tup []) q = some (.tup []) := upd_same
    generalize upd H1 q (.tup []) = H2 at k2 hq2 ⊢
    refine ⟨(by show 2 ≤ sizeLine; decide), fun p hp => ?_⟩
    have k3 := Kp.new (o := .tup [.ref q, .str "num"]) hp
    exact ks _ _ _ e (k2.then k3) ⟨p, q, rfl, upd_same, .inr (k3.tup0 hq2)⟩
  | none =>
    obtain ⟨os, hS, hP⟩ := TS.t
    have ek : kindOf n = (std.find? fun r => decide (r.1 = n)).map (·.2) := by
      unfold kindOf
      rw [hn, if_neg (by decide)]
    refine iteF ⟨_, rfl, S, rfl, ⟨_, hS _⟩, for_tup (K := K) (a := S) (xs := os.map V.ref) (fun i σ H' => H' = H1 ∧ (∃ u2 u3 u4, σ = [some (.ref S), some (.str n), u2, u3, u4]) ∧ ∀ j y, j < i → std[j]? = some y → decide (y.1 = n) = false) ⟨rfl, ⟨_, _, _, rfl⟩, fun _ _ h => absurd h (Nat.not_lt_zero _)⟩ (fun i σ H' _ _ => hS _) ?_ ?_⟩
    · rintro i x σ H' hx ⟨rfl, ⟨u2, u3, u4, rfl⟩, all⟩
      rw [List.getElem?_map] at hx
      cases ho : os[i]? with
      | none => rw [ho] at hx; cases hx
      | some o =>
        rw [ho] at hx
        cases hx
        obtain ⟨r, hr, q, h1, h2⟩ := Paired.get hP i o ho
        refine ⟨o, _, rfl, h1 _, rfl, _, _, rfl, _, _, rfl, _, _, rfl, rfl, _, rfl, _, rfl, rfl, _, rfl, ?_⟩
        by_cases en : r.1 = n
        · rw [decide_eq_true (show V.str r.1 = V.str n by rw [en])]
          refine iteT ⟨_, rfl, _, rfl, (by show 2 ≤ sizeLine; decide), fun p hp => ?_⟩
          have k3 := Kp.new (o := .tup [.ref q, .str r.2.2]) hp
          refine ks r.2 _ _ ?_ (k1.then k3) ⟨p, q, rfl, upd_same, .inl h2⟩
          rw [ek, find_at hr (decide_eq_true en) all]
          rfl
        · rw [decide_eq_false (fun z => en (V.str.inj z))]
          refine iteF ⟨rfl, ⟨_, _, _, rfl⟩, fun j y hj e => ?_⟩
          by_cases ej : j = i
          · rw [ej, hr] at e
            cases e
            exact decide_eq_false en
          · exact all j y (by omega) e
    · rintro σ H' ⟨rfl, ⟨u2, u3, u4, rfl⟩, all⟩
      refine kn ?_ _ k1
      rw [ek, List.find?_eq_none.mpr]
      · rfl
      · intro y hy
        obtain ⟨j, hj, e⟩ := List.mem_iff_getElem.mp hy
        rw [all j y (by rw [List.length_map, Paired.len hP]; exact hj) (by rw [List.getElem?_eq_getElem hj, e])]
        decide
end
end K08

set_option Elab.async false
set_option maxRecDepth 100000
set_option maxHeartbeats 4000000
set_option pp.maxSteps 1500
namespace K08
open PySem L2
/-! ### the signature -/
def inL (c : Nat) : Bool := decide (c ∈ ("abcdefghijklmnopqrstuvwxyz" : Str).cps.toList)
def allL (s : Str) : Bool := s.cps.toList.all inL
def srtN (s : Str) : Bool := decide (1 ≤ s.length) && decide (s.length ≤ 5) && allL s
def opN (s : Str) : Bool := decide (1 ≤ s.length) && decide (s.length ≤ 8) && allL s
theorem allL_at {s : Str} (h : allL s = true) {i : Nat} {c : Nat} (hc : s.cps[i]? = some c) : c ∈ ("abcdefghijklmnopqrstuvwxyz" : Str).cps.toList := by
  unfold allL at h
  rw [List.all_eq_true] at h
  refine of_decide_eq_true (h c ?_)
  rw [← Array.getElem?_toList] at hc
  exact List.mem_of_getElem? hc
def spSort (Ps : Addr) : Sp := fun vs H Q _ => ∃ s : Str, vs = [.str s] ∧ srtN s = true ∧ GxR.TabG H Ps ∧ ∀ H', Kp H H' [] → Q (.bl true) H'
def spOpN (Po : Addr) : Sp := fun vs H Q _ => ∃ s : Str, vs = [.str s] ∧ opN s = true ∧ GxR.TabG H Po ∧ ∀ H', Kp H H' [] → Q (.bl true) H'
/-- a row of the signature -/
def RowK (K : PySem.W.Frag) (o : Addr) (r : Op) : Prop := ∃ q, KTup K o [.str r.1, .ref q, .str r.2.2] ∧ KTup K q (r.2.1.map V.str)
def rowN (r : Op) : Bool := opN r.1 && decide (r.2.1.length ≤ 3) && r.2.1.all srtN && srtN r.2.2
def spOper (K : PySem.W.Frag) (Pa Ps Po : Addr) : Sp := fun vs H Q _ => ∃ (o : Addr) (r : Op), vs = [.ref o] ∧ RowK K o r ∧ rowN r = true ∧ GxR.TabG H Pa ∧ GxR.TabG H Ps ∧ GxR.TabG H Po ∧ ∀ H', Kp H H' [] → Q (.bl true) H'
def spSig (S Pa Ps Po Pg : Addr) : Sp := fun vs H Q _ => vs = [.ref S] ∧ GxR.TabG H Pa ∧ GxR.TabG H Ps ∧ GxR.TabG H Po ∧ GxR.TabG H Pg ∧ ∀ H', Kp H H' [] → Q (.bl true) H'
section
variable {P : Program} {w : World} {K : PySem.W.Frag} {mg : Str → Option Value} {base : Heap}
theorem sc_is_sort : FnScope ["value", "sign"] ["value"] (defScope s_is_sort) := ⟨rfl, rfl, rfl, by decide +kernel, rfl, by decide +kernel, by decide +kernel⟩
theorem ok_sort {f c Ps : Addr} {fd : FuncData} (F : FunC K "is_sort" "is_sort" s_is_sort f fd c) (tb_is_sort : GxR.TabB base mg c Ps) (T : Txt0 mg) : FnOk P w K mg base CX0 2 f fd ["value"] (spSort Ps) := by
  refine F.ok sc_is_sort (fun vs H Q E h => ?_) (fun A outer s H vs Q E hr1 h => ?_)
  · obtain ⟨v, rfl, _⟩ := h
    rfl
  obtain ⟨n, rfl, ok, hT, k⟩ := h
  have nd := sc_is_sort.nd
  refine ⟨_, (pss_one (ps_ret (pe_and (pe_callB call_isi (by rfl) T.B.isinstance (by decide +kernel) (pa_cons (pv 0) (pa_cons (pe_bltn (v := .ty "str") (by rfl) T.B.str (by decide +kernel) rfl) pa_nil))) (pe_and (pe_chain op_le op_le pe_int (pe_callB call_len_str (by rfl) T.B.len (by decide +kernel) (pa_cons (pv 0) pa_nil)) (pe_gint (by rfl) T.B.g_MOST_SORT)) (pe_one (GG.pe_allG (own := [("sign", 1)]) (g := gName 1) (tt := tYes) rfl nd hr1 (by rfl) T.B.all (by rfl) tb_is_sort rfl (blkOk_by (N := ["value", "sign"]) (sc := defScope s_is_sort) (by decide +kernel)) (by decide +kernel) rfl rfl (pi_str (pv 0)) (fun _ _ _ _ _ _ _ => (pg_name (i := 1) nd rfl (.inl rfl))) (fun _ _ _ _ _ _ _ => pts_nil) (fun _ _ _ _ _ _ _ => (pe_cmpR op_in_sign (pv 1) (pe_gstr (by rfl) T.B.g_LETTERS) rfl)) (by intro _; rfl))))))), ?_⟩
  unfold srtN at ok
  rw [Bool.and_eq_true, Bool.and_eq_true, decide_eq_true_eq, decide_eq_true_eq] at ok
  obtain ⟨⟨n1, n2⟩, ok⟩ := ok
  refine ⟨_, rfl, _, .ty "str", _, _, true, rfl, .ty _, .base (.str _), kit_ty (by decide +kernel), true, rfl, ?_⟩
  refine ⟨_, rfl, n, rfl, Nat.le_trans n2 (by decide), _, _, rfl, rfl, _, rfl, ?_⟩
  rw [decide_eq_true (show (1 : Int) ≤ (n.length : Int) by omega)]
  refine iteT ⟨_, _, rfl, rfl, true, congrArg V.bl (decide_eq_true (by omega)), ?_⟩
  refine ⟨_, rfl, _, rfl, hT, fun H2 tb => ?_⟩
  have k2 : Kp H H2 [] := Kp.tabbed hT tb
  refine GG.gt_str (fun i H' => H' = H2) rfl (fun i c0 H' hc e => ?_) (fun H' e => ?_)
  · subst e
    refine ⟨rfl, _, rfl, c0, _, rfl, rfl, ?_⟩
    rw [decide_eq_true (allL_at ok hc)]
    exact .inl ⟨rfl, rfl⟩
  · subst e
    exact k _ k2
theorem sc_is_operation_name : FnScope ["value", "sign"] ["value"] (defScope s_is_operation_name) := ⟨rfl, rfl, rfl, by decide +kernel, rfl, by decide +kernel, by decide +kernel⟩
theorem ok_opname {f c Po : Addr} {fd : FuncData} (F : FunC K "is_operation_name" "is_operation_name" s_is_operation_name f fd c) (tb_is_operation_name : GxR.TabB base mg c Po) (T : Txt0 mg) : FnOk P w K mg base CX0 2 f fd ["value"] (spOpN Po) := by
  refine F.ok sc_is_operation_name (fun vs H Q E h => ?_) (fun A outer s H vs Q E hr1 h => ?_)
  · obtain ⟨v, rfl, _⟩ := h
    rfl
  obtain ⟨n, rfl, ok, hT, k⟩ := h
  have nd := sc_is_operation_name.nd
  refine ⟨_, (pss_cons (ps_if (PW.pt (pw_or (pt_not (pt_val (pe_callB call_isi (by rfl) T.B.isinstance (by decide +kernel) (pa_cons (pv 0) (pa_cons (pe_bltn (v := .ty "str") (by rfl) T.B.str (by decide +kernel) rfl) pa_nil))))) (pw_or (pt_not (pt_chain op_le op_le pe_int (pe_callB call_len_str (by rfl) T.B.len (by decide +kernel) (pa_cons (pv 0) pa_nil)) (pe_gint (by rfl) T.B.g_MOST_NAME))) (pw_or1 (pt_cmpR op_notIn_sign (pe_ix ix_str (pv 0) pe_int (fun _ _ => rfl)) (pe_gstr (by rfl) T.B.g_LETTERS) rfl))))) 
      (pss_one (ps_ret pe_bl)) pss_nil)
    (pss_one (ps_ret (GG.pe_allG (own := [("sign", 1)]) (g := gName 1) (tt := tYes) rfl nd hr1 (by rfl) T.B.all (by rfl) tb_is_operation_name rfl (blkOk_by (N := ["value", "sign"]) (sc := defScope s_is_operation_name) (by decide +kernel)) (by decide +kernel) rfl rfl (pi_str (pv 0)) (fun _ _ _ _ _ _ _ => (pg_name (i := 1) nd rfl (.inl rfl))) (fun _ _ _ _ _ _ _ => pts_nil) (fun _ _ _ _ _ _ _ => (pe_or (pe_cmpR op_in_sign (pv 1) (pe_gstr (by rfl) T.B.g_LETTERS) rfl) (pe_one (pe_cmpR op_in_sign (pv 1) (pe_gstr (by rfl) T.B.g_FIGURES) rfl)))) (by intro _; rfl))))), ?_⟩
  unfold opN at ok
  rw [Bool.and_eq_true, Bool.and_eq_true, decide_eq_true_eq, decide_eq_true_eq] at ok
  obtain ⟨⟨n1, n2⟩, ok⟩ := ok
  refine ⟨_, rfl, _, .ty "str", _, _, true, rfl, .ty _, .base (.str _), kit_ty (by decide +kernel), true, rfl, ?_⟩
  refine iteF ⟨_, rfl, n, rfl, Nat.le_trans n2 (by decide), _, _, rfl, rfl, _, rfl, ?_⟩
  rw [decide_eq_true (show (1 : Int) ≤ (n.length : Int) by omega)]
  refine iteT ⟨_, _, rfl, rfl, true, congrArg V.bl (decide_eq_true (by omega)), iteF ?_⟩
  obtain ⟨c0, r, hcr⟩ : ∃ c r, n.cps.toList = c :: r := by
    cases e : n.cps.toList with
    | nil =>
      have : n.cps.toList.length = 0 := by rw [e]; rfl
      have : n.length = 0 := this
      omega
    | cons c r => exact ⟨c, r, rfl⟩
  have at0 : atI n.cps.toList (0 : Int) = some c0 := by
    rw [hcr]
    exact atI_nat (j := 0) rfl
  have m0 : c0 ∈ ("abcdefghijklmnopqrstuvwxyz" : Str).cps.toList := allL_at ok (i := 0) (by rw [← Array.getElem?_toList, hcr]; rfl)
  refine ⟨_, rfl, n, _, c0, rfl, rfl, Nat.le_trans n2 (by decide), at0, c0, _, rfl, rfl, ?_⟩
  rw [decide_eq_true m0]
  refine ⟨false, rfl, iteF ⟨_, rfl, _, rfl, hT, fun H2 tb => ?_⟩⟩
  have k2 : Kp H H2 [] := Kp.tabbed hT tb
  refine GG.gt_str (fun i H' => H' = H2) rfl (fun i c0 H' hc e => ?_) (fun H' e => ?_)
  · subst e
    refine ⟨rfl, _, rfl, c0, _, rfl, rfl, ?_⟩
    rw [decide_eq_true (allL_at ok hc)]
    exact ⟨true, rfl, iteT (.inl ⟨rfl, rfl⟩)⟩
  · subst e
    exact k _ k2
theorem sc_is_operation : FnScope ["value", "one"] ["value"] (defScope s_is_operation) := ⟨rfl, rfl, rfl, by decide +kernel, rfl, by decide +kernel, by decide +kernel⟩
theorem ok_operation {f c Pa Ps Po f1 f2 : Addr} {fd fd1 fd2 : FuncData} (F : FunC K "is_operation" "is_operation" s_is_operation f fd c) (tb_is_operation : GxR.TabB base mg c Po) (T : Txt0 mg)
    (G_is_operation_name : FnOk P w K mg base CX0 2 f1 fd1 ["value"] (spOpN Pa)) (F_is_operation_name : Fun K "is_operation_name" "is_operation_name" s_is_operation_name f1 fd1) (b_is_operation_name : Binds K fd1 ["value"] []) (g_is_operation_name : mg "is_operation_name" = some (.ref f1))
    (G_is_sort : FnOk P w K mg base CX0 2 f2 fd2 ["value"] (spSort Ps)) (F_is_sort : Fun K "is_sort" "is_sort" s_is_sort f2 fd2) (b_is_sort : Binds K fd2 ["value"] []) (g_is_sort : mg "is_sort" = some (.ref f2)) :
    FnOk P w K mg base CX0 4 f fd ["value"] (spOper K Pa Ps Po) := by
  refine F.ok sc_is_operation (fun vs H Q E h => ?_) (fun A outer s H vs Q E hr3 h => ?_)
  · obtain ⟨o, r, rfl, _⟩ := h
    rfl
  obtain ⟨o, r, rfl, ⟨q, hO, hq⟩, ok, hTa, hTs, hTo, k⟩ := h
  have nd := sc_is_operation.nd
  have hr1 := hr3.mono (by decide : 1 ≤ 3)
  have hr2 := hr3.mono (by decide : 2 ≤ 3)
  refine ⟨_, (pss_cons (ps_if (PW.pt (pw_or (pt_not (pt_val (pe_callB call_isi (by rfl) T.B.isinstance (by decide +kernel) (pa_cons (pv 0) (pa_cons (pe_bltn (v := .ty "tuple") (by rfl) T.B.tuple (by decide +kernel) rfl) pa_nil))))) (pw_or (pt_cmpR op_ne (pe_callB call_len_seq (by rfl) T.B.len (by decide +kernel) (pa_cons (pv 0) pa_nil)) pe_int (nomark _)) (pw_or1 (pt_not (pt_val (pe_call G_is_operation_name hr2 (by rfl) g_is_operation_name F_is_operation_name.kp b_is_operation_name .nil pass0 (pa_cons (pe_ix ix_tup (pv 0) pe_int (fun _ _ => rfl)) pa_nil)))))))) 
      (pss_one (ps_ret pe_bl)) pss_nil)
    (pss_cons (ps_if (PW.pt (pw_or (pt_not (pt_val (pe_callB call_isi (by rfl) T.B.isinstance (by decide +kernel) (pa_cons (pe_ix ix_tup (pv 0) pe_int (fun _ _ => rfl)) (pa_cons (pe_bltn (v := .ty "tuple") (by rfl) T.B.tuple (by decide +kernel) rfl) pa_nil))))) (pw_or1 (pt_cmpR op_gt (pe_callB call_len_seq (by rfl) T.B.len (by decide +kernel) (pa_cons (pe_ix ix_tup (pv 0) pe_int (fun _ _ => rfl)) pa_nil)) (pe_gint (by rfl) T.B.g_MOST_PLACES) (nomark _))))) 
      (pss_one (ps_ret pe_bl)) pss_nil)
    (pss_one (ps_ret (pe_and (GG.pe_allG (own := [("one", 1)]) (g := gName 1) (tt := tYes) rfl nd hr1 (by rfl) T.B.all (by rfl) tb_is_operation rfl (blkOk_by (N := ["value", "one"]) (sc := defScope s_is_operation) (by decide +kernel)) (by decide +kernel) rfl rfl (pi_tup (pe_ix ix_tup (pv 0) pe_int (fun _ _ => rfl))) (fun _ _ _ _ _ _ _ => (pg_name (i := 1) nd rfl (.inl rfl))) (fun _ _ _ _ _ _ _ => pts_nil) (fun _ _ _ _ _ _ _ => (pe_call G_is_sort (GG.room_gA hr3 _) (by rfl) g_is_sort F_is_sort.kp b_is_sort .nil pass0 (pa_cons (pv 1) pa_nil))) (by intro _; rfl)) (pe_one (pe_call G_is_sort hr2 (by rfl) g_is_sort F_is_sort.kp b_is_sort .nil pass0 (pa_cons (pe_ix ix_tup (pv 0) pe_int (fun _ _ => rfl)) pa_nil)))))))), ?_⟩
  unfold rowN at ok
  rw [Bool.and_eq_true, Bool.and_eq_true, Bool.and_eq_true, decide_eq_true_eq] at ok
  obtain ⟨⟨⟨o1, o2⟩, o3⟩, o4⟩ := ok
  obtain ⟨ob, lo, co⟩ := hO.2
  obtain ⟨obq, lq, cq⟩ := hq.2
  refine ⟨_, rfl, _, .ty "tuple", _, _, true, rfl, .ty _, .kTuple lo co, kit_ty (by decide +kernel), true, rfl, ?_⟩
  refine iteF ⟨_, rfl, o, _, rfl, .inr (hO.1 _), rfl, _, rfl, iteF ?_⟩
  refine ⟨_, rfl, o, _, _, _, rfl, rfl, hO.1 _, at_of (j := 0) rfl rfl, r.1, rfl, o1, hTa, fun H1 k1 => ⟨true, rfl, iteF ?_⟩⟩
  refine ⟨_, rfl, o, _, _, _, rfl, rfl, hO.1 _, at_of (j := 1) rfl rfl, _, .ty "tuple", _, _, true, rfl, .ty _, .kTuple lq cq, kit_ty (by decide +kernel), true, rfl, iteF ?_⟩
  refine ⟨_, rfl, o, _, _, _, rfl, rfl, hO.1 _, at_of (j := 1) rfl rfl, q, _, rfl, .inr (hq.1 _), _, _, rfl, rfl, _, rfl, ?_⟩
  rw [List.length_map, decide_eq_false (show ¬ ((r.2.1.length : Nat) : Int) > 3 by omega)]
  refine iteF ?_
  refine ⟨_, rfl, o, _, _, _, rfl, rfl, hO.1 _, at_of (j := 1) rfl rfl, q, rfl, ⟨_, hq.1 _⟩, k1.tabG hTo, fun H2 tb => ?_⟩
  have k2 := k1.then (Kp.tabbed (k1.tabG hTo) tb)
  refine GG.gt_tup (K := K) (a := q) (xs := r.2.1.map V.str) (fun i H' => Kp H2 H' []) (Kp.refl _) (fun i H' _ h => hq.1 _) (fun i x H' hx k3 => ?_) (fun H' k3 => ?_)
  · rw [List.getElem?_map] at hx
    cases hm : r.2.1[i]? with
    | none => rw [hm] at hx; cases hx
    | some z =>
      rw [hm] at hx
      cases hx
      refine ⟨rfl, _, rfl, z, rfl, List.all_eq_true.mp o3 z (List.mem_of_getElem? hm), (k2.then k3).tabG hTs, fun H4 k4 => ?_⟩
      exact .inl ⟨rfl, k3.then k4⟩
  · refine ⟨true, rfl, ?_⟩
    refine ⟨_, rfl, o, _, _, _, rfl, rfl, hO.1 _, at_of (j := 2) rfl rfl, r.2.2, rfl, o4, (k2.then k3).tabG hTs, fun H4 k4 => ?_⟩
    exact k _ ((k2.then k3).then k4)
end
end K08

set_option Elab.async false
set_option maxRecDepth 100000
set_option maxHeartbeats 4000000
set_option pp.maxSteps 1500
namespace K08
open PySem L2
section
variable {P : Program} {w : World} {K : PySem.W.Frag} {mg : Str → Option Value} {base : Heap}
theorem sc_is_signature : FnScope ["value", "at", "one"] ["value"] (defScope s_is_signature) := ⟨rfl, rfl, rfl, by decide +kernel, rfl, by decide +kernel, by decide +kernel⟩
theorem std_row : ∀ r ∈ std, rowN r = true := by decide +kernel
theorem std_ltA : ((List.range 16).all fun i => match std[i]?, std[i + 1]? with | some r, some r' => decide (r.1.cps.toList < r'.1.cps.toList) | _, _ => true) = true := by decide +kernel
theorem std_lt {i : Nat} {r r' : Op} (h : std[i]? = some r) (h' : std[i + 1]? = some r') : decide (r.1.cps.toList < r'.1.cps.toList) = true := by
  have hi : i + 1 < 17 := (List.getElem?_eq_some_iff.mp h').1
  have := List.all_eq_true.mp std_ltA i (List.mem_range.mpr (by omega))
  rw [h, h'] at this
  exact this
theorem ok_signature {f c S Pa Ps Po Pg f1 : Addr} {fd fd1 : FuncData} (F : FunC K "is_signature" "is_signature" s_is_signature f fd c) (tb_is_signature : GxR.TabB base mg c Pg) (T : Txt0 mg) (TS : Std K mg S)
    (G_is_operation : FnOk P w K mg base CX0 4 f1 fd1 ["value"] (spOper K Pa Ps Po)) (F_is_operation : Fun K "is_operation" "is_operation" s_is_operation f1 fd1) (b_is_operation : Binds K fd1 ["value"] []) (g_is_operation : mg "is_operation" = some (.ref f1)) :
    FnOk P w K mg base CX0 6 f fd ["value"] (spSig S Pa Ps Po Pg) := by
  refine F.ok sc_is_signature (fun vs H Q E h => ?_) (fun A outer s H vs Q E hr5 h => ?_)
  · rw [h.1]
    rfl
  obtain ⟨rfl, hTa, hTs, hTo, hTg, k⟩ := h
  have nd := sc_is_signature.nd
  have hr1 := hr5
  refine ⟨_, (pss_cons (ps_if (PW.pt (pw_or (pt_not (pt_val (pe_callB call_isi (by rfl) T.B.isinstance (by decide +kernel) (pa_cons (pv 0) (pa_cons (pe_bltn (v := .ty "tuple") (by rfl) T.B.tuple (by decide +kernel) rfl) pa_nil))))) (pw_or1 (pt_not (pt_chain op_le op_le pe_int (pe_callB call_len_seq (by rfl) T.B.len (by decide +kernel) (pa_cons (pv 0) pa_nil)) (pe_gint (by rfl) T.B.g_MOST_OPERATIONS)))))) 
      (pss_one (ps_ret pe_bl)) pss_nil)
    (pss_cons (ps_if (pt_not (pt_val (GG.pe_allG (own := [("one", 2)]) (g := gName 2) (tt := tYes) rfl nd hr1 (by rfl) T.B.all (by rfl) tb_is_signature rfl (blkOk_by (N := ["value", "at", "one"]) (sc := defScope s_is_signature) (by decide +kernel)) (by decide +kernel) rfl rfl (pi_tup (pv 0)) (fun _ _ _ _ _ _ _ => (pg_name (i := 2) nd rfl (.inl rfl))) (fun _ _ _ _ _ _ _ => pts_nil) (fun _ _ _ _ _ _ _ => (pe_call G_is_operation (GG.room_gA hr5 _) (by rfl) g_is_operation F_is_operation.kp b_is_operation .nil pass0 (pa_cons (pv 2) pa_nil))) (by intro _; rfl)))) 
      (pss_one (ps_ret pe_bl)) pss_nil)
    (pss_one (ps_ret (GG.pe_allG (own := [("at", 1)]) (g := gName 1) (tt := tYes) rfl nd hr1 (by rfl) T.B.all (by rfl) tb_is_signature rfl (blkOk_by (N := ["value", "at", "one"]) (sc := defScope s_is_signature) (by decide +kernel)) (by decide +kernel) rfl rfl (pi_range2 (by rfl) T.B.range (pa_cons pe_int (pa_cons (pe_callB call_len_seq (by rfl) T.B.len (by decide +kernel) (pa_cons (pv 0) pa_nil)) pa_nil))) (fun _ _ _ _ _ _ _ => (pg_name (i := 1) nd rfl (.inl rfl))) (fun _ _ _ _ _ _ _ => pts_nil) (fun _ _ _ _ _ _ _ => (pe_cmpR op_lt_str (pe_ix (GK.ixTK K) (pe_ix (GK.ixTK K) (pv 0) (pe_op op_sub (pv 1) pe_int) (fun _ _ => rfl)) pe_int (fun _ _ => rfl)) (pe_ix (GK.ixTK K) (pe_ix (GK.ixTK K) (pv 0) (pv 1) (fun _ _ => rfl)) pe_int (fun _ _ => rfl)) (nomark _))) (by intro _; rfl)))))), ?_⟩
  obtain ⟨os, hS, hP⟩ := TS.tk
  have hl : os.length = 17 := Paired.len hP
  obtain ⟨ob, lo, co⟩ := hS.2
  refine ⟨_, rfl, _, .ty "tuple", _, _, true, rfl, .ty _, .kTuple lo co, kit_ty (by decide +kernel), true, rfl, ?_⟩
  refine iteF ⟨_, rfl, S, _, rfl, .inr (hS.1 _), _, _, rfl, rfl, _, rfl, ?_⟩
  rw [List.length_map, hl]
  refine iteT ⟨_, _, rfl, rfl, true, rfl, iteF ?_⟩
  refine ⟨_, rfl, S, rfl, ⟨_, hS.1 _⟩, hTg, fun H2 tb => ?_⟩
  have k2 : Kp H H2 [] := Kp.tabbed hTg tb
  refine GG.gt_tup (K := K) (a := S) (xs := os.map V.ref) (fun i H' => Kp H2 H' []) (Kp.refl _) (fun i H' _ h => hS.1 _) (fun i x H' hx k3 => ?_) (fun H' k3 => ?_)
  · rw [List.getElem?_map] at hx
    cases hm : os[i]? with
    | none => rw [hm] at hx; cases hx
    | some z =>
      rw [hm] at hx
      cases hx
      obtain ⟨r, hr, row⟩ := Paired.get hP i z hm
      have k23 := k2.then k3
      refine ⟨rfl, _, rfl, z, r, rfl, row, std_row r (List.mem_of_getElem? hr), k23.tabG hTa, k23.tabG hTs, k23.tabG hTo, fun H4 k4 => ?_⟩
      exact .inl ⟨rfl, k3.then k4⟩
  · refine ⟨true, rfl, iteF ?_⟩
    have kg := (k2.then k3).tabG hTg
    refine ⟨_, rfl, S, _, rfl, .inr (hS.1 _), 1, 17, by rw [List.length_map, hl]; rfl, ⟨by decide, by decide, by decide, by decide⟩, kg, fun H4 tb4 => ?_⟩
    have k4 := (k2.then k3).then (Kp.tabbed kg tb4)
    refine GG.gt_range (lo := 1) (n := 16) (fun i H' => H' = H4) rfl (fun i H' hi e => ?_) (fun H' e => ?_)
    · subst e
      obtain ⟨o1, h1⟩ : ∃ o, os[i]? = some o := ⟨_, List.getElem?_eq_getElem (by omega)⟩
      obtain ⟨o2, h2⟩ : ∃ o, os[i + 1]? = some o := ⟨_, List.getElem?_eq_getElem (by omega)⟩
      obtain ⟨r1, e1, q1, m1, _⟩ := Paired.get hP i o1 h1
      obtain ⟨r2, e2, q2, m2, _⟩ := Paired.get hP (i + 1) o2 h2
      have g1 : (os.map V.ref)[i]? = some (.ref o1) := by rw [List.getElem?_map, h1]; rfl
      have g2 : (os.map V.ref)[i + 1]? = some (.ref o2) := by rw [List.getElem?_map, h2]; rfl
      refine ⟨rfl, _, rfl, _, rfl, _, _, rfl, rfl, S, _, _, _, rfl, rfl, hS.1 _, at_of (j := i) (by omega) g1, o1, _, _, _, rfl, rfl, m1.1 _, at_of (j := 0) rfl rfl, ?_⟩
      refine ⟨_, rfl, _, rfl, S, _, _, _, rfl, rfl, hS.1 _, at_of (j := i + 1) (by omega) g2, o2, _, _, _, rfl, rfl, m2.1 _, at_of (j := 0) rfl rfl, _, _, rfl, rfl, ?_⟩
      rw [std_lt e1 e2]
      exact .inl ⟨rfl, rfl⟩
    · subst e
      exact k _ k4
end
end K08

set_option Elab.async false
set_option maxRecDepth 100000
set_option maxHeartbeats 4000000
set_option pp.maxSteps 1500
namespace K08
open PySem L2
/-! ### terms -/
inductive Tm
  | lf (n : Str)
  | un (n : Str) (a : Tm)
  | bi (n : Str) (a b : Tm)
  | tr (n : Str) (a b c : Tm)
def Tm.nam : Tm → Str
  | .lf n => n
  | .un n _ => n
  | .bi n _ _ => n
  | .tr n _ _ _ => n
def Tm.kids : Tm → List Tm
  | .lf _ => []
  | .un _ a => [a]
  | .bi _ a b => [a, b]
  | .tr _ a b c => [a, b, c]
def Tm.dep : Tm → Nat
  | .lf _ => 1
  | .un _ a => a.dep + 1
  | .bi _ a b => max a.dep b.dep + 1
  | .tr _ a b c => max a.dep (max b.dep c.dep) + 1
def Tm.size : Tm → Nat
  | .lf _ => 1
  | .un _ a => a.size + 1
  | .bi _ a b => a.size + b.size + 1
  | .tr _ a b c => a.size + b.size + c.size + 1
theorem Tm.ind {P : Tm → Prop} (h : ∀ t : Tm, (∀ k ∈ t.kids, P k) → P t) (t : Tm) : P t := by
  induction t with
  | lf n => exact h _ fun _ hk => nomatch hk
  | un n a ha => exact h _ fun k hk => by rw [List.mem_singleton.mp (show k ∈ [a] from hk)]; exact ha
  | bi n a b ha hb =>
    refine h _ fun k hk => ?_
    have hk : k ∈ [a, b] := hk
    simp only [List.mem_cons, List.not_mem_nil, or_false] at hk
    rcases hk with rfl | rfl
    · exact ha
    · exact hb
  | tr n a b c ha hb hc =>
    refine h _ fun k hk => ?_
    have hk : k ∈ [a, b, c] := hk
    simp only [List.mem_cons, List.not_mem_nil, or_false] at hk
    rcases hk with rfl | rfl | rfl
    · exact ha
    · exact hb
    · exact hc
theorem Tm.kid_dep {t k : Tm} (h : k ∈ t.kids) : k.dep + 1 ≤ t.dep := by
  cases t with
  | lf n => exact nomatch (show k ∈ [] from h)
  | un n a => rw [List.mem_singleton.mp (show k ∈ [a] from h)]; exact Nat.le_refl _
  | bi n a b =>
    have h : k ∈ [a, b] := h
    show k.dep + 1 ≤ max a.dep b.dep + 1
    simp only [List.mem_cons, List.not_mem_nil, or_false] at h
    rcases h with rfl | rfl <;> omega
  | tr n a b c =>
    have h : k ∈ [a, b, c] := h
    show k.dep + 1 ≤ max a.dep (max b.dep c.dep) + 1
    simp only [List.mem_cons, List.not_mem_nil, or_false] at h
    rcases h with rfl | rfl | rfl <;> omega
theorem Tm.dep_pos (t : Tm) : 1 ≤ t.dep := by cases t <;> simp [Tm.dep]
theorem Tm.kids_le (t : Tm) : t.kids.length ≤ 3 := by cases t <;> simp [Tm.kids]
def sizes (ts : List Tm) : Nat := (ts.map Tm.size).sum
theorem Tm.size_eq (t : Tm) : t.size = sizes t.kids + 1 := by cases t <;> simp [Tm.size, Tm.kids, sizes] <;> omega
theorem sizes_take {ts : List Tm} {i : Nat} {k : Tm} (h : ts[i]? = some k) : sizes (ts.take (i + 1)) = sizes (ts.take i) + k.size := by
  unfold sizes
  rw [List.take_succ, h, List.map_append, List.sum_append]
  simp
theorem sizes_le : ∀ (ts : List Tm) (i : Nat), sizes (ts.take i) ≤ sizes ts
  | [], i => by simp [sizes]
  | t :: ts, 0 => by simp [sizes]
  | t :: ts, i + 1 => by
    have := sizes_le ts i
    unfold sizes at this ⊢
    simp only [List.take_succ_cons, List.map_cons, List.sum_cons]
    omega
/-- a term in the heap -/
def TmAt (H : Hp) : Tm → V → Prop
  | .lf n, v => ∃ p, v = .ref p ∧ H p = some (.tup [.str n])
  | .un n a, v => ∃ p x, v = .ref p ∧ H p = some (.tup [.str n, x]) ∧ TmAt H a x
  | .bi n a b, v => ∃ p x y, v = .ref p ∧ H p = some (.tup [.str n, x, y]) ∧ TmAt H a x ∧ TmAt H b y
  | .tr n a b c, v => ∃ p x y z, v = .ref p ∧ H p = some (.tup [.str n, x, y, z]) ∧ TmAt H a x ∧ TmAt H b y ∧ TmAt H c z
theorem TmAt.out {H : Hp} {t : Tm} {v : V} (h : TmAt H t v) : ∃ p xs, v = .ref p ∧ H p = some (.tup (.str t.nam :: xs)) ∧ Paired (TmAt H) t.kids xs := by
  cases t with
  | lf n => obtain ⟨p, e, h⟩ := h; exact ⟨p, [], e, h, .nil⟩
  | un n a => obtain ⟨p, x, e, h, ha⟩ := h; exact ⟨p, [x], e, h, .cons ha .nil⟩
  | bi n a b => obtain ⟨p, x, y, e, h, ha, hb⟩ := h; exact ⟨p, [x, y], e, h, .cons ha (.cons hb .nil)⟩
  | tr n a b c => obtain ⟨p, x, y, z, e, h, ha, hb, hc⟩ := h; exact ⟨p, [x, y, z], e, h, .cons ha (.cons hb (.cons hc .nil))⟩
theorem TmAt.mk {H : Hp} {t : Tm} {p : Addr} {xs : List V} (h : H p = some (.tup (.str t.nam :: xs))) (k : Paired (TmAt H) t.kids xs) : TmAt H t (.ref p) := by
  cases t with
  | lf n => cases k; exact ⟨p, rfl, h⟩
  | un n a => cases k with | cons ha k => cases k; exact ⟨p, _, rfl, h, ha⟩
  | bi n a b => cases k with | cons ha k => cases k with | cons hb k => cases k; exact ⟨p, _, _, rfl, h, ha, hb⟩
  | tr n a b c => cases k with | cons ha k => cases k with | cons hb k => cases k with | cons hc k => cases k; exact ⟨p, _, _, _, rfl, h, ha, hb, hc⟩
theorem TmAt.kp {H H' : Hp} {M : List Addr} (k : Kp H H' M) (n : ∀ m ∈ M, ∀ xs, H m ≠ some (.tup xs)) (t : Tm) : ∀ {v : V}, TmAt H t v → TmAt H' t v := by
  have T : ∀ {p : Addr} {xs : List V}, H p = some (.tup xs) → H' p = some (.tup xs) := fun h => k.tup h fun m => n _ m _ h
  induction t with
  | lf m => rintro v ⟨p, e, h⟩; exact ⟨p, e, T h⟩
  | un m a ha => rintro v ⟨p, x, e, h, x1⟩; exact ⟨p, x, e, T h, ha x1⟩
  | bi m a b ha hb => rintro v ⟨p, x, y, e, h, x1, y1⟩; exact ⟨p, x, y, e, T h, ha x1, hb y1⟩
  | tr m a b c ha hb hc => rintro v ⟨p, x, y, z, e, h, x1, y1, z1⟩; exact ⟨p, x, y, z, e, T h, ha x1, hb y1, hc z1⟩
theorem TmAt.kp0 {H H' : Hp} (k : Kp H H' []) {t : Tm} {v : V} (h : TmAt H t v) : TmAt H' t v := TmAt.kp k (fun _ m => nomatch m) t h
theorem kids_kp {H H' : Hp} (k : Kp H H' []) {ts : List Tm} {xs : List V} (h : Paired (TmAt H) ts xs) : Paired (TmAt H') ts xs := mapR (fun _ _ z => z.kp0 k) h
/-- of a sort -/
def Ws : Tm → Str → Prop
  | .lf n, s => kindOf n = some ([], s) ∧ okN n = true
  | .un n a, s => okN n = true ∧ ∃ s1, kindOf n = some ([s1], s) ∧ Ws a s1
  | .bi n a b, s => okN n = true ∧ ∃ s1 s2, kindOf n = some ([s1, s2], s) ∧ Ws a s1 ∧ Ws b s2
  | .tr n a b c, s => okN n = true ∧ ∃ s1 s2 s3, kindOf n = some ([s1, s2, s3], s) ∧ Ws a s1 ∧ Ws b s2 ∧ Ws c s3
theorem Ws.out {t : Tm} {s : Str} (h : Ws t s) : okN t.nam = true ∧ ∃ ins, kindOf t.nam = some (ins, s) ∧ Paired Ws t.kids ins := by
  cases t with
  | lf n => exact ⟨h.2, [], h.1, .nil⟩
  | un n a => obtain ⟨o, s1, k, ha⟩ := h; exact ⟨o, _, k, .cons ha .nil⟩
  | bi n a b => obtain ⟨o, s1, s2, k, ha, hb⟩ := h; exact ⟨o, _, k, .cons ha (.cons hb .nil)⟩
  | tr n a b c => obtain ⟨o, s1, s2, s3, k, ha, hb, hc⟩ := h; exact ⟨o, _, k, .cons ha (.cons hb (.cons hc .nil))⟩
theorem sl_tail {K : PySem.W.Frag} {σ : L2.St} {H : Hp} {a : Addr} {x : V} {xs : List V} {Q : VK} (ha : SqT K H a (x :: xs)) (q : ∀ p, H p = none → Q (.ref p) (upd H p (.tup xs))) : tNoPart σ H fun u H3 => rSlA K (.ref a) (some 1) u H3 Q := by
  have e : HT.sIx (x :: xs).length 0 (some 1) = 1 := by
    rw [show (some (1 : Int)) = some ((1 : Nat) : Int) from rfl, HT.sIx_nat, List.length_cons]
    omega
  refine ⟨a, _, rfl, ha, fun z => ?_, fun _ p hp => ?_⟩
  · rw [e] at z
    exact absurd z.1 (by decide)
  · have e2 : cutV (x :: xs) (some 1) none = xs := by
      unfold cutV
      rw [e, HT.sIx_none, List.drop_succ_cons, List.drop_zero, List.length_cons, Nat.add_sub_cancel]
      exact List.take_length
    rw [e2]
    exact q p hp
/-- sort_within's -/
def spSW (Pn S : Addr) (n : Nat) : Sp := fun vs H Q _ => ∃ (v : V) (t : Tm) (s : Str) (l : Nat), vs = [.ref S, v, .int l] ∧ TmAt H t v ∧ t.dep ≤ n ∧ Ws t s ∧ t.size ≤ l ∧ GxR.TabG H Pn ∧
  ∀ H' p, Kp H H' [] → H' p = some (.tup [.str s, .int ((l - t.size : Nat) : Int)]) → Q (.ref p) H'
def spIsT (Pn S : Addr) (n : Nat) : Sp := fun vs H Q _ => ∃ (v : V) (t : Tm) (s : Str), vs = [.ref S, v] ∧ TmAt H t v ∧ t.dep ≤ n ∧ Ws t s ∧ t.size ≤ 200 ∧ GxR.TabG H Pn ∧ ∀ H', Kp H H' [] → Q (.bl true) H'
section
variable {P : Program} {w : World} {K : PySem.W.Frag} {mg : Str → Option Value} {base : Heap}
theorem ok_never {CX : CXT} {k : Nat} {f : Addr} {fd : FuncData} {ps : List Str} {sp : Sp} (h : ∀ vs H Q E, ¬ sp vs H Q E) : FnOk P w K mg base CX k f fd ps sp :=
  ⟨fun vs H Q E z => (h _ _ _ _ z).elim, fun _ _ _ _ _ _ _ _ _ _ _ _ _ z => (h _ _ _ _ z).elim⟩
theorem sc_sort_within : FnScope ["signature", "value", "left", "kind", "sort", "one", "found"] ["signature", "value", "left"] (defScope s_sort_within) := ⟨rfl, rfl, rfl, by decide +kernel, rfl, by decide +kernel, by decide +kernel⟩
theorem ok_sw_step {f Pn S f1 : Addr} {fd fd1 : FuncData} (F_sort_within : Fun K "sort_within" "sort_within" s_sort_within f fd) (T : Txt0 mg) (b_sort_within : Binds K fd ["signature", "value", "left"] []) (g_sort_within : mg "sort_within" = some (.ref f))
    (G_kind_of : FnOk P w K mg base CX0 4 f1 fd1 ["signature", "name"] (spKind K Pn S)) (F_kind_of : Fun K "kind_of" "kind_of" s_kind_of f1 fd1) (b_kind_of : Binds K fd1 ["signature", "name"] []) (g_kind_of : mg "kind_of" = some (.ref f1)) {n : Nat}
    (G_sort_within : FnOk P w K mg base CX0 (4 + n) f fd ["signature", "value", "left"] (spSW Pn S n)) :
    FnOk P w K mg base CX0 (4 + n + 1) f fd ["signature", "value", "left"] (spSW Pn S (n + 1)) := by
  refine F_sort_within.ok sc_sort_within (fun vs H Q E h => ?_) (fun cdv A outer s H vs Q E hr h => ?_)
  · obtain ⟨v, t, s, l, rfl, _⟩ := h
    rfl
  obtain ⟨v, t, srt, l, rfl, hT, hd, hw, hz, hG, k⟩ := h
  have nd := sc_sort_within.nd
  have hr4 := hr.mono (by omega : 4 ≤ 4 + n)
  refine ⟨_, (pss_cons (ps_if (PW.pt (pw_or (pt_not (pt_val (pe_callB call_isi (by rfl) T.B.isinstance (by decide +kernel) (pa_cons (pv 1) (pa_cons (pe_bltn (v := .ty "tuple") (by rfl) T.B.tuple (by decide +kernel) rfl) pa_nil))))) (pw_or (pt_cmpR op_eq (pe_callB call_len_seq (by rfl) T.B.len (by decide +kernel) (pa_cons (pv 1) pa_nil)) pe_int (nomark _)) (pw_or (pt_not (pt_val (pe_callB call_isi (by rfl) T.B.isinstance (by decide +kernel) (pa_cons (pe_ix ix_tup (pv 1) pe_int (fun _ _ => rfl)) (pa_cons (pe_bltn (v := .ty "str") (by rfl) T.B.str (by decide +kernel) rfl) pa_nil))))) (pw_or1 (pt_cmpR op_eq (pv 2) pe_int (nomark _))))))) 
      (pss_one (ps_ret pe_non)) pss_nil)
    (pss_cons (ps_set (i := 3) nd rfl (.inl rfl) (pe_call G_kind_of hr4 (by rfl) g_kind_of F_kind_of.kp b_kind_of .nil pass0 (pa_cons (pv 0) (pa_cons (pe_ix ix_tup (pv 1) pe_int (fun _ _ => rfl)) pa_nil))))
    (pss_cons (ps_if (PW.pt (pw_or (pt_cmpR op_isN (pv 3) pe_non (nomark _)) (pw_or1 (pt_cmpR op_ne (pe_callB call_len_seq (by rfl) T.B.len (by decide +kernel) (pa_cons (pe_ix ix_tup (pv 3) pe_int (fun _ _ => rfl)) pa_nil)) (pe_op op_sub (pe_callB call_len_seq (by rfl) T.B.len (by decide +kernel) (pa_cons (pv 1) pa_nil)) pe_int) (nomark _))))) 
      (pss_one (ps_ret pe_non)) pss_nil)
    (pss_cons (ps_aug (i := 2) nd rfl (.inl rfl) pe_int ip_sub)
    (pss_cons (ps_for PassesOwn.never rfl (RZ.pi_zipA (by rfl) T.B.zip (pa_cons (pe_ix ix_tup (pv 3) pe_int (fun _ _ => rfl)) (pa_cons (pe_slice sl_tupA (pv 1) (po_some pe_int) po_none) pa_nil))) (pg_tup rfl (pgs_cons (pg_name (i := 4) nd rfl (.inl rfl)) (pgs_cons (pg_name (i := 5) nd rfl (.inl rfl)) pgs_nil))) 
      (pss_cons (ps_set (i := 6) nd rfl (.inl rfl) (pe_call G_sort_within hr (by rfl) g_sort_within F_sort_within.kp b_sort_within .nil pass0 (pa_cons (pv 0) (pa_cons (pv 5) (pa_cons (pv 2) pa_nil)))))
      (pss_cons (ps_if (PW.pt (pw_or (pt_cmpR op_isN (pv 6) pe_non (nomark _)) (pw_or1 (pt_cmpR op_ne (pe_ix ix_tup (pv 6) pe_int (fun _ _ => rfl)) (pv 4) (nomark _))))) 
        (pss_one (ps_ret pe_non)) pss_nil)
      (pss_one (ps_set (i := 2) nd rfl (.inl rfl) (pe_ix ix_tup (pv 6) pe_int (fun _ _ => rfl)))))))
    (pss_one (ps_ret (pe_tup (pa_cons (pe_ix ix_tup (pv 3) pe_int (fun _ _ => rfl)) (pa_cons (pv 2) pa_nil)))))))))), ?_⟩
  obtain ⟨p, xs, rfl, hp, hk⟩ := hT.out
  obtain ⟨on, ins, hkind, hws⟩ := hw.out
  have e1 : t.size = sizes t.kids + 1 := t.size_eq
  refine ⟨_, rfl, _, .ty "tuple", _, _, true, rfl, .ty _, .base (.tup hp), kit_ty (by decide +kernel), true, rfl, ?_⟩
  refine iteF ⟨_, rfl, p, _, rfl, .inr (SqT.of hp), rfl, false, ?_, iteF ?_⟩
  · exact congrArg V.bl (decide_eq_false fun z => by have := V.int.inj z; rw [List.length_cons] at this; omega)
  refine ⟨_, rfl, p, _, _, _, rfl, rfl, SqT.of hp, at_of (j := 0) rfl rfl, _, .ty "str", _, _, true, rfl, .ty _, .base (.str _), kit_ty (by decide +kernel), true, rfl, ?_⟩
  refine iteF ⟨_, rfl, rfl, false, congrArg V.bl (decide_eq_false fun z => by have := V.int.inj z; omega), iteF ?_⟩
  refine ⟨_, rfl, _, rfl, p, _, _, _, rfl, rfl, SqT.of hp, at_of (j := 0) rfl rfl, t.nam, rfl, on, hG, fun z => ?_, fun r v H1 hr1 k1 hv => ?_⟩
  · rw [hkind] at z
    cases z
  rw [hkind] at hr1
  cases hr1
  obtain ⟨pk, qk, rfl, hpk, hqk⟩ := hv
  have hp1 := k1.tup0 hp
  refine ⟨_, rfl, rfl, false, rfl, iteF ?_⟩
  have elen : ins.length = xs.length := (Paired.len hws).symm.trans (Paired.len hk)
  refine ⟨_, rfl, pk, _, _, _, rfl, rfl, SqT.of hpk, at_of (j := 0) rfl rfl, qk, _, rfl, .inr hqk.sq, ?_⟩
  refine ⟨_, rfl, p, _, rfl, .inr (SqT.of hp1), _, _, rfl, rfl, rfl, false, congrArg V.bl (show (!decide (V.int (((ins.map V.str).length : Nat) : Int) = V.int ((((V.str t.nam :: xs).length : Nat) : Int) - 1))) = false from by rw [List.length_map, List.length_cons, elen, decide_eq_true (by congr 1; omega)]; rfl), iteF ?_⟩
  refine ⟨_, rfl, _, _, rfl, rfl, ?_⟩
  refine ⟨_, rfl, pk, _, _, _, rfl, rfl, SqT.of hpk, at_of (j := 0) rfl rfl, ?_⟩
  refine ⟨_, rfl, _, rfl, sl_tail (SqT.of hp1) fun q hq => ?_⟩
  have k2 : Kp H (upd H1 q (.tup xs)) [] := k1.then (Kp.new hq)
  have hq2 : upd H1 q (.tup xs) q = some (.tup xs) := upd_same
  have hpk2 := (Kp.new (o := .tup xs) hq).tup0 hpk
  have hqk2 := hqk.kp0 (Kp.new (o := .tup xs) hq)
  generalize upd H1 q (.tup xs) = H2 at k2 hq2 hpk2 hqk2 ⊢
  have hk2 := kids_kp k2 hk
  refine ⟨qk, q, _, _, rfl, .inr ⟨hqk2.sq, SqT.of hq2, RZ.for_zipT (K := K) (by rw [List.length_map]; exact elen) (fun i σ H' => ∃ u4 u5 u6, σ = [some (.ref S), some (.ref p), some (.int ((l - 1 - sizes (t.kids.take i) : Nat) : Int)), some (.ref pk), u4, u5, u6] ∧ Kp H2 H' [])
    ⟨none, none, none, by rw [List.take_zero, show sizes [] = 0 from rfl, Nat.sub_zero, show ((l - 1 : Nat) : Int) = (l : Int) - 1 by omega]; rfl, Kp.refl _⟩ (fun i σ H' ⟨_, _, _, _, k3⟩ => ⟨(hqk2.kp0 k3).sq, SqT.of (k3.tup0 hq2)⟩) (fun i x y T0 σ H' hx hy h0 hT0 => ?_) (fun σ H' h0 => ?_)⟩⟩
  · obtain ⟨u4, u5, u6, rfl, k3⟩ := h0
    have hi : i < t.kids.length := by rw [Paired.len hk]; exact (List.getElem?_eq_some_iff.mp hy).1
    obtain ⟨kd, hkd⟩ : ∃ kd, t.kids[i]? = some kd := ⟨_, List.getElem?_eq_getElem hi⟩
    obtain ⟨s1, hs1, wk⟩ := Paired.get hws i kd hkd
    obtain ⟨y', hy', tk⟩ := Paired.get hk2 i kd hkd
    rw [hy] at hy'
    cases hy'
    rw [List.getElem?_map, hs1] at hx
    cases hx
    have k4 := k3.then (Kp.new (o := .tup [.str s1, y]) hT0)
    have eT := sizes_take hkd
    have lT := sizes_le t.kids (i + 1)
    have dk := Tm.kid_dep (List.mem_of_getElem? hkd)
    refine ⟨T0, _, rfl, SqT.of upd_same, rfl, _, _, rfl, _, _, rfl, rfl, ?_⟩
    refine ⟨_, rfl, _, rfl, _, rfl, y, kd, s1, _, rfl, tk.kp0 k4, by omega, wk, by omega, (k2.then k4).tabG hG, fun H5 p5 k5 hp5 => ?_⟩
    refine ⟨_, rfl, rfl, false, rfl, iteF ?_⟩
    refine ⟨_, rfl, p5, _, _, _, rfl, rfl, SqT.of hp5, at_of (j := 0) rfl rfl, _, rfl, rfl, false, congrArg V.bl (show (!decide (V.str s1 = V.str s1)) = false from by rw [decide_eq_true rfl]; rfl), iteF ?_⟩
    refine ⟨_, rfl, p5, _, _, _, rfl, rfl, SqT.of hp5, at_of (j := 1) rfl rfl, some (.str s1), some y, some (.ref p5), ?_, k4.then k5⟩
    rw [eT, show l - 1 - (sizes (t.kids.take i) + kd.size) = l - 1 - sizes (t.kids.take i) - kd.size by omega]
    rfl
  · obtain ⟨u4, u5, u6, rfl, k3⟩ := h0
    refine ⟨_, rfl, pk, _, _, _, rfl, rfl, SqT.of (k3.tup0 hpk2), at_of (j := 1) rfl rfl, _, rfl, (by show 2 ≤ sizeLine; decide), fun p5 hp5 => ?_⟩
    refine k _ p5 (k2.then (k3.then (Kp.new hp5))) ?_
    have eL : (ins.map V.str).length = t.kids.length := by rw [List.length_map, elen, Paired.len hk]
    rw [upd_same, eL, List.take_length, show l - t.size = l - 1 - sizes t.kids by omega]
theorem ok_sw {f Pn S f1 : Addr} {fd fd1 : FuncData} (F_sort_within : Fun K "sort_within" "sort_within" s_sort_within f fd) (T : Txt0 mg) (b_sort_within : Binds K fd ["signature", "value", "left"] []) (g_sort_within : mg "sort_within" = some (.ref f))
    (G_kind_of : FnOk P w K mg base CX0 4 f1 fd1 ["signature", "name"] (spKind K Pn S)) (F_kind_of : Fun K "kind_of" "kind_of" s_kind_of f1 fd1) (b_kind_of : Binds K fd1 ["signature", "name"] []) (g_kind_of : mg "kind_of" = some (.ref f1)) :
    ∀ n, FnOk P w K mg base CX0 (4 + n) f fd ["signature", "value", "left"] (spSW Pn S n)
  | 0 => ok_never fun vs H Q E ⟨_, t, _, _, _, _, h, _⟩ => absurd (Tm.dep_pos t) (by omega)
  | n + 1 => ok_sw_step F_sort_within T b_sort_within g_sort_within G_kind_of F_kind_of b_kind_of g_kind_of (ok_sw F_sort_within T b_sort_within g_sort_within G_kind_of F_kind_of b_kind_of g_kind_of n)
theorem sc_is_term : FnScope ["signature", "value"] ["signature", "value"] (defScope s_is_term) := ⟨rfl, rfl, rfl, by decide +kernel, rfl, by decide +kernel, by decide +kernel⟩
theorem ok_isterm {f Pn S f1 : Addr} {fd fd1 : FuncData} (F : Fun K "is_term" "is_term" s_is_term f fd) (T : Txt0 mg) {k n : Nat} (G_sort_within : FnOk P w K mg base CX0 k f1 fd1 ["signature", "value", "left"] (spSW Pn S n)) (F_sort_within : Fun K "sort_within" "sort_within" s_sort_within f1 fd1)
    (b_sort_within : Binds K fd1 ["signature", "value", "left"] []) (g_sort_within : mg "sort_within" = some (.ref f1)) : FnOk P w K mg base CX0 (k + 1) f fd ["signature", "value"] (spIsT Pn S n) := by
  refine F.ok sc_is_term (fun vs H Q E h => ?_) (fun cdv A outer s H vs Q E hr h => ?_)
  · obtain ⟨v, t, s, rfl, _⟩ := h
    rfl
  obtain ⟨v, t, srt, rfl, hT, hd, hw, hz, hG, q⟩ := h
  refine ⟨_, (pss_one (ps_ret (pe_cmpR op_notN (pe_call G_sort_within hr (by rfl) g_sort_within F_sort_within.kp b_sort_within .nil pass0 (pa_cons (pv 0) (pa_cons (pv 1) (pa_cons (pe_gint (by rfl) T.B.g_MOST_SIZE) pa_nil)))) pe_non (nomark _)))), ?_⟩
  refine ⟨_, rfl, _, rfl, v, t, srt, 200, rfl, hT, hd, hw, hz, hG, fun H1 p1 k1 h1 => ?_⟩
  exact ⟨rfl, q _ k1⟩
end
end K08

set_option Elab.async false
set_option maxRecDepth 100000
set_option maxHeartbeats 4000000
set_option pp.maxSteps 1500
namespace K08
open PySem L2
/-! ### worlds -/
def WorldV (H : Hp) (v : V) (b : Bool) : Prop :=
  (v = .non ∧ b = false) ∨ (∃ i, v = .int i ∧ b = false) ∨ (∃ a xs, v = .ref a ∧ H a = some (.lst xs) ∧ b = false) ∨
    ∃ a xs, v = .ref a ∧ H a = some (.tup xs) ∧ (∀ x ∈ xs, Numb x) ∧ b = (decide (xs.length = 3) && xs.all fun x => inR x (-1000000) 1000000)
def spWorld (Pw : Addr) : Sp := fun vs H Q _ => ∃ (v : V) (b : Bool), vs = [v] ∧ WorldV H v b ∧ GxR.TabG H Pw ∧ ∀ H', Kp H H' [] → Q (.bl b) H'
theorem WorldV.kp {H H' : Hp} (k : Kp H H' []) {v : V} {b : Bool} (h : WorldV H v b) : WorldV H' v b := by
  rcases h with h | h | ⟨a, xs, e, ha, eb⟩ | ⟨a, xs, e, ha, r⟩
  · exact .inl h
  · exact .inr (.inl h)
  · exact .inr (.inr (.inl ⟨a, xs, e, k.lst0 ha, eb⟩))
  · exact .inr (.inr (.inr ⟨a, xs, e, k.tup0 ha, r⟩))
def ins3 : List V := [.str "x", .str "y", .str "z"]
structure Inp (K : PySem.W.Frag) (mg : Str → Option Value) (SI : Addr) : Prop where
  g : mg "INPUTS" = some (.ref SI)
  t : ∀ H, SqT K H SI ins3
  l : ∃ o, K.lookup SI = some o ∧ o.cls = .type "tuple" ∧ o.dict = none
/-- what an operation makes of values -/
inductive Ar : Str → List V → V → Prop
  | add (a b : Int) (h : IntMulOk a b) : Ar "add" [.int a, .int b] (.int (a + b))
  | sub (a b : Int) (h : IntMulOk a b) : Ar "sub" [.int a, .int b] (.int (a - b))
  | mul (a b : Int) (h : IntMulOk a b) : Ar "mul" [.int a, .int b] (.int (a * b))
  | min (a b : Int) (h : IntMulOk a b) : Ar "min" [.int a, .int b] (.int (if b < a then b else a))
  | max (a b : Int) (h : IntMulOk a b) : Ar "max" [.int a, .int b] (.int (if b > a then b else a))
  | less (a b : Int) : Ar "less" [.int a, .int b] (.bl (decide (a < b)))
  | alike (a b : Int) : Ar "alike" [.int a, .int b] (.bl (decide (a = b)))
  | both (a b : Bool) : Ar "both" [.bl a, .bl b] (.bl (a && b))
  | any (a b : Bool) : Ar "any" [.bl a, .bl b] (.bl (a || b))
  | neg (a : Int) : Ar "neg" [.int a] (.int (-a))
  | not (a : Bool) : Ar "not" [.bl a] (.bl (!a))
  | pick (a : Bool) (b c : Int) : Ar "pick" [.bl a, .int b, .int c] (.int (if a = true then b else c))
  | yes : Ar "yes" [] (.bl true)
  | no : Ar "no" [] (.bl false)
def spWorked : Sp := fun vs H Q _ => ∃ (n : Str) (l : Addr) (xs : List V) (r : V), vs = [.str n, .ref l] ∧ H l = some (.lst xs) ∧ Ar n xs r ∧ ∀ H', Kp H H' [] → Q r H'
/-- what a name makes in a world -/
inductive Mkr (ws : List V) : Str → List V → V → Prop
  | x (v : V) (h : ws[0]? = some v) : Mkr ws "x" [] v
  | y (v : V) (h : ws[1]? = some v) : Mkr ws "y" [] v
  | z (v : V) (h : ws[2]? = some v) : Mkr ws "z" [] v
  | nu (n : Str) (i : Int) (h : okN n = true) (e : numOf n = some i) (d : inV (.str n) [.str "x", .str "y", .str "z"] = false) (d2 : inV (.str n) [.str "yes", .str "no"] = false) (hi : (PySem.intText? n) = some i) (hl : n.length ≤ 4) : Mkr ws n [] (.int i)
  | ar (n : Str) (xs : List V) (r : V) (h : Ar n xs r) : Mkr ws n xs r
theorem Ar.facts {n : Str} {xs : List V} {r : V} (h : Ar n xs r) : okN n = true ∧ numOf n = none ∧ inV (.str n) ins3 = false := by
  cases h <;> exact ⟨by decide +kernel, by decide +kernel, by decide +kernel⟩
/-- the value of a term in a world -/
def Vl (ws : List V) : Tm → V → Prop
  | .lf n, r => Mkr ws n [] r
  | .un n a, r => ∃ x, Vl ws a x ∧ Mkr ws n [x] r
  | .bi n a b, r => ∃ x y, Vl ws a x ∧ Vl ws b y ∧ Mkr ws n [x, y] r
  | .tr n a b c, r => ∃ x y z, Vl ws a x ∧ Vl ws b y ∧ Vl ws c z ∧ Mkr ws n [x, y, z] r
theorem Vl.out {ws : List V} {t : Tm} {r : V} (h : Vl ws t r) : ∃ rs, Paired (Vl ws) t.kids rs ∧ Mkr ws t.nam rs r := by
  cases t with
  | lf n => exact ⟨[], .nil, h⟩
  | un n a => obtain ⟨x, ha, m⟩ := h; exact ⟨[x], .cons ha .nil, m⟩
  | bi n a b => obtain ⟨x, y, ha, hb, m⟩ := h; exact ⟨[x, y], .cons ha (.cons hb .nil), m⟩
  | tr n a b c => obtain ⟨x, y, z, ha, hb, hc, m⟩ := h; exact ⟨[x, y, z], .cons ha (.cons hb (.cons hc .nil)), m⟩
theorem nb_of {ys : List V} {y : V} {j : Nat} (h : ((List.range j).all fun m => !(eqV (ys.getD m .non) y)) = true) : ∀ (m : Nat) (z' : V), m < j → ys[m]? = some z' → eqV z' y = false := fun m z' hm e => by
  have := List.all_eq_true.mp h m (List.mem_range.mpr hm)
  rw [List.getD_eq_getElem?_getD, e] at this
  simpa using this
theorem nn_of {ys : List Str} {y : Str} {j : Nat} (h : ((List.range j).all fun m => !(decide (ys[m]? = some y))) = true) : ∀ (m : Nat), m < j → ys[m]? ≠ some y := fun m hm e => by
  have := List.all_eq_true.mp h m (List.mem_range.mpr hm)
  rw [decide_eq_true e] at this
  cases this
theorem min_two {a b m : Int} (h1 : m ∈ [a, b]) (h2 : ∀ y, y ∈ [a, b] → m ≤ y) : m = (if b < a then b else a) := by
  have ha := h2 a (by simp)
  have hb := h2 b (by simp)
  simp only [List.mem_cons, List.not_mem_nil, or_false] at h1
  split <;> omega
theorem max_two {a b m : Int} (h1 : m ∈ [a, b]) (h2 : ∀ y, y ∈ [a, b] → y ≤ m) : m = (if b > a then b else a) := by
  have ha := h2 a (by simp)
  have hb := h2 b (by simp)
  simp only [List.mem_cons, List.not_mem_nil, or_false] at h1
  split <;> omega
theorem dec_ints {a b : Int} : decide (V.int a = V.int b) = decide (a = b) := by
  by_cases h : a = b
  · rw [decide_eq_true h, decide_eq_true (by rw [h])]
  · rw [decide_eq_false h, decide_eq_false fun z => h (V.int.inj z)]
section
variable {P : Program} {w : World} {K : PySem.W.Frag} {mg : Str → Option Value} {base : Heap}
theorem sc_is_world : FnScope ["value", "one"] ["value"] (defScope s_is_world) := ⟨rfl, rfl, rfl, by decide +kernel, rfl, by decide +kernel, by decide +kernel⟩
theorem ok_world {f c Pw SI f1 : Addr} {fd fd1 : FuncData} (F : FunC K "is_world" "is_world" s_is_world f fd c) (tb_is_world : GxR.TabB base mg c Pw) (T : Txt0 mg) (TI : Inp K mg SI) (G_is_number : FnOk P w K mg base CX0 1 f1 fd1 ["value", "least", "most"] spNum) (F_is_number : Fun K "is_number" "is_number" s_is_number f1 fd1) (b_is_number : Binds K fd1 ["value", "least", "most"] []) (g_is_number : mg "is_number" = some (.ref f1)) :
    FnOk P w K mg base CX0 3 f fd ["value"] (spWorld Pw) := by
  refine F.ok sc_is_world (fun vs H Q E h => ?_) (fun A outer s H vs Q E hr2 h => ?_)
  · obtain ⟨v, b, rfl, _⟩ := h
    rfl
  obtain ⟨v, b, rfl, hw, hT, k⟩ := h
  have nd := sc_is_world.nd
  have hr1 := hr2
  have g_INPUTS := TI.g
  refine ⟨_, (pss_cons (ps_if (PW.pt (pw_or (pt_not (pt_val (pe_callB call_isi (by rfl) T.B.isinstance (by decide +kernel) (pa_cons (pv 0) (pa_cons (pe_bltn (v := .ty "tuple") (by rfl) T.B.tuple (by decide +kernel) rfl) pa_nil))))) (pw_or1 (pt_cmpR op_ne (pe_callB call_len_seq (by rfl) T.B.len (by decide +kernel) (pa_cons (pv 0) pa_nil)) (pe_callB call_len_seq (by rfl) T.B.len (by decide +kernel) (pa_cons (pe_gref (by rfl) g_INPUTS) pa_nil)) (nomark _))))) 
      (pss_one (ps_ret pe_bl)) pss_nil)
    (pss_one (ps_ret (GG.pe_allG (own := [("one", 1)]) (g := gName 1) (tt := tYes) rfl nd hr1 (by rfl) T.B.all (by rfl) tb_is_world rfl (blkOk_by (N := ["value", "one"]) (sc := defScope s_is_world) (by decide +kernel)) (by decide +kernel) rfl rfl (pi_tup (pv 0)) (fun _ _ _ _ _ _ _ => (pg_name (i := 1) nd rfl (.inl rfl))) (fun _ _ _ _ _ _ _ => pts_nil) (fun _ _ _ _ _ _ _ => (pe_call G_is_number (GG.room_gA hr2 _) (by rfl) g_is_number F_is_number.kp b_is_number .nil pass0 (pa_cons (pv 1) (pa_cons (pe_un un_neg (pe_gint (by rfl) T.B.g_MOST_INPUT)) (pa_cons (pe_gint (by rfl) T.B.g_MOST_INPUT) pa_nil))))) (by intro _; rfl))))), ?_⟩
  rcases hw with ⟨rfl, rfl⟩ | ⟨i, rfl, rfl⟩ | ⟨a, xs, rfl, ha, rfl⟩ | ⟨a, xs, rfl, ha, hn, hb⟩
  · exact ⟨_, rfl, _, .ty "tuple", _, _, false, rfl, .ty _, .base .non, kit_ty (by decide +kernel), false, rfl, iteT (iteT (k H (Kp.refl H)))⟩
  · exact ⟨_, rfl, _, .ty "tuple", _, _, false, rfl, .ty _, .base (.int _), kit_ty (by decide +kernel), false, rfl, iteT (iteT (k H (Kp.refl H)))⟩
  · exact ⟨_, rfl, _, .ty "tuple", _, _, false, rfl, .ty _, .base (.lst ha), kit_ty (by decide +kernel), false, rfl, iteT (iteT (k H (Kp.refl H)))⟩
  refine ⟨_, rfl, _, .ty "tuple", _, _, true, rfl, .ty _, .base (.tup ha), kit_ty (by decide +kernel), true, rfl, iteF ⟨_, rfl, a, _, rfl, .inr (SqT.of ha), SI, _, rfl, .inr (TI.t _), rfl, _, rfl, ?_⟩⟩
  rw [show ((ins3.length : Nat) : Int) = 3 from rfl]
  by_cases h3 : xs.length = 3
  · rw [decide_eq_true (show V.int (xs.length : Int) = V.int 3 by rw [h3]; rfl)]
    refine iteF ⟨_, rfl, a, rfl, ⟨_, SqT.of ha⟩, hT, fun H1 tb => ?_⟩
    have k1 : Kp H H1 [] := Kp.tabbed hT tb
    have ha1 := k1.tup0 ha
    refine GG.gt_tup (K := K) (a := a) (xs := xs) (fun i H' => H' = H1 ∧ ∀ j x, j < i → xs[j]? = some x → inR x (-1000000) 1000000 = true) ⟨rfl, fun _ _ h => absurd h (Nat.not_lt_zero _)⟩ (fun i H' _ h => by rw [h.1]; exact SqT.of ha1) (fun i x H' hx ⟨e, all⟩ => ?_) (fun H' ⟨e, all⟩ => ?_)
    · subst e
      refine ⟨rfl, _, rfl, _, rfl, x, -1000000, 1000000, rfl, hn x (List.mem_of_getElem? hx), ?_⟩
      cases hi : inR x (-1000000) 1000000 with
      | true =>
        refine .inl ⟨rfl, rfl, fun j y hj e => ?_⟩
        by_cases ej : j = i
        · rw [ej, hx] at e
          cases e
          exact hi
        · exact all j y (by omega) e
      | false =>
        refine .inr ⟨rfl, ?_⟩
        have e2 : b = false := by
          rw [hb, h3, Bool.eq_false_iff]
          intro z
          rw [Bool.and_eq_true, List.all_eq_true] at z
          have := z.2 x (List.mem_of_getElem? hx)
          rw [hi] at this
          cases this
        rw [e2] at k
        exact k _ k1
    · subst e
      have e2 : b = true := by
        rw [hb, h3, Bool.and_eq_true, List.all_eq_true]
        refine ⟨by decide, fun x hx => ?_⟩
        obtain ⟨j, hj, e⟩ := List.mem_iff_getElem.mp hx
        exact all j x hj (by rw [List.getElem?_eq_getElem hj, e])
      rw [e2] at k
      exact k _ k1
  · rw [decide_eq_false (show ¬ V.int (xs.length : Int) = V.int 3 from fun z => h3 (by have := V.int.inj z; omega))]
    rw [decide_eq_false h3, Bool.false_and] at hb
    subst hb
    exact iteT (k H (Kp.refl H))
theorem sc_worked : FnScope ["name", "values", "one", "other"] ["name", "values"] (defScope s_worked) := ⟨rfl, rfl, rfl, by decide +kernel, rfl, by decide +kernel, by decide +kernel⟩
theorem ok_worked {f : Addr} {fd : FuncData} (F : Fun K "worked" "worked" s_worked f fd) (T : Txt0 mg) : FnOk P w K mg base CX0 1 f fd ["name", "values"] spWorked := by
  refine F.ok sc_worked (fun vs H Q E h => ?_) (fun cdv A outer s H vs Q E hr h => ?_)
  · obtain ⟨n, l, xs, r, rfl, _⟩ := h
    rfl
  obtain ⟨n, l, xs, r, rfl, l0, ar, q⟩ := h
  have nd := sc_worked.nd
  have k0 : Kp H H [] := Kp.refl H
  refine ⟨_, (pss_cons (ps_if (pt_cmpR op_in_seq (pv 0) (pe_tup (pa_cons pe_str (pa_cons pe_str (pa_cons pe_str pa_nil)))) rfl) 
      (pss_cons (ps_asg (pv 1) (pg_lst rfl (pgs_cons (pg_name (i := 2) nd rfl (.inl rfl)) (pgs_cons (pg_name (i := 3) nd rfl (.inl rfl)) pgs_nil))))
      (pss_one (ps_ret (pe_ifExp (pt_cmpR op_eq (pv 0) pe_str (nomark _)) (pe_op op_add (pv 2) (pv 3)) (pe_ifExp (pt_cmpR op_eq (pv 0) pe_str (nomark _)) (pe_op op_sub (pv 2) (pv 3)) (pe_op op_mulB (pv 2) (pv 3))))))) pss_nil)
    (pss_cons (ps_if (pt_cmpR op_in_seq (pv 0) (pe_tup (pa_cons pe_str (pa_cons pe_str pa_nil))) rfl) 
      (pss_one (ps_ret (pe_ifExp (pt_cmpR op_eq (pv 0) pe_str (nomark _)) (pe_callB (cr_min rfl) (by rfl) T.B.min (by decide +kernel) (pa_cons (pv 1) pa_nil)) (pe_callB (cr_max rfl) (by rfl) T.B.max (by decide +kernel) (pa_cons (pv 1) pa_nil))))) pss_nil)
    (pss_cons (ps_if (pt_cmpR op_eq (pv 0) pe_str (nomark _)) 
      (pss_one (ps_ret (pe_op op_sub pe_int (pe_ix ix_list (pv 1) pe_int (fun _ _ => rfl))))) pss_nil)
    (pss_cons (ps_if (pt_cmpR op_in_seq (pv 0) (pe_tup (pa_cons pe_str (pa_cons pe_str pa_nil))) rfl) 
      (pss_one (ps_ret (pe_ifExp (pt_cmpR op_eq (pv 0) pe_str (nomark _)) (pe_cmpR op_lt (pe_ix ix_list (pv 1) pe_int (fun _ _ => rfl)) (pe_ix ix_list (pv 1) pe_int (fun _ _ => rfl)) (nomark _)) (pe_cmpR op_eq (pe_ix ix_list (pv 1) pe_int (fun _ _ => rfl)) (pe_ix ix_list (pv 1) pe_int (fun _ _ => rfl)) (nomark _))))) pss_nil)
    (pss_cons (ps_if (pt_cmpR op_in_seq (pv 0) (pe_tup (pa_cons pe_str (pa_cons pe_str pa_nil))) rfl) 
      (pss_one (ps_ret (pe_ifExp (pt_cmpR op_eq (pv 0) pe_str (nomark _)) (pe_and (pe_ix ix_list (pv 1) pe_int (fun _ _ => rfl)) (pe_one (pe_ix ix_list (pv 1) pe_int (fun _ _ => rfl)))) (pe_or (pe_ix ix_list (pv 1) pe_int (fun _ _ => rfl)) (pe_one (pe_ix ix_list (pv 1) pe_int (fun _ _ => rfl))))))) pss_nil)
    (pss_cons (ps_if (pt_cmpR op_eq (pv 0) pe_str (nomark _)) 
      (pss_one (ps_ret (pe_not (pe_ix ix_list (pv 1) pe_int (fun _ _ => rfl))))) pss_nil)
    (pss_cons (ps_if (pt_cmpR op_eq (pv 0) pe_str (nomark _)) 
      (pss_one (ps_ret (pe_ifExp (pt_truth (pe_ix ix_list (pv 1) pe_int (fun _ _ => rfl)) (by intro _; rfl)) (pe_ix ix_list (pv 1) pe_int (fun _ _ => rfl)) (pe_ix ix_list (pv 1) pe_int (fun _ _ => rfl))))) pss_nil)
    (pss_one (ps_ret (pe_cmpR op_eq (pv 0) pe_str (nomark _))))))))))), ?_⟩
  cases ar with
  | add a b hm =>
    refine ⟨_, rfl, (by show 3 ≤ sizeLine; decide), fun p0 hp0 => ?_⟩
    have k1 := k0.then (Kp.new (o := .tup [.str "add", .str "sub", .str "mul"]) hp0)
    have l1 := (Kp.new (o := .tup [.str "add", .str "sub", .str "mul"]) hp0).lst0 l0
    refine ⟨p0, _, rfl, .inr (SqT.of upd_same), rfl, rfl, true, congrArg V.bl (by decide +kernel), iteT ?_⟩
    refine ⟨_, rfl, l, _, rfl, SqL.of l1, rfl, _, _, rfl, _, _, rfl, rfl, ?_⟩
    refine ⟨_, rfl, rfl, true, congrArg V.bl (by decide +kernel), iteT ?_⟩
    exact ⟨_, rfl, _, rfl, _, _, rfl, rfl, q _ k1⟩
  | sub a b hm =>
    refine ⟨_, rfl, (by show 3 ≤ sizeLine; decide), fun p0 hp0 => ?_⟩
    have k1 := k0.then (Kp.new (o := .tup [.str "add", .str "sub", .str "mul"]) hp0)
    have l1 := (Kp.new (o := .tup [.str "add", .str "sub", .str "mul"]) hp0).lst0 l0
    refine ⟨p0, _, rfl, .inr (SqT.of upd_same), rfl, rfl, true, congrArg V.bl (by decide +kernel), iteT ?_⟩
    refine ⟨_, rfl, l, _, rfl, SqL.of l1, rfl, _, _, rfl, _, _, rfl, rfl, ?_⟩
    refine ⟨_, rfl, rfl, false, congrArg V.bl (by decide +kernel), iteF ?_⟩
    refine ⟨_, rfl, rfl, true, congrArg V.bl (by decide +kernel), iteT ?_⟩
    exact ⟨_, rfl, _, rfl, _, _, rfl, rfl, q _ k1⟩
  | mul a b hm =>
    refine ⟨_, rfl, (by show 3 ≤ sizeLine; decide), fun p0 hp0 => ?_⟩
    have k1 := k0.then (Kp.new (o := .tup [.str "add", .str "sub", .str "mul"]) hp0)
    have l1 := (Kp.new (o := .tup [.str "add", .str "sub", .str "mul"]) hp0).lst0 l0
    refine ⟨p0, _, rfl, .inr (SqT.of upd_same), rfl, rfl, true, congrArg V.bl (by decide +kernel), iteT ?_⟩
    refine ⟨_, rfl, l, _, rfl, SqL.of l1, rfl, _, _, rfl, _, _, rfl, rfl, ?_⟩
    refine ⟨_, rfl, rfl, false, congrArg V.bl (by decide +kernel), iteF ?_⟩
    refine ⟨_, rfl, rfl, false, congrArg V.bl (by decide +kernel), iteF ?_⟩
    exact ⟨_, rfl, _, rfl, _, _, rfl, rfl, hm, q _ k1⟩
  | min a b =>
    refine ⟨_, rfl, (by show 3 ≤ sizeLine; decide), fun p0 hp0 => ?_⟩
    have k1 := k0.then (Kp.new (o := .tup [.str "add", .str "sub", .str "mul"]) hp0)
    have l1 := (Kp.new (o := .tup [.str "add", .str "sub", .str "mul"]) hp0).lst0 l0
    refine ⟨p0, _, rfl, .inr (SqT.of upd_same), rfl, rfl, false, congrArg V.bl (by decide +kernel), iteF ?_⟩
    refine ⟨_, rfl, (by show 2 ≤ sizeLine; decide), fun p1 hp1 => ?_⟩
    have k2 := k1.then (Kp.new (o := .tup [.str "min", .str "max"]) hp1)
    have l2 := (Kp.new (o := .tup [.str "min", .str "max"]) hp1).lst0 l1
    refine ⟨p1, _, rfl, .inr (SqT.of upd_same), rfl, rfl, true, congrArg V.bl (by decide +kernel), iteT ?_⟩
    refine ⟨_, rfl, rfl, true, congrArg V.bl (by decide +kernel), iteT ?_⟩
    refine ⟨_, rfl, l, [a, b], rfl, SqL.of l2, (by show 0 < 2; decide), fun m hm1 hm2 => ?_⟩
    have em : m = (if b < a then b else a) := min_two hm1 hm2
    rw [em]
    exact q _ k2
  | max a b =>
    refine ⟨_, rfl, (by show 3 ≤ sizeLine; decide), fun p0 hp0 => ?_⟩
    have k1 := k0.then (Kp.new (o := .tup [.str "add", .str "sub", .str "mul"]) hp0)
    have l1 := (Kp.new (o := .tup [.str "add", .str "sub", .str "mul"]) hp0).lst0 l0
    refine ⟨p0, _, rfl, .inr (SqT.of upd_same), rfl, rfl, false, congrArg V.bl (by decide +kernel), iteF ?_⟩
    refine ⟨_, rfl, (by show 2 ≤ sizeLine; decide), fun p1 hp1 => ?_⟩
    have k2 := k1.then (Kp.new (o := .tup [.str "min", .str "max"]) hp1)
    have l2 := (Kp.new (o := .tup [.str "min", .str "max"]) hp1).lst0 l1
    refine ⟨p1, _, rfl, .inr (SqT.of upd_same), rfl, rfl, true, congrArg V.bl (by decide +kernel), iteT ?_⟩
    refine ⟨_, rfl, rfl, false, congrArg V.bl (by decide +kernel), iteF ?_⟩
    refine ⟨_, rfl, l, [a, b], rfl, SqL.of l2, (by show 0 < 2; decide), fun m hm1 hm2 => ?_⟩
    have em : m = (if b > a then b else a) := max_two hm1 hm2
    rw [em]
    exact q _ k2
  | less a b =>
    refine ⟨_, rfl, (by show 3 ≤ sizeLine; decide), fun p0 hp0 => ?_⟩
    have k1 := k0.then (Kp.new (o := .tup [.str "add", .str "sub", .str "mul"]) hp0)
    have l1 := (Kp.new (o := .tup [.str "add", .str "sub", .str "mul"]) hp0).lst0 l0
    refine ⟨p0, _, rfl, .inr (SqT.of upd_same), rfl, rfl, false, congrArg V.bl (by decide +kernel), iteF ?_⟩
    refine ⟨_, rfl, (by show 2 ≤ sizeLine; decide), fun p1 hp1 => ?_⟩
    have k2 := k1.then (Kp.new (o := .tup [.str "min", .str "max"]) hp1)
    have l2 := (Kp.new (o := .tup [.str "min", .str "max"]) hp1).lst0 l1
    refine ⟨p1, _, rfl, .inr (SqT.of upd_same), rfl, rfl, false, congrArg V.bl (by decide +kernel), iteF ?_⟩
    refine ⟨_, rfl, rfl, false, congrArg V.bl (by decide +kernel), iteF ?_⟩
    refine ⟨_, rfl, (by show 2 ≤ sizeLine; decide), fun p2 hp2 => ?_⟩
    have k3 := k2.then (Kp.new (o := .tup [.str "less", .str "alike"]) hp2)
    have l3 := (Kp.new (o := .tup [.str "less", .str "alike"]) hp2).lst0 l2
    refine ⟨p2, _, rfl, .inr (SqT.of upd_same), rfl, rfl, true, congrArg V.bl (by decide +kernel), iteT ?_⟩
    refine ⟨_, rfl, rfl, true, congrArg V.bl (by decide +kernel), iteT ?_⟩
    exact ⟨_, rfl, l, _, _, _, rfl, rfl, SqL.of l3, at_of (j := 0) rfl rfl, _, rfl, l, _, _, _, rfl, rfl, SqL.of l3, at_of (j := 1) rfl rfl, _, _, rfl, rfl, q _ k3⟩
  | alike a b =>
    refine ⟨_, rfl, (by show 3 ≤ sizeLine; decide), fun p0 hp0 => ?_⟩
    have k1 := k0.then (Kp.new (o := .tup [.str "add", .str "sub", .str "mul"]) hp0)
    have l1 := (Kp.new (o := .tup [.str "add", .str "sub", .str "mul"]) hp0).lst0 l0
    refine ⟨p0, _, rfl, .inr (SqT.of upd_same), rfl, rfl, false, congrArg V.bl (by decide +kernel), iteF ?_⟩
    refine ⟨_, rfl, (by show 2 ≤ sizeLine; decide), fun p1 hp1 => ?_⟩
    have k2 := k1.then (Kp.new (o := .tup [.str "min", .str "max"]) hp1)
    have l2 := (Kp.new (o := .tup [.str "min", .str "max"]) hp1).lst0 l1
    refine ⟨p1, _, rfl, .inr (SqT.of upd_same), rfl, rfl, false, congrArg V.bl (by decide +kernel), iteF ?_⟩
    refine ⟨_, rfl, rfl, false, congrArg V.bl (by decide +kernel), iteF ?_⟩
    refine ⟨_, rfl, (by show 2 ≤ sizeLine; decide), fun p2 hp2 => ?_⟩
    have k3 := k2.then (Kp.new (o := .tup [.str "less", .str "alike"]) hp2)
    have l3 := (Kp.new (o := .tup [.str "less", .str "alike"]) hp2).lst0 l2
    refine ⟨p2, _, rfl, .inr (SqT.of upd_same), rfl, rfl, true, congrArg V.bl (by decide +kernel), iteT ?_⟩
    refine ⟨_, rfl, rfl, false, congrArg V.bl (by decide +kernel), iteF ?_⟩
    refine ⟨_, rfl, l, _, _, _, rfl, rfl, SqL.of l3, at_of (j := 0) rfl rfl, _, rfl, l, _, _, _, rfl, rfl, SqL.of l3, at_of (j := 1) rfl rfl, rfl, ?_⟩
    rw [dec_ints]
    exact q _ k3
  | both a b =>
    refine ⟨_, rfl, (by show 3 ≤ sizeLine; decide), fun p0 hp0 => ?_⟩
    have k1 := k0.then (Kp.new (o := .tup [.str "add", .str "sub", .str "mul"]) hp0)
    have l1 := (Kp.new (o := .tup [.str "add", .str "sub", .str "mul"]) hp0).lst0 l0
    refine ⟨p0, _, rfl, .inr (SqT.of upd_same), rfl, rfl, false, congrArg V.bl (by decide +kernel), iteF ?_⟩
    refine ⟨_, rfl, (by show 2 ≤ sizeLine; decide), fun p1 hp1 => ?_⟩
    have k2 := k1.then (Kp.new (o := .tup [.str "min", .str "max"]) hp1)
    have l2 := (Kp.new (o := .tup [.str "min", .str "max"]) hp1).lst0 l1
    refine ⟨p1, _, rfl, .inr (SqT.of upd_same), rfl, rfl, false, congrArg V.bl (by decide +kernel), iteF ?_⟩
    refine ⟨_, rfl, rfl, false, congrArg V.bl (by decide +kernel), iteF ?_⟩
    refine ⟨_, rfl, (by show 2 ≤ sizeLine; decide), fun p2 hp2 => ?_⟩
    have k3 := k2.then (Kp.new (o := .tup [.str "less", .str "alike"]) hp2)
    have l3 := (Kp.new (o := .tup [.str "less", .str "alike"]) hp2).lst0 l2
    refine ⟨p2, _, rfl, .inr (SqT.of upd_same), rfl, rfl, false, congrArg V.bl (by decide +kernel), iteF ?_⟩
    refine ⟨_, rfl, (by show 2 ≤ sizeLine; decide), fun p3 hp3 => ?_⟩
    have k4 := k3.then (Kp.new (o := .tup [.str "both", .str "any"]) hp3)
    have l4 := (Kp.new (o := .tup [.str "both", .str "any"]) hp3).lst0 l3
    refine ⟨p3, _, rfl, .inr (SqT.of upd_same), rfl, rfl, true, congrArg V.bl (by decide +kernel), iteT ?_⟩
    refine ⟨_, rfl, rfl, true, congrArg V.bl (by decide +kernel), iteT ?_⟩
    refine ⟨_, rfl, l, _, _, _, rfl, rfl, SqL.of l4, at_of (j := 0) rfl rfl, a, rfl, ?_⟩
    cases a with
    | false => exact q _ k4
    | true => exact ⟨_, rfl, l, _, _, _, rfl, rfl, SqL.of l4, at_of (j := 1) rfl rfl, q _ k4⟩
  | any a b =>
    refine ⟨_, rfl, (by show 3 ≤ sizeLine; decide), fun p0 hp0 => ?_⟩
    have k1 := k0.then (Kp.new (o := .tup [.str "add", .str "sub", .str "mul"]) hp0)
    have l1 := (Kp.new (o := .tup [.str "add", .str "sub", .str "mul"]) hp0).lst0 l0
    refine ⟨p0, _, rfl, .inr (SqT.of upd_same), rfl, rfl, false, congrArg V.bl (by decide +kernel), iteF ?_⟩
    refine ⟨_, rfl, (by show 2 ≤ sizeLine; decide), fun p1 hp1 => ?_⟩
    have k2 := k1.then (Kp.new (o := .tup [.str "min", .str "max"]) hp1)
    have l2 := (Kp.new (o := .tup [.str "min", .str "max"]) hp1).lst0 l1
    refine ⟨p1, _, rfl, .inr (SqT.of upd_same), rfl, rfl, false, congrArg V.bl (by decide +kernel), iteF ?_⟩
    refine ⟨_, rfl, rfl, false, congrArg V.bl (by decide +kernel), iteF ?_⟩
    refine ⟨_, rfl, (by show 2 ≤ sizeLine; decide), fun p2 hp2 => ?_⟩
    have k3 := k2.then (Kp.new (o := .tup [.str "less", .str "alike"]) hp2)
    have l3 := (Kp.new (o := .tup [.str "less", .str "alike"]) hp2).lst0 l2
    refine ⟨p2, _, rfl, .inr (SqT.of upd_same), rfl, rfl, false, congrArg V.bl (by decide +kernel), iteF ?_⟩
    refine ⟨_, rfl, (by show 2 ≤ sizeLine; decide), fun p3 hp3 => ?_⟩
    have k4 := k3.then (Kp.new (o := .tup [.str "both", .str "any"]) hp3)
    have l4 := (Kp.new (o := .tup [.str "both", .str "any"]) hp3).lst0 l3
    refine ⟨p3, _, rfl, .inr (SqT.of upd_same), rfl, rfl, true, congrArg V.bl (by decide +kernel), iteT ?_⟩
    refine ⟨_, rfl, rfl, false, congrArg V.bl (by decide +kernel), iteF ?_⟩
    refine ⟨_, rfl, l, _, _, _, rfl, rfl, SqL.of l4, at_of (j := 0) rfl rfl, a, rfl, ?_⟩
    cases a with
    | true => exact q _ k4
    | false => exact ⟨_, rfl, l, _, _, _, rfl, rfl, SqL.of l4, at_of (j := 1) rfl rfl, q _ k4⟩
  | neg a =>
    refine ⟨_, rfl, (by show 3 ≤ sizeLine; decide), fun p0 hp0 => ?_⟩
    have k1 := k0.then (Kp.new (o := .tup [.str "add", .str "sub", .str "mul"]) hp0)
    have l1 := (Kp.new (o := .tup [.str "add", .str "sub", .str "mul"]) hp0).lst0 l0
    refine ⟨p0, _, rfl, .inr (SqT.of upd_same), rfl, rfl, false, congrArg V.bl (by decide +kernel), iteF ?_⟩
    refine ⟨_, rfl, (by show 2 ≤ sizeLine; decide), fun p1 hp1 => ?_⟩
    have k2 := k1.then (Kp.new (o := .tup [.str "min", .str "max"]) hp1)
    have l2 := (Kp.new (o := .tup [.str "min", .str "max"]) hp1).lst0 l1
    refine ⟨p1, _, rfl, .inr (SqT.of upd_same), rfl, rfl, false, congrArg V.bl (by decide +kernel), iteF ?_⟩
    refine ⟨_, rfl, rfl, true, congrArg V.bl (by decide +kernel), iteT ?_⟩
    exact ⟨_, rfl, l, _, _, _, rfl, rfl, SqL.of l2, at_of (j := 0) rfl rfl, _, _, rfl, rfl, by show Q (.int (0 - a)) _; rw [Int.zero_sub]; exact q _ k2⟩
  | not a =>
    refine ⟨_, rfl, (by show 3 ≤ sizeLine; decide), fun p0 hp0 => ?_⟩
    have k1 := k0.then (Kp.new (o := .tup [.str "add", .str "sub", .str "mul"]) hp0)
    have l1 := (Kp.new (o := .tup [.str "add", .str "sub", .str "mul"]) hp0).lst0 l0
    refine ⟨p0, _, rfl, .inr (SqT.of upd_same), rfl, rfl, false, congrArg V.bl (by decide +kernel), iteF ?_⟩
    refine ⟨_, rfl, (by show 2 ≤ sizeLine; decide), fun p1 hp1 => ?_⟩
    have k2 := k1.then (Kp.new (o := .tup [.str "min", .str "max"]) hp1)
    have l2 := (Kp.new (o := .tup [.str "min", .str "max"]) hp1).lst0 l1
    refine ⟨p1, _, rfl, .inr (SqT.of upd_same), rfl, rfl, false, congrArg V.bl (by decide +kernel), iteF ?_⟩
    refine ⟨_, rfl, rfl, false, congrArg V.bl (by decide +kernel), iteF ?_⟩
    refine ⟨_, rfl, (by show 2 ≤ sizeLine; decide), fun p2 hp2 => ?_⟩
    have k3 := k2.then (Kp.new (o := .tup [.str "less", .str "alike"]) hp2)
    have l3 := (Kp.new (o := .tup [.str "less", .str "alike"]) hp2).lst0 l2
    refine ⟨p2, _, rfl, .inr (SqT.of upd_same), rfl, rfl, false, congrArg V.bl (by decide +kernel), iteF ?_⟩
    refine ⟨_, rfl, (by show 2 ≤ sizeLine; decide), fun p3 hp3 => ?_⟩
    have k4 := k3.then (Kp.new (o := .tup [.str "both", .str "any"]) hp3)
    have l4 := (Kp.new (o := .tup [.str "both", .str "any"]) hp3).lst0 l3
    refine ⟨p3, _, rfl, .inr (SqT.of upd_same), rfl, rfl, false, congrArg V.bl (by decide +kernel), iteF ?_⟩
    refine ⟨_, rfl, rfl, true, congrArg V.bl (by decide +kernel), iteT ?_⟩
    exact ⟨_, rfl, l, _, _, _, rfl, rfl, SqL.of l4, at_of (j := 0) rfl rfl, _, rfl, q _ k4⟩
  | pick a b c =>
    refine ⟨_, rfl, (by show 3 ≤ sizeLine; decide), fun p0 hp0 => ?_⟩
    have k1 := k0.then (Kp.new (o := .tup [.str "add", .str "sub", .str "mul"]) hp0)
    have l1 := (Kp.new (o := .tup [.str "add", .str "sub", .str "mul"]) hp0).lst0 l0
    refine ⟨p0, _, rfl, .inr (SqT.of upd_same), rfl, rfl, false, congrArg V.bl (by decide +kernel), iteF ?_⟩
    refine ⟨_, rfl, (by show 2 ≤ sizeLine; decide), fun p1 hp1 => ?_⟩
    have k2 := k1.then (Kp.new (o := .tup [.str "min", .str "max"]) hp1)
    have l2 := (Kp.new (o := .tup [.str "min", .str "max"]) hp1).lst0 l1
    refine ⟨p1, _, rfl, .inr (SqT.of upd_same), rfl, rfl, false, congrArg V.bl (by decide +kernel), iteF ?_⟩
    refine ⟨_, rfl, rfl, false, congrArg V.bl (by decide +kernel), iteF ?_⟩
    refine ⟨_, rfl, (by show 2 ≤ sizeLine; decide), fun p2 hp2 => ?_⟩
    have k3 := k2.then (Kp.new (o := .tup [.str "less", .str "alike"]) hp2)
    have l3 := (Kp.new (o := .tup [.str "less", .str "alike"]) hp2).lst0 l2
    refine ⟨p2, _, rfl, .inr (SqT.of upd_same), rfl, rfl, false, congrArg V.bl (by decide +kernel), iteF ?_⟩
    refine ⟨_, rfl, (by show 2 ≤ sizeLine; decide), fun p3 hp3 => ?_⟩
    have k4 := k3.then (Kp.new (o := .tup [.str "both", .str "any"]) hp3)
    have l4 := (Kp.new (o := .tup [.str "both", .str "any"]) hp3).lst0 l3
    refine ⟨p3, _, rfl, .inr (SqT.of upd_same), rfl, rfl, false, congrArg V.bl (by decide +kernel), iteF ?_⟩
    refine ⟨_, rfl, rfl, false, congrArg V.bl (by decide +kernel), iteF ?_⟩
    refine ⟨_, rfl, rfl, true, congrArg V.bl (by decide +kernel), iteT ?_⟩
    refine ⟨_, rfl, l, _, _, _, rfl, rfl, SqL.of l4, at_of (j := 0) rfl rfl, a, rfl, ?_⟩
    cases a with
    | false => exact ⟨_, rfl, l, _, _, _, rfl, rfl, SqL.of l4, at_of (j := 2) rfl rfl, q _ k4⟩
    | true => exact ⟨_, rfl, l, _, _, _, rfl, rfl, SqL.of l4, at_of (j := 1) rfl rfl, q _ k4⟩
  | yes =>
    refine ⟨_, rfl, (by show 3 ≤ sizeLine; decide), fun p0 hp0 => ?_⟩
    have k1 := k0.then (Kp.new (o := .tup [.str "add", .str "sub", .str "mul"]) hp0)
    have l1 := (Kp.new (o := .tup [.str "add", .str "sub", .str "mul"]) hp0).lst0 l0
    refine ⟨p0, _, rfl, .inr (SqT.of upd_same), rfl, rfl, false, congrArg V.bl (by decide +kernel), iteF ?_⟩
    refine ⟨_, rfl, (by show 2 ≤ sizeLine; decide), fun p1 hp1 => ?_⟩
    have k2 := k1.then (Kp.new (o := .tup [.str "min", .str "max"]) hp1)
    have l2 := (Kp.new (o := .tup [.str "min", .str "max"]) hp1).lst0 l1
    refine ⟨p1, _, rfl, .inr (SqT.of upd_same), rfl, rfl, false, congrArg V.bl (by decide +kernel), iteF ?_⟩
    refine ⟨_, rfl, rfl, false, congrArg V.bl (by decide +kernel), iteF ?_⟩
    refine ⟨_, rfl, (by show 2 ≤ sizeLine; decide), fun p2 hp2 => ?_⟩
    have k3 := k2.then (Kp.new (o := .tup [.str "less", .str "alike"]) hp2)
    have l3 := (Kp.new (o := .tup [.str "less", .str "alike"]) hp2).lst0 l2
    refine ⟨p2, _, rfl, .inr (SqT.of upd_same), rfl, rfl, false, congrArg V.bl (by decide +kernel), iteF ?_⟩
    refine ⟨_, rfl, (by show 2 ≤ sizeLine; decide), fun p3 hp3 => ?_⟩
    have k4 := k3.then (Kp.new (o := .tup [.str "both", .str "any"]) hp3)
    have l4 := (Kp.new (o := .tup [.str "both", .str "any"]) hp3).lst0 l3
    refine ⟨p3, _, rfl, .inr (SqT.of upd_same), rfl, rfl, false, congrArg V.bl (by decide +kernel), iteF ?_⟩
    refine ⟨_, rfl, rfl, false, congrArg V.bl (by decide +kernel), iteF ?_⟩
    refine ⟨_, rfl, rfl, false, congrArg V.bl (by decide +kernel), iteF ?_⟩
    refine ⟨_, rfl, rfl, ?_⟩
    rw [show decide (V.str "yes" = V.str "yes") = true from by decide +kernel]
    exact q _ k4
  | no =>
    refine ⟨_, rfl, (by show 3 ≤ sizeLine; decide), fun p0 hp0 => ?_⟩
    have k1 := k0.then (Kp.new (o := .tup [.str "add", .str "sub", .str "mul"]) hp0)
    have l1 := (Kp.new (o := .tup [.str "add", .str "sub", .str "mul"]) hp0).lst0 l0
    refine ⟨p0, _, rfl, .inr (SqT.of upd_same), rfl, rfl, false, congrArg V.bl (by decide +kernel), iteF ?_⟩
    refine ⟨_, rfl, (by show 2 ≤ sizeLine; decide), fun p1 hp1 => ?_⟩
    have k2 := k1.then (Kp.new (o := .tup [.str "min", .str "max"]) hp1)
    have l2 := (Kp.new (o := .tup [.str "min", .str "max"]) hp1).lst0 l1
    refine ⟨p1, _, rfl, .inr (SqT.of upd_same), rfl, rfl, false, congrArg V.bl (by decide +kernel), iteF ?_⟩
    refine ⟨_, rfl, rfl, false, congrArg V.bl (by decide +kernel), iteF ?_⟩
    refine ⟨_, rfl, (by show 2 ≤ sizeLine; decide), fun p2 hp2 => ?_⟩
    have k3 := k2.then (Kp.new (o := .tup [.str "less", .str "alike"]) hp2)
    have l3 := (Kp.new (o := .tup [.str "less", .str "alike"]) hp2).lst0 l2
    refine ⟨p2, _, rfl, .inr (SqT.of upd_same), rfl, rfl, false, congrArg V.bl (by decide +kernel), iteF ?_⟩
    refine ⟨_, rfl, (by show 2 ≤ sizeLine; decide), fun p3 hp3 => ?_⟩
    have k4 := k3.then (Kp.new (o := .tup [.str "both", .str "any"]) hp3)
    have l4 := (Kp.new (o := .tup [.str "both", .str "any"]) hp3).lst0 l3
    refine ⟨p3, _, rfl, .inr (SqT.of upd_same), rfl, rfl, false, congrArg V.bl (by decide +kernel), iteF ?_⟩
    refine ⟨_, rfl, rfl, false, congrArg V.bl (by decide +kernel), iteF ?_⟩
    refine ⟨_, rfl, rfl, false, congrArg V.bl (by decide +kernel), iteF ?_⟩
    refine ⟨_, rfl, rfl, ?_⟩
    rw [show decide (V.str "no" = V.str "yes") = false from by decide +kernel]
    exact q _ k4
end
end K08

set_option Elab.async false
set_option maxRecDepth 100000
set_option maxHeartbeats 4000000
set_option pp.maxSteps 1500
namespace K08
open PySem L2
/-- value_in's -/
def spVI (Pn : Addr) (n : Nat) : Sp := fun vs H Q _ => ∃ (v : V) (t : Tm) (wt : Addr) (ws : List V) (r : V), vs = [v, .ref wt] ∧ TmAt H t v ∧ t.dep ≤ n ∧ H wt = some (.tup ws) ∧ Vl ws t r ∧ GxR.TabG H Pn ∧ ∀ H', Kp H H' [] → Q r H'
section
variable {P : Program} {w : World} {K : PySem.W.Frag} {mg : Str → Option Value} {base : Heap}
theorem sc_value_in : FnScope ["term", "world", "number", "one"] ["term", "world"] (defScope s_value_in) := ⟨rfl, rfl, rfl, by decide +kernel, rfl, by decide +kernel, by decide +kernel⟩
theorem ok_vi_step {f Pn SI f1 f2 : Addr} {fd fd1 fd2 : FuncData} (F_value_in : Fun K "value_in" "value_in" s_value_in f fd) (T : Txt0 mg) (TI : Inp K mg SI) (b_value_in : Binds K fd ["term", "world"] []) (g_value_in : mg "value_in" = some (.ref f))
    (G_number_of : FnOk P w K mg base CX0 3 f1 fd1 ["name"] (spNumber Pn)) (F_number_of : Fun K "number_of" "number_of" s_number_of f1 fd1) (b_number_of : Binds K fd1 ["name"] []) (g_number_of : mg "number_of" = some (.ref f1))
    (G_worked : FnOk P w K mg base CX0 1 f2 fd2 ["name", "values"] spWorked) (F_worked : Fun K "worked" "worked" s_worked f2 fd2) (b_worked : Binds K fd2 ["name", "values"] []) (g_worked : mg "worked" = some (.ref f2)) {n : Nat}
    (G_value_in : FnOk P w K mg base CX0 (3 + n) f fd ["term", "world"] (spVI Pn n)) : FnOk P w K mg base CX0 (3 + n + 1) f fd ["term", "world"] (spVI Pn (n + 1)) := by
  refine F_value_in.ok sc_value_in (fun vs H Q E h => ?_) (fun cdv A outer s H vs Q E hr h => ?_)
  · obtain ⟨v, t, wt, ws, r, rfl, _⟩ := h
    rfl
  obtain ⟨v, t, wt, ws, r, rfl, hT, hd, hw, hv, hG, q⟩ := h
  have nd := sc_value_in.nd
  have g_INPUTS := TI.g
  have hr3 := hr.mono (by omega : 3 ≤ 3 + n)
  have hr1 := hr.mono (by omega : 1 ≤ 3 + n)
  refine ⟨_, (pss_cons (ps_set (i := 2) nd rfl (.inl rfl) (pe_call G_number_of hr3 (by rfl) g_number_of F_number_of.kp b_number_of .nil pass0 (pa_cons (pe_ix ix_tup (pv 0) pe_int (fun _ _ => rfl)) pa_nil)))
    (pss_cons (ps_if (pt_cmpR op_notN (pv 2) pe_non (nomark _)) 
      (pss_one (ps_ret (pv 2))) pss_nil)
    (pss_cons (ps_if (pt_cmpR op_in_seq (pe_ix ix_tup (pv 0) pe_int (fun _ _ => rfl)) (pe_gref (by rfl) g_INPUTS) rfl) 
      (pss_one (ps_ret (pe_ix ix_tup (pv 1) (pe_bm PySem.F.plainAttrs_tuple PySem.F.slot_tuple_index PySem.F.type_tuple_index mt_tup_index (pe_gref (by rfl) g_INPUTS) (pa_cons (pe_ix ix_tup (pv 0) pe_int (fun _ _ => rfl)) pa_nil)) (fun _ _ => rfl)))) pss_nil)
    (pss_one (ps_ret (pe_call G_worked hr1 (by rfl) g_worked F_worked.kp b_worked .nil pass0 (pa_cons (pe_ix ix_tup (pv 0) pe_int (fun _ _ => rfl)) (pa_cons (pe_lc (own := [("one", 3)]) (g := gName 3) (tt := tYes) rfl nd (pi_tup (pe_slice sl_tupA (pv 0) (po_some pe_int) po_none)) (blkOk_by (N := ["term", "world", "number", "one"]) (sc := defScope s_value_in) (by decide +kernel)) (fun _ _ _ _ _ => (pg_name (i := 3) nd rfl (.inl rfl))) (fun _ _ _ _ _ => pts_nil) (fun _ _ _ _ _ => (pe_call G_value_in hr (by rfl) g_value_in F_value_in.kp b_value_in .nil pass0 (pa_cons (pv 3) (pa_cons (pv 1) pa_nil))))) pa_nil)))))))), ?_⟩
  obtain ⟨p, xs, rfl, hp, hk⟩ := hT.out
  obtain ⟨rs, hrs, m⟩ := hv.out
  generalize hnm : t.nam = nm at m hp
  cases m with
  | nu _ i on en ed =>
    refine ⟨_, rfl, p, _, _, _, rfl, rfl, SqT.of hp, at_of (j := 0) rfl rfl, nm, rfl, on, hG, fun H1 k1 => ?_⟩
    rw [en]
    exact ⟨_, rfl, rfl, true, rfl, iteT ⟨_, rfl, q _ k1⟩⟩
  | x _ hx =>
    refine ⟨_, rfl, p, _, _, _, rfl, rfl, SqT.of hp, at_of (j := 0) rfl rfl, "x", rfl, (by decide +kernel), hG, fun H1 k1 => ?_⟩
    rw [show numOf "x" = none from by decide +kernel]
    have hp1 := k1.tup0 hp
    refine ⟨_, rfl, rfl, false, rfl, iteF ⟨_, rfl, p, _, _, _, rfl, rfl, SqT.of hp1, at_of (j := 0) rfl rfl, SI, ins3, rfl, .inr (TI.t _), rfl, rfl, true, congrArg V.bl (by decide +kernel), iteT ?_⟩⟩
    exact ⟨_, rfl, .inr (.inl ⟨rfl, TI.l⟩), _, rfl, p, _, _, _, rfl, rfl, SqT.of hp1, at_of (j := 0) rfl rfl, SI, ["x", "y", "z"], _, 0, rfl, rfl, TI.t _, rfl, (nn_of (by decide +kernel)), wt, ws, _, _, rfl, rfl, SqT.of (k1.tup0 hw), at_of (j := 0) rfl hx, q _ k1⟩
  | y _ hx =>
    refine ⟨_, rfl, p, _, _, _, rfl, rfl, SqT.of hp, at_of (j := 0) rfl rfl, "y", rfl, (by decide +kernel), hG, fun H1 k1 => ?_⟩
    rw [show numOf "y" = none from by decide +kernel]
    have hp1 := k1.tup0 hp
    refine ⟨_, rfl, rfl, false, rfl, iteF ⟨_, rfl, p, _, _, _, rfl, rfl, SqT.of hp1, at_of (j := 0) rfl rfl, SI, ins3, rfl, .inr (TI.t _), rfl, rfl, true, congrArg V.bl (by decide +kernel), iteT ?_⟩⟩
    exact ⟨_, rfl, .inr (.inl ⟨rfl, TI.l⟩), _, rfl, p, _, _, _, rfl, rfl, SqT.of hp1, at_of (j := 0) rfl rfl, SI, ["x", "y", "z"], _, 1, rfl, rfl, TI.t _, rfl, (nn_of (by decide +kernel)), wt, ws, _, _, rfl, rfl, SqT.of (k1.tup0 hw), at_of (j := 1) rfl hx, q _ k1⟩
  | z _ hx =>
    refine ⟨_, rfl, p, _, _, _, rfl, rfl, SqT.of hp, at_of (j := 0) rfl rfl, "z", rfl, (by decide +kernel), hG, fun H1 k1 => ?_⟩
    rw [show numOf "z" = none from by decide +kernel]
    have hp1 := k1.tup0 hp
    refine ⟨_, rfl, rfl, false, rfl, iteF ⟨_, rfl, p, _, _, _, rfl, rfl, SqT.of hp1, at_of (j := 0) rfl rfl, SI, ins3, rfl, .inr (TI.t _), rfl, rfl, true, congrArg V.bl (by decide +kernel), iteT ?_⟩⟩
    exact ⟨_, rfl, .inr (.inl ⟨rfl, TI.l⟩), _, rfl, p, _, _, _, rfl, rfl, SqT.of hp1, at_of (j := 0) rfl rfl, SI, ["x", "y", "z"], _, 2, rfl, rfl, TI.t _, rfl, (nn_of (by decide +kernel)), wt, ws, _, _, rfl, rfl, SqT.of (k1.tup0 hw), at_of (j := 2) rfl hx, q _ k1⟩
  | ar _ _ _ ar =>
    obtain ⟨a1, a2, a3⟩ := ar.facts
    refine ⟨_, rfl, p, _, _, _, rfl, rfl, SqT.of hp, at_of (j := 0) rfl rfl, nm, rfl, a1, hG, fun H1 k1 => ?_⟩
    rw [a2]
    have hp1 := k1.tup0 hp
    refine ⟨_, rfl, rfl, false, rfl, iteF ⟨_, rfl, p, _, _, _, rfl, rfl, SqT.of hp1, at_of (j := 0) rfl rfl, SI, ins3, rfl, .inr (TI.t _), rfl, rfl, false, congrArg V.bl a3, iteF ?_⟩⟩
    refine ⟨_, rfl, p, _, _, _, rfl, rfl, SqT.of hp1, at_of (j := 0) rfl rfl, _, rfl, _, rfl, sl_tail (SqT.of hp1) fun qa hqa => ?_⟩
    have k2 : Kp H (upd H1 qa (.tup xs)) [] := k1.then (Kp.new hqa)
    have hq2 : upd H1 qa (.tup xs) qa = some (.tup xs) := upd_same
    generalize upd H1 qa (.tup xs) = H2 at k2 hq2 ⊢
    have hk2 := kids_kp k2 hk
    refine ⟨qa, rfl, ⟨_, SqT.of hq2⟩, fun D hD => ?_⟩
    refine lc_tup (K := K) (a := qa) (xs := xs) (fun i H' => Kp H2 H' [] ∧ H' D = some (.lst (rs.take i))) ⟨Kp.new hD, upd_same⟩ (fun i H' _ h => SqT.of (h.1.tup0 hq2)) (fun i x H' hx ⟨k3, hD3⟩ => ?_) (fun H' ⟨k3, hD3⟩ => ?_)
    · have hi : i < t.kids.length := by rw [Paired.len hk]; exact (List.getElem?_eq_some_iff.mp hx).1
      obtain ⟨kd, hkd⟩ : ∃ kd, t.kids[i]? = some kd := ⟨_, List.getElem?_eq_getElem hi⟩
      obtain ⟨r1, hr1', wk⟩ := Paired.get hrs i kd hkd
      obtain ⟨y', hy', tk⟩ := Paired.get hk2 i kd hkd
      rw [hx] at hy'
      cases hy'
      have dk := Tm.kid_dep (List.mem_of_getElem? hkd)
      refine ⟨rfl, _, rfl, _, rfl, x, kd, wt, ws, r1, rfl, tk.kp0 k3, by omega, (k2.then k3).tup0 hw, wk, (k2.then k3).tabG hG, fun H4 k4 => ?_⟩
      have hD4 := k4.lst0 hD3
      refine ⟨_, hD4, ?_, (k3.then k4).fresh (Kp.wl hD4) fun y hy => by rw [List.mem_singleton.mp hy]; exact hD, ?_⟩
      · have := Paired.len hrs
        have := Tm.kids_le t
        rw [List.length_take]
        exact Nat.lt_of_le_of_lt (Nat.le_trans (Nat.min_le_right _ _) (show rs.length ≤ 3 by omega)) (by decide)
      · rw [upd_same, List.take_succ, hr1']
        rfl
    · have el : xs.length = rs.length := (Paired.len hk).symm.trans (Paired.len hrs)
      rw [el, List.take_length] at hD3
      exact ⟨nm, D, rs, r, rfl, hD3, ar, fun H' k' => q _ ((k2.then k3).then k')⟩
theorem ok_vi {f Pn SI f1 f2 : Addr} {fd fd1 fd2 : FuncData} (F_value_in : Fun K "value_in" "value_in" s_value_in f fd) (T : Txt0 mg) (TI : Inp K mg SI) (b_value_in : Binds K fd ["term", "world"] []) (g_value_in : mg "value_in" = some (.ref f))
    (G_number_of : FnOk P w K mg base CX0 3 f1 fd1 ["name"] (spNumber Pn)) (F_number_of : Fun K "number_of" "number_of" s_number_of f1 fd1) (b_number_of : Binds K fd1 ["name"] []) (g_number_of : mg "number_of" = some (.ref f1))
    (G_worked : FnOk P w K mg base CX0 1 f2 fd2 ["name", "values"] spWorked) (F_worked : Fun K "worked" "worked" s_worked f2 fd2) (b_worked : Binds K fd2 ["name", "values"] []) (g_worked : mg "worked" = some (.ref f2)) :
    ∀ n, FnOk P w K mg base CX0 (3 + n) f fd ["term", "world"] (spVI Pn n)
  | 0 => ok_never fun vs H Q E ⟨_, t, _, _, _, _, _, h, _⟩ => absurd (Tm.dep_pos t) (by omega)
  | n + 1 => ok_vi_step F_value_in T TI b_value_in g_value_in G_number_of F_number_of b_number_of g_number_of G_worked F_worked b_worked g_worked (ok_vi F_value_in T TI b_value_in g_value_in G_number_of F_number_of b_number_of g_number_of G_worked F_worked b_worked g_worked n)
end
end K08

set_option Elab.async false
set_option maxRecDepth 100000
set_option maxHeartbeats 4000000
set_option pp.maxSteps 1500
namespace K08
open PySem L2
/-! ### defs that may raise -/
abbrev XF : XK := fun _ _ _ => False
theorem passF {X : Cx} {P : Program} {w : World} : Passes (L2N.CX P w) X XF := fun _ _ _ _ _ _ _ c => by
  obtain ⟨_, _, _, _, _, _, _, _, _, _, _, _, h⟩ := c
  exact h.elim
theorem okR {P : Program} {w : World} {K : PySem.W.Frag} {mg : Str → Option Value} {base : Heap} {x qual : Str} {st : Stmt} {f : Addr} {fd : FuncData} {N ps : List Str} {k : Nat} {sp : Sp} (F : Fun K x qual st f fd) (S : FnScope N ps (defScope st)) (len : ∀ vs H Q E, sp vs H Q E → vs.length = ps.length)
    (hbody : ∀ (cdv : Value) (A : Around) (outer : List Env) (s : Shared) (H : Hp) (vs : List V) (Q : VK) (E : XK), Room k (A.deeper (PyProof.Rows.envOfC qual (defScope st) s.heap.objs.size f cdv)) → sp vs H Q E →
      ∃ t, PSs (cxOf (L2N.CX P w) P w K mg base N qual (defScope st) f cdv A outer s H E) (defBody st) t ∧ t { nx := fun _ H' => Q .non H', rt := Q } (start N vs) H) : FnOk P w K mg base (L2N.CX P w) (k + 1) f fd ps sp := by
  obtain ⟨oc, od, kV, doc, pm, an, cdv, ct, osl, rfl, lk, hcd⟩ := F.ex
  exact fn_of lk hcd S len fun A outer s H vs Q E hr hsp => hbody cdv A outer s H vs Q E hr hsp
structure Txt (K : PySem.W.Frag) (mg : Str → Option Value) (Cm Cn : Addr) : Prop extends Txt0 mg where
  gM : mg "Malformed" = some (.ref Cm)
  kM : PySem.W.keepIn K (.ref Cm) = true
  qM : PySem.W.excIn K Cm [.type "ValueError", .type "Exception", .type "BaseException", .type "object"] "ValueError.__new__" = true
  bM : PySem.W.subIn K (.ref Cm) (.type "BaseException") = some true
  tM : PySem.W.typeIn K (.ref Cm) = some (.type "type")
  gN : mg "NotThere" = some (.ref Cn)
  kN : PySem.W.keepIn K (.ref Cn) = true
  qN : PySem.W.excIn K Cn [.type "ValueError", .type "Exception", .type "BaseException", .type "object"] "ValueError.__new__" = true
  bN : PySem.W.subIn K (.ref Cn) (.type "BaseException") = some true
  tN : PySem.W.typeIn K (.ref Cn) = some (.type "type")
def spVO (Pn Pw Cm : Addr) (n : Nat) : Sp := fun vs H Q E => ∃ (v wv : V) (t : Tm) (b : Bool), vs = [v, wv] ∧ TmAt H t v ∧ t.dep ≤ n ∧ WorldV H wv b ∧ GxR.TabG H Pn ∧ GxR.TabG H Pw ∧ (b = false → ∀ H', Kp H H' [] → E (.ref Cm) none H') ∧
  (b = true → ∃ wt ws r, wv = .ref wt ∧ H wt = some (.tup ws) ∧ Vl ws t r ∧ ∀ H', Kp H H' [] → Q r H')
def litOf : V → Option Str
  | .bl b => some (if b = true then "yes" else "no")
  | .int i => if inR (.int i) (-999) 999 = true then some (toString i) else none
  | _ => none
def LitV (r : V) : Prop := (∃ i, r = .int i) ∨ ∃ b, r = .bl b
def spLit : Sp := fun vs H Q _ => ∃ r : V, vs = [r] ∧ LitV r ∧ (litOf r = none → ∀ H', Kp H H' [] → Q .non H') ∧ ∀ n, litOf r = some n → ∀ H' p, Kp H H' [] → H' p = some (.tup [.str n]) → Q (.ref p) H'
def isLit : Tm → Bool
  | .lf n => inV (.str n) [.str "yes", .str "no"] || (numOf n).isSome
  | _ => false
def spIsLit (Pn : Addr) : Sp := fun vs H Q _ => ∃ (v : V) (t : Tm), vs = [v] ∧ TmAt H t v ∧ okN t.nam = true ∧ GxR.TabG H Pn ∧ ∀ H', Kp H H' [] → Q (.bl (isLit t)) H'
section
variable {P : Program} {w : World} {K : PySem.W.Frag} {mg : Str → Option Value} {base : Heap}
theorem sc_value_of : FnScope ["term", "world"] ["term", "world"] (defScope s_value_of) := ⟨rfl, rfl, rfl, by decide +kernel, rfl, by decide +kernel, by decide +kernel⟩
theorem ok_value_of {f Pn Pw Cm Cn f1 f2 : Addr} {fd fd1 fd2 : FuncData} (F : Fun K "value_of" "value_of" s_value_of f fd) (T : Txt K mg Cm Cn) {n k : Nat} (k3 : 3 ≤ k)
    (G_is_world : FnOk P w K mg base CX0 3 f1 fd1 ["value"] (spWorld Pw)) (F_is_world : Fun K "is_world" "is_world" s_is_world f1 fd1) (b_is_world : Binds K fd1 ["value"] []) (g_is_world : mg "is_world" = some (.ref f1))
    (G_value_in : FnOk P w K mg base CX0 k f2 fd2 ["term", "world"] (spVI Pn n)) (F_value_in : Fun K "value_in" "value_in" s_value_in f2 fd2) (b_value_in : Binds K fd2 ["term", "world"] []) (g_value_in : mg "value_in" = some (.ref f2)) :
    FnOk P w K mg base (L2N.CX P w) (k + 1) f fd ["term", "world"] (spVO Pn Pw Cm n) := by
  refine okR F sc_value_of (fun vs H Q E h => ?_) (fun cdv A outer s H vs Q E hr h => ?_)
  · obtain ⟨v, wv, t, b, rfl, _⟩ := h
    rfl
  obtain ⟨v, wv, t, b, rfl, hT, hd, hw, hn, hpw, qe, q⟩ := h
  have nd := sc_value_of.nd
  have hr3 := hr.mono k3
  refine ⟨_, (pss_cons (ps_if (pt_not (pt_val (pe_call G_is_world hr3 (by rfl) g_is_world F_is_world.kp b_is_world .nil pass0 (pa_cons (pv 1) pa_nil)))) 
      (pss_one (L2N.ps_raise rfl (L2N.takes_of rfl rfl rfl rfl) (L2N.pmk_own PySem.F.excBase_ValueError T.qM T.gM T.kM (raises_own T.bM T.tM) (by exact rfl)))) pss_nil)
    (pss_one (ps_ret (pe_call G_value_in hr (by rfl) g_value_in F_value_in.kp b_value_in .nil pass0 (pa_cons (pv 0) (pa_cons (pv 1) pa_nil)))))), ?_⟩
  refine ⟨_, rfl, wv, b, rfl, hw, hpw, fun H1 k1 => ⟨b, rfl, ?_⟩⟩
  cases b with
  | false => exact iteT (qe rfl _ k1)
  | true =>
    obtain ⟨wt, ws, r, rfl, hwt, hv, q⟩ := q rfl
    refine iteF ⟨_, rfl, _, rfl, v, t, wt, ws, r, rfl, hT.kp0 k1, hd, k1.tup0 hwt, hv, k1.tabG hn, fun H2 k2 => q _ (k1.then k2)⟩
theorem sc_literal_of : FnScope ["value", "name"] ["value"] (defScope s_literal_of) := ⟨rfl, rfl, rfl, by decide +kernel, rfl, by decide +kernel, by decide +kernel⟩
theorem ok_literal_of {f f1 : Addr} {fd fd1 : FuncData} (F : Fun K "literal_of" "literal_of" s_literal_of f fd) (T : Txt0 mg) (G_numeral_of : FnOk P w K mg base CX0 2 f1 fd1 ["number"] spNumeral) (F_numeral_of : Fun K "numeral_of" "numeral_of" s_numeral_of f1 fd1) (b_numeral_of : Binds K fd1 ["number"] []) (g_numeral_of : mg "numeral_of" = some (.ref f1)) :
    FnOk P w K mg base CX0 3 f fd ["value"] spLit := by
  refine F.ok sc_literal_of (fun vs H Q E h => ?_) (fun cdv A outer s H vs Q E hr2 h => ?_)
  · obtain ⟨r, rfl, _⟩ := h
    rfl
  obtain ⟨r, rfl, hl, qn, qs⟩ := h
  have nd := sc_literal_of.nd
  refine ⟨_, (pss_cons (ps_if (pt_val (pe_callB call_isi (by rfl) T.B.isinstance (by decide +kernel) (pa_cons (pv 0) (pa_cons (pe_bltn (v := .ty "bool") (by rfl) T.B.bool (by decide +kernel) rfl) pa_nil)))) 
      (pss_one (ps_ret (pe_ifExp (pt_truth (pv 0) (by intro _; rfl)) (pe_tup (pa_cons pe_str pa_nil)) (pe_tup (pa_cons pe_str pa_nil))))) pss_nil)
    (pss_cons (ps_set (i := 1) nd rfl (.inl rfl) (pe_call G_numeral_of hr2 (by rfl) g_numeral_of F_numeral_of.kp b_numeral_of .nil pass0 (pa_cons (pv 0) pa_nil)))
    (pss_one (ps_ret (pe_ifExp (pt_cmpR op_isN (pv 1) pe_non (nomark _)) pe_non (pe_tup (pa_cons (pv 1) pa_nil))))))), ?_⟩
  rcases hl with ⟨i, rfl⟩ | ⟨b, rfl⟩
  · refine ⟨_, rfl, _, .ty "bool", _, _, false, rfl, .ty _, .base (.int _), kit_ty (by decide +kernel), false, rfl, iteF ?_⟩
    refine ⟨_, rfl, i, rfl, ?_⟩
    cases hb : inR (.int i) (-999) 999 with
    | true =>
      refine ⟨_, rfl, rfl, false, rfl, iteF ⟨_, rfl, (by show 1 ≤ sizeLine; decide), fun p hp => ?_⟩⟩
      refine qs (toString i) ?_ _ p (Kp.new hp) upd_same
      show (if inR (.int i) (-999) 999 = true then some (toString i : Str) else none) = _
      rw [if_pos hb]
    | false =>
      refine ⟨_, rfl, rfl, true, rfl, iteT (qn ?_ H (Kp.refl H))⟩
      show (if inR (.int i) (-999) 999 = true then some (toString i : Str) else none) = _
      rw [hb]
      rfl
  · refine ⟨_, rfl, _, .ty "bool", _, _, true, rfl, .ty _, .base (.bl _), kit_ty (by decide +kernel), true, rfl, iteT ?_⟩
    cases b with
    | true => exact ⟨_, rfl, true, rfl, iteT ⟨(by show 1 ≤ sizeLine; decide), fun p hp => qs "yes" rfl _ p (Kp.new hp) upd_same⟩⟩
    | false => exact ⟨_, rfl, false, rfl, iteF ⟨(by show 1 ≤ sizeLine; decide), fun p hp => qs "no" rfl _ p (Kp.new hp) upd_same⟩⟩
end
end K08

set_option Elab.async false
set_option maxRecDepth 100000
set_option maxHeartbeats 4000000
set_option pp.maxSteps 1500
namespace K08
open PySem L2
section
variable {P : Program} {w : World} {K : PySem.W.Frag} {mg : Str → Option Value} {base : Heap}
theorem sc_is_literal : FnScope ["term"] ["term"] (defScope s_is_literal) := ⟨rfl, rfl, rfl, by decide +kernel, rfl, by decide +kernel, by decide +kernel⟩
theorem ok_is_literal {f Pn f1 : Addr} {fd fd1 : FuncData} (F : Fun K "is_literal" "is_literal" s_is_literal f fd) (T : Txt0 mg) (G_number_of : FnOk P w K mg base CX0 3 f1 fd1 ["name"] (spNumber Pn)) (F_number_of : Fun K "number_of" "number_of" s_number_of f1 fd1) (b_number_of : Binds K fd1 ["name"] []) (g_number_of : mg "number_of" = some (.ref f1)) :
    FnOk P w K mg base CX0 4 f fd ["term"] (spIsLit Pn) := by
  refine F.ok sc_is_literal (fun vs H Q E h => ?_) (fun cdv A outer s H vs Q E hr3 h => ?_)
  · obtain ⟨v, t, rfl, _⟩ := h
    rfl
  obtain ⟨v, t, rfl, hT, on, hG, q⟩ := h
  have nd := sc_is_literal.nd
  refine ⟨_, (pss_one (ps_ret (pe_and (pe_cmpR op_eq (pe_callB call_len_seq (by rfl) T.B.len (by decide +kernel) (pa_cons (pv 0) pa_nil)) pe_int (nomark _)) (pe_one (pe_or (pe_cmpR op_in_seq (pe_ix ix_tup (pv 0) pe_int (fun _ _ => rfl)) (pe_tup (pa_cons pe_str (pa_cons pe_str pa_nil))) rfl) (pe_one (pe_cmpR op_notN (pe_call G_number_of hr3 (by rfl) g_number_of F_number_of.kp b_number_of .nil pass0 (pa_cons (pe_ix ix_tup (pv 0) pe_int (fun _ _ => rfl)) pa_nil)) pe_non (nomark _)))))))), ?_⟩
  obtain ⟨p, xs, rfl, hp, hk⟩ := hT.out
  have ek : xs.length = t.kids.length := (Paired.len hk).symm
  refine ⟨_, rfl, p, _, rfl, .inr (SqT.of hp), rfl, decide (t.kids.length = 0), congrArg V.bl ?_, ?_⟩
  · rw [List.length_cons, ek]
    by_cases h0 : t.kids.length = 0
    · rw [decide_eq_true h0, decide_eq_true (by rw [h0]; rfl)]
    · rw [decide_eq_false h0, decide_eq_false fun z => h0 (by have := V.int.inj z; omega)]
  cases t with
  | un n a => exact iteF (q H (Kp.refl H))
  | bi n a b => exact iteF (q H (Kp.refl H))
  | tr n a b c => exact iteF (q H (Kp.refl H))
  | lf n =>
    refine iteT ?_
    have hp : H p = some (.tup (.str n :: xs)) := hp
    refine ⟨_, rfl, p, _, _, _, rfl, rfl, SqT.of hp, at_of (j := 0) rfl rfl, (by show 2 ≤ sizeLine; decide), fun tp htp => ?_⟩
    have k1 : Kp H (upd H tp (.tup [.str "yes", .str "no"])) [] := Kp.new htp
    have hp1 := k1.tup0 hp
    refine ⟨tp, _, rfl, .inr (SqT.of upd_same), rfl, rfl, inV (.str n) [.str "yes", .str "no"], rfl, ?_⟩
    have e : isLit (.lf n) = (inV (.str n) [.str "yes", .str "no"] || (numOf n).isSome) := rfl
    rw [e] at q
    cases hb : inV (.str n) [.str "yes", .str "no"] with
    | true =>
      rw [hb] at q
      exact iteT (q _ k1)
    | false =>
      rw [hb] at q
      refine iteF ⟨_, rfl, p, _, _, _, rfl, rfl, SqT.of hp1, at_of (j := 0) rfl rfl, n, rfl, on, k1.tabG hG, fun H2 k2 => ?_⟩
      cases hn : numOf n with
      | none =>
        rw [hn] at q
        exact ⟨rfl, q _ (k1.then k2)⟩
      | some i =>
        rw [hn] at q
        exact ⟨rfl, q _ (k1.then k2)⟩
/-! ### folding -/
def ari (n : Str) : Option Nat := (std.find? fun r => decide (r.1 = n)).map fun r => r.2.1.length
def plc (i : Nat) : List (Key × V) := (std.take i).map fun r => ((.inr r.1 : Key), V.int r.2.1.length)
theorem plc_put (i : Nat) (r : Op) (h : std[i]? = some r) : putK (plc i) (.inr r.1) (.int r.2.1.length) = plc (i + 1) := by
  have hi : i < 17 := (List.getElem?_eq_some_iff.mp h).1
  have : i = 0 ∨ i = 1 ∨ i = 2 ∨ i = 3 ∨ i = 4 ∨ i = 5 ∨ i = 6 ∨ i = 7 ∨ i = 8 ∨ i = 9 ∨ i = 10 ∨ i = 11 ∨ i = 12 ∨ i = 13 ∨ i = 14 ∨ i = 15 ∨ i = 16 := by omega
  rcases this with rfl | rfl | rfl | rfl | rfl | rfl | rfl | rfl | rfl | rfl | rfl | rfl | rfl | rfl | rfl | rfl | rfl <;> cases h <;> rfl
theorem plc_at (n : Str) : valV (plc 17) (.inr n) = (ari n).map fun (k : Nat) => V.int (k : Int) := by
  unfold plc valV ari
  rw [List.take_of_length_le (by decide), List.find?_map, Option.map_map, Option.map_map]
  congr 1
  congr 1
  funext r
  show decide ((.inr r.1 : Key) = .inr n) = decide (r.1 = n)
  by_cases e : r.1 = n
  · rw [decide_eq_true e, decide_eq_true (by rw [e])]
  · rw [decide_eq_false e, decide_eq_false fun z => e (Sum.inr.inj z)]
def foldable (t : Tm) : Bool := !t.kids.isEmpty && t.kids.all isLit && decide (ari t.nam = some t.kids.length)
def ws0 : List V := [.int 0, .int 0, .int 0]
def spFo (Pn Pf : Addr) : Sp := fun vs H Q _ => ∃ (v : V) (t : Tm), vs = [v] ∧ TmAt H t v ∧ (∀ k ∈ t.kids, okN k.nam = true) ∧ GxR.TabG H Pn ∧ GxR.TabG H Pf ∧
  (foldable t = false → ∀ H', Kp H H' [] → Q .non H') ∧ (foldable t = true → ∃ r, Vl ws0 t r ∧ LitV r ∧ (litOf r = none → ∀ H', Kp H H' [] → Q .non H') ∧ ∀ n, litOf r = some n → ∀ H' p, Kp H H' [] → H' p = some (.tup [.str n]) → Q (.ref p) H')
end
end K08

set_option Elab.async false
set_option maxRecDepth 100000
set_option maxHeartbeats 4000000
set_option pp.maxSteps 1500
namespace K08
open PySem L2
theorem isLit_leaf {t : Tm} (h : isLit t = true) : t.dep = 1 ∧ t.kids = [] := by
  cases t with
  | lf n => exact ⟨rfl, rfl⟩
  | un n a => cases h
  | bi n a b => cases h
  | tr n a b c => cases h
section
variable {P : Program} {w : World} {K : PySem.W.Frag} {mg : Str → Option Value} {base : Heap}
theorem sc_folded : FnScope ["term", "places", "name", "ins", "_", "one"] ["term"] (defScope s_folded) := ⟨rfl, rfl, rfl, by decide +kernel, rfl, by decide +kernel, by decide +kernel⟩
theorem ok_folded {f c S Pn Pf f1 f2 f3 f4 : Addr} {fd fd1 fd2 fd3 fd4 : FuncData} (F : FunC K "folded" "folded" s_folded f fd c) (tb_folded : GxR.TabB base mg c Pf) (T : Txt0 mg) (TS : Std K mg S)
    (G_is_literal : FnOk P w K mg base CX0 4 f1 fd1 ["term"] (spIsLit Pn)) (F_is_literal : Fun K "is_literal" "is_literal" s_is_literal f1 fd1) (b_is_literal : Binds K fd1 ["term"] []) (g_is_literal : mg "is_literal" = some (.ref f1))
    (G_literal_of : FnOk P w K mg base CX0 3 f2 fd2 ["value"] spLit) (F_literal_of : Fun K "literal_of" "literal_of" s_literal_of f2 fd2) (b_literal_of : Binds K fd2 ["value"] []) (g_literal_of : mg "literal_of" = some (.ref f2))
    (G_worked : FnOk P w K mg base CX0 1 f3 fd3 ["name", "values"] spWorked) (F_worked : Fun K "worked" "worked" s_worked f3 fd3) (b_worked : Binds K fd3 ["name", "values"] []) (g_worked : mg "worked" = some (.ref f3))
    (G_value_in : FnOk P w K mg base CX0 4 f4 fd4 ["term", "world"] (spVI Pn 1)) (F_value_in : Fun K "value_in" "value_in" s_value_in f4 fd4) (b_value_in : Binds K fd4 ["term", "world"] []) (g_value_in : mg "value_in" = some (.ref f4)) :
    FnOk P w K mg base CX0 6 f fd ["term"] (spFo Pn Pf) := by
  refine F.ok sc_folded (fun vs H Q E h => ?_) (fun A outer s H vs Q E hr5 h => ?_)
  · obtain ⟨v, t, rfl, _⟩ := h
    rfl
  obtain ⟨v, t, rfl, hT, hkn, hn, hf, qn, qs⟩ := h
  have nd := sc_folded.nd
  have hv := hr5.units
  have hu := hu_of hr5
  have hr4 := hr5.mono (by decide : 4 ≤ 5)
  have hr3 := hr5.mono (by decide : 3 ≤ 5)
  have hr1 := hr5.mono (by decide : 1 ≤ 5)
  have g_STANDARD := TS.g
  refine ⟨_, (pss_cons (ps_if (PW.pt (pw_or (pt_cmpR op_eq (pe_callB call_len_seq (by rfl) T.B.len (by decide +kernel) (pa_cons (pv 0) pa_nil)) pe_int (nomark _)) (pw_or1 (pt_not (pt_val (GG.pe_allG (own := [("one", 5)]) (g := gName 5) (tt := tYes) rfl nd hr1 (by rfl) T.B.all (by rfl) tb_folded rfl (blkOk_by (N := ["term", "places", "name", "ins", "_", "one"]) (sc := defScope s_folded) (by decide +kernel)) (by decide +kernel) rfl rfl (pi_tup (pe_slice sl_tupA (pv 0) (po_some pe_int) po_none)) (fun _ _ _ _ _ _ _ => (pg_name (i := 5) nd rfl (.inl rfl))) (fun _ _ _ _ _ _ _ => pts_nil) (fun _ _ _ _ _ _ _ => (pe_call G_is_literal (GG.room_gA hr5 _) (by rfl) g_is_literal F_is_literal.kp b_is_literal .nil pass0 (pa_cons (pv 5) pa_nil))) (by intro _; rfl))))))) 
      (pss_one (ps_ret pe_non)) pss_nil)
    (pss_cons (GD.ps_setDc (i := 1) (own := [("name", 2), ("ins", 3), ("_", 4)]) (tt := tYes) rfl nd rfl rfl (GD.sw_dict rfl rfl rfl (by decide +kernel)) (pi_tup (pe_gref (by rfl) g_STANDARD)) (blkOk_by (N := ["term", "places", "name", "ins", "_", "one"]) (sc := defScope s_folded) (by decide +kernel)) (fun _ _ _ _ _ => (GK.pgTK (n := 3) K rfl (pgs_cons (pg_name (i := 2) nd rfl (.inl rfl)) (pgs_cons (pg_name (i := 3) nd rfl (.inl rfl)) (pgs_cons (pg_name (i := 4) nd rfl (.inl rfl)) pgs_nil))))) (fun _ _ _ _ _ => pts_nil) (fun _ _ _ _ _ => (pv 2)) (fun _ _ _ _ _ => (pe_callB (GK.lenK K) (by rfl) T.B.len (by decide +kernel) (pa_cons (pv 3) pa_nil))))
    (pss_cons (ps_if (pt_cmpR (op_neD hv) (pe_dget1 hu (pv 1) (pe_ix ix_tup (pv 0) pe_int (fun _ _ => rfl)) ⟨rfl, rfl, rfl, rfl⟩) (pe_op op_sub (pe_callB call_len_seq (by rfl) T.B.len (by decide +kernel) (pa_cons (pv 0) pa_nil)) pe_int) (nomark _)) 
      (pss_one (ps_ret pe_non)) pss_nil)
    (pss_one (ps_ret (pe_call G_literal_of hr3 (by rfl) g_literal_of F_literal_of.kp b_literal_of .nil pass0 (pa_cons (pe_call G_worked hr1 (by rfl) g_worked F_worked.kp b_worked .nil pass0 (pa_cons (pe_ix ix_tup (pv 0) pe_int (fun _ _ => rfl)) (pa_cons (pe_lc (own := [("one", 5)]) (g := gName 5) (tt := tYes) rfl nd (pi_tup (pe_slice sl_tupA (pv 0) (po_some pe_int) po_none)) (blkOk_by (N := ["term", "places", "name", "ins", "_", "one"]) (sc := defScope s_folded) (by decide +kernel)) (fun _ _ _ _ _ => (pg_name (i := 5) nd rfl (.inl rfl))) (fun _ _ _ _ _ => pts_nil) (fun _ _ _ _ _ => (pe_call G_value_in hr4 (by rfl) g_value_in F_value_in.kp b_value_in .nil pass0 (pa_cons (pv 5) (pa_cons (pe_tup (pa_cons pe_int (pa_cons pe_int (pa_cons pe_int pa_nil)))) pa_nil))))) pa_nil))) pa_nil))))))), ?_⟩
  obtain ⟨p, xs, rfl, hp, hk⟩ := hT.out
  have ek : xs.length = t.kids.length := (Paired.len hk).symm
  refine ⟨_, rfl, p, _, rfl, .inr (SqT.of hp), rfl, decide (t.kids.length = 0), congrArg V.bl ?_, ?_⟩
  · rw [List.length_cons, ek]
    by_cases h0 : t.kids.length = 0
    · rw [decide_eq_true h0, decide_eq_true (by rw [h0]; rfl)]
    · rw [decide_eq_false h0, decide_eq_false fun z => h0 (by have := V.int.inj z; omega)]
  by_cases h0 : t.kids.length = 0
  · rw [decide_eq_true h0]
    refine iteT (iteT (qn ?_ H (Kp.refl H)))
    unfold foldable
    rw [List.length_eq_zero_iff.mp h0]
    rfl
  rw [decide_eq_false h0]
  have ne : t.kids.isEmpty = false := by
    cases e : t.kids with
    | nil => rw [e] at h0; exact absurd rfl h0
    | cons a b => rfl
  refine iteF ⟨_, rfl, _, rfl, sl_tail (SqT.of hp) fun qa hqa => ?_⟩
  have k1 : Kp H (upd H qa (.tup xs)) [] := Kp.new hqa
  have hq1 : upd H qa (.tup xs) qa = some (.tup xs) := upd_same
  generalize upd H qa (.tup xs) = H1 at k1 hq1 ⊢
  refine ⟨qa, rfl, ⟨_, SqT.of hq1⟩, k1.tabG hf, fun H2 tb => ?_⟩
  have k2 : Kp H H2 [] := k1.then (Kp.tabbed (k1.tabG hf) tb)
  have hq2 : H2 qa = some (.tup xs) := (Kp.tabbed (k1.tabG hf) tb).tup0 hq1
  have hk2 := kids_kp k2 hk
  refine GG.gt_tup (K := K) (a := qa) (xs := xs) (fun i H' => Kp H2 H' [] ∧ ∀ j k, j < i → t.kids[j]? = some k → isLit k = true) ⟨Kp.refl _, fun _ _ h => absurd h (Nat.not_lt_zero _)⟩ (fun i H' _ h => SqT.of (h.1.tup0 hq2)) (fun i x H' hx ⟨k3, all⟩ => ?_) (fun H' ⟨k3, all⟩ => ?_)
  · have hi : i < t.kids.length := by rw [← ek]; exact (List.getElem?_eq_some_iff.mp hx).1
    obtain ⟨kd, hkd⟩ : ∃ kd, t.kids[i]? = some kd := ⟨_, List.getElem?_eq_getElem hi⟩
    obtain ⟨y', hy', tk⟩ := Paired.get hk2 i kd hkd
    rw [hx] at hy'
    cases hy'
    refine ⟨rfl, _, rfl, x, kd, rfl, tk.kp0 k3, hkn kd (List.mem_of_getElem? hkd), (k2.then k3).tabG hn, fun H4 k4 => ?_⟩
    cases hl : isLit kd with
    | true =>
      refine .inl ⟨rfl, k3.then k4, fun j k hj e => ?_⟩
      by_cases ej : j = i
      · rw [ej, hkd] at e
        cases e
        exact hl
      · exact all j k (by omega) e
    | false =>
      refine .inr ⟨rfl, false, rfl, iteT (qn ?_ _ ((k2.then k3).then k4))⟩
      unfold foldable
      have : t.kids.all isLit = false := by
        rw [List.all_eq_false]
        exact ⟨kd, List.mem_of_getElem? hkd, by rw [hl]; decide⟩
      rw [this, Bool.and_false, Bool.false_and]
  have allL : ∀ k ∈ t.kids, isLit k = true := fun k hk' => by
    obtain ⟨j, hj, e⟩ := List.mem_iff_getElem.mp hk'
    exact all j k (by rw [ek]; exact hj) (by rw [List.getElem?_eq_getElem hj, e])
  refine ⟨true, rfl, iteF ?_⟩
  have k23 := k2.then k3
  have hp3 := k23.tup0 hp
  have hk3 := kids_kp k23 hk
  have hn3 := k23.tabG hn
  clear tb hq2 hk2 all k3 k2
  -- the places
  obtain ⟨os, hS, hP⟩ := TS.t
  refine ⟨S, rfl, ⟨_, hS _⟩, fun D hD => ?_⟩
  refine dc_tup (K := K) (a := S) (xs := os.map V.ref) (fun i G => Kp H' G [] ∧ G D = some (.dK (plc i))) ⟨Kp.new hD, upd_same⟩ (fun i G _ h => hS _) (fun i x G hx ⟨k4, hD4⟩ => ?_) (fun G ⟨k4, hD4⟩ => ?_)
  · rw [List.getElem?_map] at hx
    cases ho : os[i]? with
    | none => rw [ho] at hx; cases hx
    | some o =>
      rw [ho] at hx
      cases hx
      obtain ⟨r, hr, q, h1, h2⟩ := Paired.get hP i o ho
      refine ⟨o, _, rfl, h1 _, rfl, _, _, rfl, _, _, rfl, _, _, rfl, rfl, rfl, _, rfl, _, rfl, q, _, rfl, .inr (h2 _), plc i, .inr r.1, rfl, hD4, ?_, ?_⟩
      · unfold plc
        rw [List.length_map, List.length_take]
        exact Nat.lt_of_le_of_lt (Nat.min_le_right _ _) (by decide)
      · rw [List.length_map, plc_put i r hr]
        exact ⟨k4.fresh (Kp.wd hD4) fun y hy => by rw [List.mem_singleton.mp hy]; exact hD, upd_same⟩
  have hl17 : (os.map V.ref).length = 17 := by rw [List.length_map]; exact Paired.len hP
  rw [hl17] at hD4
  have hp4 := k4.tup0 hp3
  refine ⟨_, rfl, D, rfl, .inl ⟨_, .inl hD4⟩, _, rfl, p, _, _, _, rfl, rfl, SqT.of hp4, at_of (j := 0) rfl rfl, _, DGet.k (k := .inr t.nam) hD4, _, rfl, p, _, rfl, .inr (SqT.of hp4), _, _, rfl, rfl, ?_⟩
  rw [plc_at]
  have el : (((V.str t.nam :: xs).length : Nat) : Int) - 1 = (t.kids.length : Int) := by rw [List.length_cons, ek]; omega
  show rNeD K _ (V.int ((((V.str t.nam :: xs).length : Nat) : Int) - 1)) _ _
  rw [el]
  have k34 := k23.then k4
  by_cases ha : ari t.nam = some t.kids.length
  · rw [ha]
    refine ⟨.int (t.kids.length : Int), .int (t.kids.length : Int), .int _, .int _, rfl, rfl, false, congrArg V.bl (show (!PyData.eqv (.int (t.kids.length : Int)) (.int (t.kids.length : Int))) = false from by simp [PyData.eqv]), iteF ?_⟩
    have fo : foldable t = true := by
      unfold foldable
      rw [ne, List.all_eq_true.mpr allL, decide_eq_true ha]
      rfl
    obtain ⟨r, hv, lv, q1, q2⟩ := qs fo
    obtain ⟨rs, hrs, m⟩ := hv.out
    have ar : Ar t.nam rs r := by
      have nz : rs ≠ [] := fun z => by
        rw [z] at hrs
        have := Paired.len hrs
        exact h0 this
      generalize t.nam = nm at m
      cases m with
      | ar _ _ _ h => exact h
      | _ => exact absurd rfl nz
    refine ⟨_, rfl, p, _, _, _, rfl, rfl, SqT.of hp4, at_of (j := 0) rfl rfl, _, rfl, _, rfl, sl_tail (SqT.of hp4) fun qb hqb => ?_⟩
    have k5 : Kp G (upd G qb (.tup xs)) [] := Kp.new hqb
    have hq5 : upd G qb (.tup xs) qb = some (.tup xs) := upd_same
    generalize upd G qb (.tup xs) = G5 at k5 hq5 ⊢
    have k35 := k34.then k5
    have hk5 := kids_kp k35 hk
    refine ⟨qb, rfl, ⟨_, SqT.of hq5⟩, fun L hL => ?_⟩
    refine lc_tup (K := K) (a := qb) (xs := xs) (fun i H' => Kp G5 H' [] ∧ H' L = some (.lst (rs.take i))) ⟨Kp.new hL, upd_same⟩ (fun i H' _ h => SqT.of (h.1.tup0 hq5)) (fun i x H' hx ⟨k6, hL6⟩ => ?_) (fun H' ⟨k6, hL6⟩ => ?_)
    · have hi : i < t.kids.length := by rw [← ek]; exact (List.getElem?_eq_some_iff.mp hx).1
      obtain ⟨kd, hkd⟩ : ∃ kd, t.kids[i]? = some kd := ⟨_, List.getElem?_eq_getElem hi⟩
      obtain ⟨r1, hr1', wk⟩ := Paired.get hrs i kd hkd
      obtain ⟨y', hy', tk⟩ := Paired.get hk5 i kd hkd
      rw [hx] at hy'
      cases hy'
      refine ⟨rfl, _, rfl, (by show 3 ≤ sizeLine; decide), fun wz hwz => ?_⟩
      have k7 := k6.then (Kp.new (o := .tup ws0) hwz)
      have hL7 := (Kp.new (o := .tup ws0) hwz).lst0 hL6
      refine ⟨x, kd, wz, ws0, r1, rfl, tk.kp0 k7, Nat.le_of_eq (isLit_leaf (allL kd (List.mem_of_getElem? hkd))).1, upd_same, wk, (k35.then k7).tabG hn, fun H4 k8 => ?_⟩
      have hL8 := k8.lst0 hL7
      refine ⟨_, hL8, ?_, (k7.then k8).fresh (Kp.wl hL8) fun y hy => by rw [List.mem_singleton.mp hy]; exact hL, ?_⟩
      · have := Paired.len hrs
        have := Tm.kids_le t
        rw [List.length_take]
        exact Nat.lt_of_le_of_lt (Nat.le_trans (Nat.min_le_right _ _) (show rs.length ≤ 3 by omega)) (by decide)
      · rw [upd_same, List.take_succ, hr1']
        rfl
    · have el2 : xs.length = rs.length := by rw [ek]; exact Paired.len hrs
      rw [el2, List.take_length] at hL6
      refine ⟨t.nam, L, rs, r, rfl, hL6, ar, fun H7 k7 => ⟨r, rfl, lv, fun z H8 k8 => q1 z _ (((k35.then k6).then k7).then k8), fun n z H8 p8 k8 h8 => q2 n z _ p8 (((k35.then k6).then k7).then k8) h8⟩⟩
  · have fo : foldable t = false := by
      unfold foldable
      rw [decide_eq_false ha, Bool.and_false]
    cases hn : ari t.nam with
    | none => exact ⟨.none, .int (t.kids.length : Int), .non, .int _, rfl, rfl, true, rfl, iteT (qn fo _ k34)⟩
    | some k =>
      have nk : k ≠ t.kids.length := fun z => ha (by rw [hn, z])
      exact ⟨.int (k : Int), .int (t.kids.length : Int), .int _, .int _, rfl, rfl, true, congrArg V.bl (show (!PyData.eqv (.int (k : Int)) (.int (t.kids.length : Int))) = true from by simp [PyData.eqv]; omega), iteT (qn fo _ k34)⟩
end
end K08

set_option Elab.async false
set_option maxRecDepth 100000
set_option maxHeartbeats 4000000
set_option pp.maxSteps 1500
namespace K08
open PySem L2
/-! ### paths -/
def At : Tm → List Nat → Tm → Prop
  | t, [], u => u = t
  | t, i :: p, u => ∃ k, t.kids[i]? = some k ∧ At k p u
theorem Tm.dep_le (t : Tm) : t.dep ≤ t.size := by
  induction t with
  | lf n => exact Nat.le_refl _
  | un n a ha => simp only [Tm.dep, Tm.size]; omega
  | bi n a b ha hb => simp only [Tm.dep, Tm.size]; omega
  | tr n a b c ha hb hc => simp only [Tm.dep, Tm.size]; omega
theorem At.len : ∀ {p : List Nat} {t u : Tm}, At t p u → p.length + 1 ≤ t.dep
  | [], t, _, _ => t.dep_pos
  | i :: p, t, u, ⟨k, hk, h⟩ => by
    have := At.len h
    have := Tm.kid_dep (List.mem_of_getElem? hk)
    rw [List.length_cons]
    omega
def setKid : Tm → Nat → Tm → Tm
  | .lf n, _, _ => .lf n
  | .un n a, i, k => if i = 0 then .un n k else .un n a
  | .bi n a b, i, k => if i = 0 then .bi n k b else if i = 1 then .bi n a k else .bi n a b
  | .tr n a b c, i, k => if i = 0 then .tr n k b c else if i = 1 then .tr n a k c else if i = 2 then .tr n a b k else .tr n a b c
theorem setKid_nam (t : Tm) (i : Nat) (k : Tm) : (setKid t i k).nam = t.nam := by
  cases t <;> simp only [setKid] <;> (repeat' split) <;> rfl
theorem setKid_kids {t : Tm} {i : Nat} {k : Tm} (h : i < t.kids.length) : (setKid t i k).kids = t.kids.set i k := by
  cases t with
  | lf n => exact absurd h (Nat.not_lt_zero _)
  | un n a =>
    have : i = 0 := by have : i < 1 := h; omega
    subst this
    rfl
  | bi n a b =>
    have : i = 0 ∨ i = 1 := by have : i < 2 := h; omega
    rcases this with rfl | rfl <;> rfl
  | tr n a b c =>
    have : i = 0 ∨ i = 1 ∨ i = 2 := by have : i < 3 := h; omega
    rcases this with rfl | rfl | rfl <;> rfl
def putT : Tm → List Nat → Tm → Tm
  | _, [], w => w
  | t, i :: p, w => match t.kids[i]? with
    | some k => setKid t i (putT k p w)
    | none => t
def PathV (p : List Nat) : List V := p.map fun (i : Nat) => V.int (i : Int)
def spPaths (n : Nat) : Sp := fun vs H Q _ => ∃ (v : V) (t : Tm), vs = [v] ∧ TmAt H t v ∧ t.dep ≤ n ∧ t.size ≤ 1000 ∧
  ∀ H' q (rs : List Addr), Kp H H' [] → H' q = some (.tup (rs.map V.ref)) → rs.length = t.size → (∀ r ∈ rs, ∃ p u, H' r = some (.tup (PathV p)) ∧ At t p u) → Q (.ref q) H'
def spAt : Sp := fun vs H Q _ => ∃ (v : V) (t u : Tm) (q : Addr) (p : List Nat), vs = [v, .ref q] ∧ TmAt H t v ∧ H q = some (.tup (PathV p)) ∧ At t p u ∧ ∀ H' x, Kp H H' [] → TmAt H' u x → Q x H'
def spPut (n : Nat) : Sp := fun vs H Q _ => ∃ (v x : V) (t u y : Tm) (q : Addr) (p : List Nat), vs = [v, .ref q, x] ∧ TmAt H t v ∧ H q = some (.tup (PathV p)) ∧ p.length < n ∧ At t p u ∧ TmAt H y x ∧ ∀ H' z, Kp H H' [] → TmAt H' (putT t p y) z → Q z H'
/-- the paths found, at the places rs -/
def PathsAt (H : Hp) (t : Tm) (rs : List Addr) : Prop := ∀ r ∈ rs, ∃ p u, H r = some (.tup (PathV p)) ∧ At t p u
theorem PathsAt.kp {H H' : Hp} {M : List Addr} {t : Tm} {rs : List Addr} (h : PathsAt H t rs) (k : Kp H H' M) (n : ∀ m ∈ M, ∀ xs, H m ≠ some (.tup xs)) : PathsAt H' t rs := fun r hr => by
  obtain ⟨p, u, e, a⟩ := h r hr
  exact ⟨p, u, k.tup e fun m => n _ m _ e, a⟩
section
variable {P : Program} {w : World} {K : PySem.W.Frag} {mg : Str → Option Value} {base : Heap}
theorem sc_paths_of : FnScope ["term", "found", "place", "one", "path"] ["term"] (defScope s_paths_of) := ⟨rfl, rfl, rfl, by decide +kernel, rfl, by decide +kernel, by decide +kernel⟩
theorem ok_paths_step {f : Addr} {fd : FuncData} (F_paths_of : Fun K "paths_of" "paths_of" s_paths_of f fd) (T : Txt0 mg) (b_paths_of : Binds K fd ["term"] []) (g_paths_of : mg "paths_of" = some (.ref f)) {n : Nat}
    (G_paths_of : FnOk P w K mg base CX0 n f fd ["term"] (spPaths n)) : FnOk P w K mg base CX0 (n + 1) f fd ["term"] (spPaths (n + 1)) := by
  refine F_paths_of.ok sc_paths_of (fun vs H Q E h => ?_) (fun cdv A outer s H vs Q E hr h => ?_)
  · obtain ⟨v, t, rfl, _⟩ := h
    rfl
  obtain ⟨v, t, rfl, hT, hd, hz, q⟩ := h
  have nd := sc_paths_of.nd
  refine ⟨_, (pss_cons (ps_set (i := 1) nd rfl (.inl rfl) (pe_lst (pa_cons (pe_tup pa_nil) pa_nil)))
    (pss_cons (ps_for PassesOwn.never rfl (GN.pi_enumT (by rfl) T.B.enumerate (pa_cons (pe_slice sl_tupA (pv 0) (po_some pe_int) po_none) pa_nil)) (pg_tup rfl (pgs_cons (pg_name (i := 2) nd rfl (.inr rfl)) (pgs_cons (pg_name (i := 3) nd rfl (.inl rfl)) pgs_nil))) 
      (pss_one (ps_expr (pe_bm PySem.F.plainAttrs_list PySem.F.slot_list_extend PySem.F.type_list_extend mt_extend (pv 1) (pa_cons (pe_lc (own := [("path", 4)]) (g := gName 4) (tt := tYes) rfl nd (pi_tup (pe_call G_paths_of hr (by rfl) g_paths_of F_paths_of.kp b_paths_of .nil pass0 (pa_cons (pv 3) pa_nil))) (blkOk_by (N := ["term", "found", "place", "one", "path"]) (sc := defScope s_paths_of) (by decide +kernel)) (fun _ _ _ _ _ => (pg_name (i := 4) nd rfl (.inl rfl))) (fun _ _ _ _ _ => pts_nil) (fun _ _ _ _ _ => (pe_tup (pa_cons (pv 2) (GN.pa_starK K (pv 4) pa_nil))))) pa_nil)))))
    (pss_one (ps_ret (pe_callTy call_tuple_of (by rfl) T.B.tuple (by decide +kernel) (pa_cons (pv 1) pa_nil)))))), ?_⟩
  obtain ⟨p, xs, rfl, hp, hk⟩ := hT.out
  have ek : xs.length = t.kids.length := (Paired.len hk).symm
  have es := t.size_eq
  refine ⟨Nat.zero_le _, fun r0 hr0 => ?_⟩
  have k1 : Kp H (upd H r0 (.tup [])) [] := Kp.new hr0
  have h01 : upd H r0 (.tup []) r0 = some (.tup (PathV [])) := upd_same
  generalize upd H r0 (.tup []) = H1 at k1 h01 ⊢
  refine ⟨(by show 1 ≤ sizeLine; decide), fun L hL => ?_⟩
  have k2 : Kp H (upd H1 L (.lst ([r0].map V.ref))) [] := k1.then (Kp.new hL)
  have h02 := (Kp.new (o := .lst ([r0].map V.ref)) hL).tup0 h01
  have hL2 : upd H1 L (.lst ([r0].map V.ref)) L = some (.lst ([r0].map V.ref)) := upd_same
  have hLH : H L = none := k1.free0 hL
  show tSeq _ _ _ _ (upd H1 L (.lst ([r0].map V.ref)))
  generalize upd H1 L (.lst ([r0].map V.ref)) = H2 at k2 h02 hL2 ⊢
  refine ⟨_, rfl, _, rfl, sl_tail (SqT.of (k2.tup0 hp)) fun qa hqa => ?_⟩
  have k3 : Kp H (upd H2 qa (.tup xs)) [] := k2.then (Kp.new hqa)
  have h03 := (Kp.new (o := .tup xs) hqa).tup0 h02
  have hL3 := (Kp.new (o := .tup xs) hqa).lst0 hL2
  have hq3 : upd H2 qa (.tup xs) qa = some (.tup xs) := upd_same
  generalize upd H2 qa (.tup xs) = H3 at k3 h03 hL3 hq3 ⊢
  have hk3 := kids_kp k3 hk
  have qL : qa ≠ L := nw hL2 hqa
  have pL : p ≠ L := (nw hp hLH).symm
  have notL : ∀ {G : Hp}, G L = some (.lst ([r0].map V.ref)) → True := fun _ => trivial
  refine ⟨qa, _, rfl, SqT.of hq3, for_it GN.walk_enumT (fun i σ G => ∃ (u2 u3 u4 : Option V) (rs : List Addr), σ = [some (.ref p), some (.ref L), u2, u3, u4] ∧ Kp H3 G [L] ∧ G L = some (.lst (rs.map V.ref)) ∧ rs.length = 1 + sizes (t.kids.take i) ∧ PathsAt G t rs)
    ⟨none, none, none, [r0], rfl, (Kp.refl H3).up (fun _ h => nomatch h) (fun m hm ps e => by rw [List.mem_singleton.mp hm, hL3] at e; cases e), hL3, by rw [List.take_zero]; rfl, fun r hr => by rw [List.mem_singleton.mp hr]; exact ⟨[], t, h03, rfl⟩⟩
    (fun i σ G _ ⟨_, _, _, _, _, k4, _⟩ => SqT.of (k4.tup hq3 (nm1 qL))) ?_ ?_⟩
  · rintro i x σ G G' hi ⟨u2, u3, u4, rs, rfl, k4, hLG, hlen, hPA⟩ ⟨T0, _, y, rfl, hT0, rfl, ei, hy⟩
    cases ei
    have hiK : i < t.kids.length := by rw [← ek]; exact hi
    obtain ⟨kd, hkd⟩ : ∃ kd, t.kids[i]? = some kd := ⟨_, List.getElem?_eq_getElem hiK⟩
    obtain ⟨y', hy', tk⟩ := Paired.get hk3 i kd hkd
    have hy : xs[i]? = some y := hy
    rw [hy] at hy'
    cases hy'
    have eT := sizes_take hkd
    have lT := sizes_le t.kids (i + 1)
    have dk := Tm.kid_dep (List.mem_of_getElem? hkd)
    have nt3 : ∀ m ∈ [L], ∀ xs, H3 m ≠ some (.tup xs) := fun m hm xs e => by rw [List.mem_singleton.mp hm, hL3] at e; cases e
    have tkG : TmAt G kd y := TmAt.kp k4 nt3 kd tk
    have k5 : Kp G (upd G T0 (.tup [.int (i : Nat), y])) [] := Kp.new hT0
    refine ⟨T0, _, rfl, SqT.of upd_same, rfl, _, _, rfl, _, _, rfl, rfl, ?_⟩
    have tk5 := tkG.kp0 k5
    have hL5 := k5.lst0 hLG
    have hPA5 := hPA.kp k5 fun _ h => nomatch h
    generalize upd G T0 (.tup [.int (i : Nat), y]) = G5 at k5 tk5 hL5 hPA5 ⊢
    refine ⟨_, rfl, .inl ⟨rfl, _, SqL.of hL5⟩, _, rfl, y, kd, rfl, tk5, by omega, by omega, fun H6 q6 rs6 k6 h6 l6 a6 => ⟨q6, rfl, ⟨_, SqT.of h6⟩, fun D hD => ?_⟩⟩
    have LD : L ≠ D := (nw (k6.lst0 hL5) hD).symm
    refine lc_tup (K := K) (a := q6) (xs := rs6.map V.ref) (fun j G => Kp H6 G [] ∧ ∃ ws : List Addr, G D = some (.lst (ws.map V.ref)) ∧ ws.length = j ∧ PathsAt G t ws) ⟨Kp.new hD, [], upd_same, rfl, fun _ h => nomatch h⟩ (fun j G _ h => SqT.of (h.1.tup0 h6)) (fun j x G7 hx ⟨k7, ws, hD7, lw, aw⟩ => ?_) (fun G7 ⟨k7, ws, hD7, lw, aw⟩ => ?_)
    · rw [List.getElem?_map] at hx
      cases hm : rs6[j]? with
      | none => rw [hm] at hx; cases hx
      | some r =>
        rw [hm] at hx
        cases hx
        have hj : j < rs6.length := (List.getElem?_eq_some_iff.mp hm).1
        obtain ⟨pp, u, hr6, ha⟩ := a6 r (List.mem_of_getElem? hm)
        have lp := At.len ha
        have dl := kd.dep_le
        refine ⟨rfl, _, rfl, _, rfl, r, PathV pp, rfl, .inl (SqT.of (k7.tup0 hr6)), ?_, fun T7 hT7 => ?_⟩
        · show ([V.int (i : Nat)] ++ (PathV pp ++ [])).length ≤ sizeLine
          rw [List.append_nil, List.length_append]
          unfold PathV
          rw [List.length_map]
          exact Nat.le_trans (show [V.int (i : Nat)].length + pp.length ≤ 1001 by simp only [List.length_singleton]; omega) (by decide)
        have k8 : Kp G7 (upd G7 T7 (.tup (V.int (i : Nat) :: (PathV pp ++ [])))) [] := Kp.new hT7
        have h8 : upd G7 T7 (.tup (V.int (i : Nat) :: (PathV pp ++ []))) T7 = some (.tup (PathV (i :: pp))) := by rw [upd_same, List.append_nil]; rfl
        have hD8 := k8.lst0 hD7
        have TD : T7 ≠ D := nw hD7 hT7
        show ∃ acc, upd G7 T7 (.tup (V.int (i : Nat) :: (PathV pp ++ []))) D = some (.lst acc) ∧ _
        generalize upd G7 T7 (.tup (V.int (i : Nat) :: (PathV pp ++ []))) = G8 at k8 h8 hD8 ⊢
        refine ⟨_, hD8, ?_, (k7.then k8).fresh (Kp.wl hD8) fun y hy => by rw [List.mem_singleton.mp hy]; exact hD, ws ++ [T7], ?_, ?_, ?_⟩
        · rw [List.length_map, lw]
          exact Nat.lt_of_lt_of_le hj (Nat.le_trans (show rs6.length ≤ 1000 by rw [l6]; omega) (by decide))
        · rw [upd_same, List.map_append]
          rfl
        · rw [List.length_append, lw]
          rfl
        · have nD : ∀ m ∈ [D], ∀ xs, G8 m ≠ some (.tup xs) := fun m hm xs e => by rw [List.mem_singleton.mp hm, hD8] at e; cases e
          have aw8 := (aw.kp k8 fun _ h => nomatch h).kp (Kp.wl hD8 (o := .lst (ws.map V.ref ++ [.ref T7]))) nD
          intro r' hr'
          rcases List.mem_append.mp hr' with h | h
          · exact aw8 r' h
          · rw [List.mem_singleton.mp h]
            refine ⟨i :: pp, u, ?_, kd, hkd, ha⟩
            rw [upd_ne TD]
            exact h8
    · rw [List.length_map] at lw
      have k67 := k6.then k7
      have hL7 := k67.lst0 hL5
      have hPA7 := hPA5.kp k67 fun _ h => nomatch h
      have lz : rs.length + ws.length = 1 + sizes (t.kids.take (i + 1)) := by rw [lw, l6, hlen, eT]; omega
      refine ⟨L, D, _, _, rfl, rfl, hL7, hD7, ?_, ?_⟩
      · rw [List.length_map, List.length_map, lz]
        exact Nat.le_trans (show 1 + sizes (t.kids.take (i + 1)) ≤ 1001 by omega) (by decide)
      have nL : ∀ m ∈ [L], ∀ xs, G7 m ≠ some (.tup xs) := fun m hm xs e => by rw [List.mem_singleton.mp hm, hL7] at e; cases e
      have kw : Kp G7 (upd G7 L (.lst (rs.map V.ref ++ ws.map V.ref))) [L] := Kp.wl hL7
      refine ⟨some (.int (i : Nat)), some y, u4, rs ++ ws, rfl, ?_, ?_, ?_, ?_⟩
      · exact (k4.then (k5.then k67)).both kw
      · rw [upd_same, List.map_append]
      · rw [List.length_append, lz]
      · intro r' hr'
        rcases List.mem_append.mp hr' with h | h
        · exact (hPA7.kp kw nL) r' h
        · exact (aw.kp kw nL) r' h
  · rintro σ G ⟨u2, u3, u4, rs, rfl, k4, hLG, hlen, hPA⟩
    refine ⟨_, rfl, L, _, rfl, .inl ⟨SqL.of hLG, fun q8 hq8 => ?_⟩⟩
    have k8 : Kp G (upd G q8 (.tup (rs.map V.ref))) [] := Kp.new hq8
    refine q _ q8 rs ?_ upd_same ?_ ?_
    · exact (k3.fresh k4 fun m hm => by rw [List.mem_singleton.mp hm]; exact hLH).then k8
    · rw [hlen, ek, List.take_length, es]
      omega
    · exact hPA.kp k8 fun _ h => nomatch h
theorem ok_paths {f : Addr} {fd : FuncData} (F_paths_of : Fun K "paths_of" "paths_of" s_paths_of f fd) (T : Txt0 mg) (b_paths_of : Binds K fd ["term"] []) (g_paths_of : mg "paths_of" = some (.ref f)) : ∀ n, FnOk P w K mg base CX0 n f fd ["term"] (spPaths n)
  | 0 => ok_never fun vs H Q E z => by
    obtain ⟨_, t, _, _, h, _⟩ := z
    have := Tm.dep_pos t
    omega
  | n + 1 => ok_paths_step F_paths_of T b_paths_of g_paths_of (ok_paths F_paths_of T b_paths_of g_paths_of n)
end
end K08

set_option Elab.async false
set_option maxRecDepth 100000
set_option maxHeartbeats 4000000
set_option pp.maxSteps 1500
namespace K08
open PySem L2
theorem pset {α β : Type} {R : α → β → Prop} {k : α} {z : β} (hz : R k z) : ∀ {ks : List α} {ys : List β} {m : Nat}, Paired R ks ys → m < ks.length → Paired R (ks.set m k) (ys.take m ++ z :: ys.drop (m + 1))
  | _, _, _, .nil, h => absurd h (Nat.not_lt_zero _)
  | _, _, 0, .cons _ t, _ => .cons hz t
  | _, _, m + 1, .cons a t, h => .cons a (pset hz t (Nat.lt_of_succ_lt_succ h))
theorem sl_head {K : PySem.W.Frag} {H : Hp} {a : Addr} {xs zs : List V} {i : Int} {Q : VK} (m : Nat) (e : i = (m : Int)) (ha : SqT K H a xs) (hm : m < xs.length) (ez : xs.take m = zs) (q : ∀ p, H p = none → Q (.ref p) (upd H p (.tup zs))) : rSlA K (.ref a) none (some i) H Q := by
  have eh : HT.sIx xs.length xs.length (some i) = m := by
    rw [e, HT.sIx_nat]
    omega
  refine ⟨a, _, rfl, ha, fun z => ?_, fun _ p hp => ?_⟩
  · rw [eh] at z
    omega
  · have e2 : cutV xs none (some i) = zs := by
      unfold cutV
      rw [eh, HT.sIx_none, List.drop_zero, Nat.sub_zero, ez]
    rw [e2]
    exact q p hp
theorem sl_rest {K : PySem.W.Frag} {σ : L2.St} {H : Hp} {a : Addr} {xs : List V} {i : Int} {Q : VK} (m : Nat) (e : i = (m : Int)) (ha : SqT K H a xs) (h0 : 0 < m) (hm : m ≤ xs.length) {zs : List V} (ez : xs.drop m = zs) (q : ∀ p, H p = none → Q (.ref p) (upd H p (.tup zs))) : tNoPart σ H fun u H3 => rSlA K (.ref a) (some i) u H3 Q := by
  have eh : HT.sIx xs.length 0 (some i) = m := by
    rw [e, HT.sIx_nat]
    omega
  refine ⟨a, _, rfl, ha, fun z => ?_, fun _ p hp => ?_⟩
  · rw [eh] at z
    omega
  · have e2 : cutV xs (some i) none = zs := by
      unfold cutV
      rw [eh, HT.sIx_none, ← ez]
      exact List.take_of_length_le (by rw [List.length_drop]; exact Nat.le_refl _)
    rw [e2]
    exact q p hp
theorem passN {X : Cx} {E : XK} (hs : X.stack = X.env :: X.outer) (hf : X.env.frame = some X.env.locals) (hex : X.ex = []) {E₁ : Value → Shared → Prop}
    (hx : X.xe = fun e s' => wpAny (model X.prog X.w) X.A (leaving X.env e) (fun _ s'' => L2N.CX X.prog X.w X.outer X.H_0 X.s_0 E e s'') E₁ s') : Passes (L2N.CX X.prog X.w) X E := L2N.passes_call (L2N.takes_of hs hf hex hx) fun _ _ _ _ h => h
section
variable {P : Program} {w : World} {K : PySem.W.Frag} {mg : Str → Option Value} {base : Heap}
theorem PathV_at {p : List Nat} {i : Nat} {x : V} (h : (PathV p)[i]? = some x) : ∃ m, p[i]? = some m ∧ x = .int (m : Int) := by
  unfold PathV at h
  rw [List.getElem?_map] at h
  cases e : p[i]? with
  | none => rw [e] at h; cases h
  | some m => rw [e] at h; exact ⟨m, rfl, (Option.some.inj h).symm⟩
theorem in_kids {m l : Nat} (h : m < l) : inR (.int (m : Int)) 0 ((((l + 1 : Nat)) : Int) - 2) = true := by
  show (decide (0 ≤ (m : Int)) && decide ((m : Int) ≤ (((l + 1 : Nat)) : Int) - 2)) = true
  rw [decide_eq_true (by omega), decide_eq_true (by omega)]
  rfl
theorem sc_at : FnScope ["term", "path", "here", "place"] ["term", "path"] (defScope s_at) := ⟨rfl, rfl, rfl, by decide +kernel, rfl, by decide +kernel, by decide +kernel⟩
theorem ok_at {f Cm Cn f1 : Addr} {fd fd1 : FuncData} (F : Fun K "at" "at" s_at f fd) (T : Txt K mg Cm Cn) (G_is_number : FnOk P w K mg base CX0 1 f1 fd1 ["value", "least", "most"] spNum) (F_is_number : Fun K "is_number" "is_number" s_is_number f1 fd1) (b_is_number : Binds K fd1 ["value", "least", "most"] []) (g_is_number : mg "is_number" = some (.ref f1)) :
    FnOk P w K mg base (L2N.CX P w) 2 f fd ["term", "path"] spAt := by
  refine okR F sc_at (fun vs H Q E h => ?_) (fun cdv A outer s H vs Q E hr1 h => ?_)
  · obtain ⟨v, t, u, q, p, rfl, _⟩ := h
    rfl
  obtain ⟨v, t, u, q, p, rfl, hT, hq, hA, go⟩ := h
  have nd := sc_at.nd
  refine ⟨_, (pss_cons (ps_set (i := 2) nd rfl (.inl rfl) (pv 0))
    (pss_cons (ps_for PassesOwn.leaving rfl (pi_tup (pv 1)) (pg_name (i := 3) nd rfl (.inl rfl)) 
      (pss_cons (ps_if (pt_not (pt_val (pe_call G_is_number hr1 (by rfl) g_is_number F_is_number.kp b_is_number .nil pass0 (pa_cons (pv 3) (pa_cons pe_int (pa_cons (pe_op op_sub (pe_callB call_len_seq (by rfl) T.B.len (by decide +kernel) (pa_cons (pv 2) pa_nil)) pe_int) pa_nil)))))) 
        (pss_one (L2N.ps_raise rfl (L2N.takes_of rfl rfl rfl rfl) (L2N.pmk_own PySem.F.excBase_ValueError T.qN T.gN T.kN (raises_own T.bN T.tN) (by exact rfl)))) pss_nil)
      (pss_one (ps_set (i := 2) nd rfl (.inl rfl) (pe_ix ix_tup (pv 2) (pe_op op_add (pv 3) pe_int) (fun _ _ => rfl))))))
    (pss_one (ps_ret (pv 2))))), ?_⟩
  refine ⟨_, rfl, _, rfl, q, rfl, ⟨_, SqT.of hq⟩, for_tup (K := K) (a := q) (xs := PathV p) (fun i σ G => G = H ∧ ∃ (u3 : Option V) (x : V) (ti : Tm), σ = [some v, some (.ref q), some x, u3] ∧ TmAt H ti x ∧ At ti (p.drop i) u)
    ⟨rfl, none, v, t, rfl, hT, hA⟩ (fun i σ G _ h => by rw [h.1]; exact SqT.of hq) (fun i x σ G hx h => ?_) (fun σ G h => ?_)⟩
  · obtain ⟨rfl, u3, y, ti, rfl, hy, ha⟩ := h
    obtain ⟨m, hm, rfl⟩ := PathV_at hx
    have ed : p.drop i = m :: p.drop (i + 1) := by
      have hi := (List.getElem?_eq_some_iff.mp hm).1
      rw [List.drop_eq_getElem_cons hi, (List.getElem?_eq_some_iff.mp hm).2]
    rw [ed] at ha
    obtain ⟨kd, hkd, ha⟩ := ha
    obtain ⟨a, ys, rfl, hp, hk⟩ := hy.out
    have ml : m < ti.kids.length := (List.getElem?_eq_some_iff.mp hkd).1
    obtain ⟨z, hz, tz⟩ := Paired.get hk m kd hkd
    have ey : (((V.str ti.nam :: ys).length : Nat) : Int) - 2 = ((ti.kids.length + 1 : Nat) : Int) - 2 := by rw [List.length_cons, Paired.len hk]
    refine ⟨_, rfl, _, rfl, a, _, rfl, .inr (SqT.of hp), _, _, rfl, rfl, .int (m : Int), 0, (((V.str ti.nam :: ys).length : Nat) : Int) - 2, rfl, .inl ⟨_, rfl⟩, true, congrArg V.bl (by rw [ey]; exact in_kids ml), iteF ?_⟩
    exact ⟨_, rfl, _, rfl, _, _, rfl, rfl, a, _, _, _, rfl, rfl, SqT.of hp, at_of (j := m + 1) (by omega) hz, rfl, _, z, kd, rfl, tz, ha⟩
  · obtain ⟨rfl, u3, y, ti, rfl, hy, ha⟩ := h
    have e : p.drop (PathV p).length = [] := by
      unfold PathV
      rw [List.length_map, List.drop_length]
    rw [e] at ha
    have ha : u = ti := ha
    subst ha
    exact ⟨_, rfl, go _ y (Kp.refl _) hy⟩
theorem sc_put : FnScope ["term", "path", "other", "place"] ["term", "path", "other"] (defScope s_put) := ⟨rfl, rfl, rfl, by decide +kernel, rfl, by decide +kernel, by decide +kernel⟩
theorem ok_put_step {f Cm Cn f1 : Addr} {fd fd1 : FuncData} (F_put : Fun K "put" "put" s_put f fd) (T : Txt K mg Cm Cn) (b_put : Binds K fd ["term", "path", "other"] []) (g_put : mg "put" = some (.ref f))
    (G_is_number : FnOk P w K mg base CX0 1 f1 fd1 ["value", "least", "most"] spNum) (F_is_number : Fun K "is_number" "is_number" s_is_number f1 fd1) (b_is_number : Binds K fd1 ["value", "least", "most"] []) (g_is_number : mg "is_number" = some (.ref f1)) {n : Nat}
    (G_put : FnOk P w K mg base (L2N.CX P w) (1 + n) f fd ["term", "path", "other"] (spPut n)) : FnOk P w K mg base (L2N.CX P w) (1 + n + 1) f fd ["term", "path", "other"] (spPut (n + 1)) := by
  refine okR F_put sc_put (fun vs H Q E h => ?_) (fun cdv A outer s H vs Q E hr h => ?_)
  · obtain ⟨v, x, t, u, y, q, p, rfl, _⟩ := h
    rfl
  obtain ⟨v, x, t, u, y, q, p, rfl, hT, hq, hl, hA, hx, go⟩ := h
  have nd := sc_put.nd
  have hr1 := hr.mono (by omega : 1 ≤ 1 + n)
  refine ⟨_, (pss_cons (ps_if (pt_cmpR op_eq (pe_callB call_len_seq (by rfl) T.B.len (by decide +kernel) (pa_cons (pv 1) pa_nil)) pe_int (nomark _)) 
      (pss_one (ps_ret (pv 2))) pss_nil)
    (pss_cons (ps_if (pt_not (pt_val (pe_call G_is_number hr1 (by rfl) g_is_number F_is_number.kp b_is_number .nil pass0 (pa_cons (pe_ix ix_tup (pv 1) pe_int (fun _ _ => rfl)) (pa_cons pe_int (pa_cons (pe_op op_sub (pe_callB call_len_seq (by rfl) T.B.len (by decide +kernel) (pa_cons (pv 0) pa_nil)) pe_int) pa_nil)))))) 
      (pss_one (L2N.ps_raise rfl (L2N.takes_of rfl rfl rfl rfl) (L2N.pmk_own PySem.F.excBase_ValueError T.qN T.gN T.kN (raises_own T.bN T.tN) (by exact rfl)))) pss_nil)
    (pss_cons (ps_set (i := 3) nd rfl (.inl rfl) (pe_op op_add (pe_ix ix_tup (pv 1) pe_int (fun _ _ => rfl)) pe_int))
    (pss_one (ps_ret (pe_tup (StX.pa_star (pe_slice sl_tupA (pv 0) po_none (po_some (pv 3))) (pa_cons (pe_call G_put hr (by rfl) g_put F_put.kp b_put .nil (passN rfl rfl rfl rfl) (pa_cons (pe_ix ix_tup (pv 0) (pv 3) (fun _ _ => rfl)) (pa_cons (pe_slice sl_tupA (pv 1) (po_some pe_int) po_none) (pa_cons (pv 2) pa_nil)))) (StX.pa_star (pe_slice sl_tupA (pv 0) (po_some (pe_op op_add (pv 3) pe_int)) po_none) pa_nil))))))))), ?_⟩
  cases p with
  | nil =>
    refine ⟨_, rfl, q, _, rfl, .inr (SqT.of hq), rfl, true, rfl, iteT ⟨_, rfl, go H x (Kp.refl H) hx⟩⟩
  | cons m p =>
    obtain ⟨kd, hkd, ha⟩ := hA
    obtain ⟨a, ys, rfl, hp, hk⟩ := hT.out
    have ml : m < t.kids.length := (List.getElem?_eq_some_iff.mp hkd).1
    obtain ⟨z, hz, tz⟩ := Paired.get hk m kd hkd
    have ey : (((V.str t.nam :: ys).length : Nat) : Int) - 2 = ((t.kids.length + 1 : Nat) : Int) - 2 := by rw [List.length_cons, Paired.len hk]
    refine ⟨_, rfl, q, _, rfl, .inr (SqT.of hq), rfl, false, congrArg V.bl (decide_eq_false fun z => by have := V.int.inj z; unfold PathV at this; rw [List.length_map, List.length_cons] at this; omega), iteF ?_⟩
    refine ⟨_, rfl, q, _, _, _, rfl, rfl, SqT.of hq, at_of (j := 0) rfl rfl, _, rfl, a, _, rfl, .inr (SqT.of hp), _, _, rfl, rfl, .int (m : Int), 0, (((V.str t.nam :: ys).length : Nat) : Int) - 2, rfl, .inl ⟨_, rfl⟩, true, congrArg V.bl (by rw [ey]; exact in_kids ml), iteF ?_⟩
    refine ⟨_, rfl, q, _, _, _, rfl, rfl, SqT.of hq, at_of (j := 0) rfl rfl, _, _, rfl, rfl, ?_⟩
    refine ⟨_, rfl, _, rfl, _, rfl, sl_head (m + 1) rfl (SqT.of hp) (by rw [List.length_cons, ← Paired.len hk]; omega) (zs := .str t.nam :: ys.take m) rfl fun p1 hp1 => ?_⟩
    have k1 : Kp H (upd H p1 (.tup (.str t.nam :: ys.take m))) [] := Kp.new hp1
    have h1 : upd H p1 (.tup (.str t.nam :: ys.take m)) p1 = some (.tup (.str t.nam :: ys.take m)) := upd_same
    generalize upd H p1 (.tup (.str t.nam :: ys.take m)) = H1 at k1 h1 ⊢
    have hpa := k1.tup0 hp
    refine ⟨p1, _, rfl, .inl (SqT.of h1), _, rfl, _, rfl, a, _, _, _, rfl, rfl, SqT.of hpa, at_of (j := m + 1) (by omega) hz, _, rfl, _, rfl, sl_tail (SqT.of (k1.tup0 hq)) fun q1 hq1 => ?_⟩
    have k2 : Kp H (upd H1 q1 (.tup (PathV p))) [] := k1.then (Kp.new hq1)
    have h2 : upd H1 q1 (.tup (PathV p)) q1 = some (.tup (PathV p)) := upd_same
    refine ⟨_, rfl, z, x, kd, u, y, q1, p, rfl, tz.kp0 k2, h2, by rw [List.length_cons] at hl; omega, ha, hx.kp0 k2, fun H3 z' k3 tz' => ?_⟩
    have k23 := k2.then k3
    have hp3 := k23.tup0 hp
    refine ⟨_, rfl, _, rfl, _, _, rfl, rfl, _, rfl, sl_rest (m + 2) (by omega) (SqT.of hp3) (by omega) (by rw [List.length_cons, ← Paired.len hk]; omega) (zs := ys.drop (m + 1)) rfl fun p4 hp4 => ?_⟩
    have k4 := k23.then (Kp.new (o := .tup (ys.drop (m + 1))) hp4)
    have tz4 := tz'.kp0 (Kp.new (o := .tup (ys.drop (m + 1))) hp4)
    have ly : ys.length ≤ 3 := by rw [← Paired.len hk]; exact t.kids_le
    refine ⟨p4, _, rfl, .inl (SqT.of upd_same), ?_, fun w hw => ?_⟩
    · show (V.str t.nam :: ys.take m ++ (z' :: (ys.drop (m + 1) ++ []))).length ≤ sizeLine
      simp only [List.length_append, List.length_cons, List.length_take, List.length_drop, List.append_nil]
      exact Nat.le_trans (show _ ≤ 100 by omega) (by decide)
    have k5 := Kp.new (o := .tup (V.str t.nam :: ys.take m ++ (z' :: (ys.drop (m + 1) ++ [])))) hw
    refine go _ _ (k4.then k5) ?_
    have e1 : putT t (m :: p) y = setKid t m (putT kd p y) := by
      show (match t.kids[m]? with | some k => setKid t m (putT k p y) | none => t) = _
      rw [hkd]
    rw [e1]
    refine TmAt.mk (xs := ys.take m ++ z' :: ys.drop (m + 1)) ?_ ?_
    · rw [setKid_nam, upd_same, List.append_nil]
      rfl
    · rw [setKid_kids ml]
      exact pset (tz4.kp0 k5) (kids_kp (k4.then k5) hk) ml
theorem ok_put {f Cm Cn f1 : Addr} {fd fd1 : FuncData} (F_put : Fun K "put" "put" s_put f fd) (T : Txt K mg Cm Cn) (b_put : Binds K fd ["term", "path", "other"] []) (g_put : mg "put" = some (.ref f))
    (G_is_number : FnOk P w K mg base CX0 1 f1 fd1 ["value", "least", "most"] spNum) (F_is_number : Fun K "is_number" "is_number" s_is_number f1 fd1) (b_is_number : Binds K fd1 ["value", "least", "most"] []) (g_is_number : mg "is_number" = some (.ref f1)) :
    ∀ n, FnOk P w K mg base (L2N.CX P w) (1 + n) f fd ["term", "path", "other"] (spPut n)
  | 0 => ok_never fun vs H Q E ⟨_, _, _, _, _, _, _, _, _, _, h, _⟩ => Nat.not_lt_zero _ h
  | n + 1 => ok_put_step F_put T b_put g_put G_is_number F_is_number b_is_number g_is_number (ok_put F_put T b_put g_put G_is_number F_is_number b_is_number g_is_number n)
end
end K08

set_option Elab.async false
set_option maxRecDepth 100000
set_option maxHeartbeats 8000000
set_option pp.maxSteps 1500
namespace K08
open PySem L2
theorem pairedAt {α β : Type} {R : α → β → Prop} : ∀ {xs : List α} {ys : List β} {i : Nat} {x : α}, Paired R xs ys → xs[i]? = some x → ∃ y, ys[i]? = some y ∧ R x y := fun h e => Paired.get h _ _ e
/-- alike in kind and worth, n deep: numbers, None, lists, tuples -/
def Alk (H : Hp) : Nat → V → V → Prop
  | 0, x, y => (∃ i, x = .int i ∧ y = .int i) ∨ (x = .non ∧ y = .non) ∨ (∃ b, x = .bl b ∧ y = .bl b) ∨ (∃ s, x = .str s ∧ y = .str s)
  | n + 1, x, y => Alk H n x y ∨ (∃ a b xs ys, x = .ref a ∧ y = .ref b ∧ H a = some (.lst xs) ∧ H b = some (.lst ys) ∧ Paired (Alk H n) xs ys ∧ ys.length ≤ 1000) ∨
    ∃ a b xs ys, x = .ref a ∧ y = .ref b ∧ H a = some (.tup xs) ∧ H b = some (.tup ys) ∧ Paired (Alk H n) xs ys ∧ ys.length ≤ 1000
theorem Alk.kp {H H' : Hp} (k : Kp H H' []) : ∀ {n : Nat} {x y : V}, Alk H n x y → Alk H' n x y
  | 0, _, _, h => h
  | n + 1, _, _, .inl h => .inl (Alk.kp k h)
  | n + 1, _, _, .inr (.inl ⟨a, b, xs, ys, e1, e2, h1, h2, p, l⟩) => .inr (.inl ⟨a, b, xs, ys, e1, e2, k.lst0 h1, k.lst0 h2, mapR (fun _ _ z => Alk.kp k z) p, l⟩)
  | n + 1, _, _, .inr (.inr ⟨a, b, xs, ys, e1, e2, h1, h2, p, l⟩) => .inr (.inr ⟨a, b, xs, ys, e1, e2, k.tup0 h1, k.tup0 h2, mapR (fun _ _ z => Alk.kp k z) p, l⟩)
def spAlike (n : Nat) : Sp := fun vs H Q _ => ∃ (x y : V), vs = [x, y] ∧ Alk H n x y ∧ ∀ H', Kp H H' [] → Q (.bl true) H'
section
variable {P : Program} {w : World} {K : PySem.W.Frag} {mg : Str → Option Value} {base : Heap}
theorem sc_alike : FnScope ["found", "due", "k"] ["found", "due"] (defScope s__law_alike) := ⟨rfl, rfl, rfl, by decide +kernel, rfl, by decide +kernel, by decide +kernel⟩
/-- what stands behind the first if -/
def Atom (x y : V) : Prop := (∃ i, x = .int i ∧ y = .int i) ∨ (x = .non ∧ y = .non) ∨ (∃ b, x = .bl b ∧ y = .bl b) ∨ (∃ s, x = .str s ∧ y = .str s)
theorem ok_alike_step {f : Addr} {fd : FuncData} (F : Fun K "_law_alike" "_law_alike" s__law_alike f fd) (T : Txt0 mg) (b : Binds K fd ["found", "due"] []) (g : mg "_law_alike" = some (.ref f)) {k : Nat} {sp0 : Sp} (G : FnOk P w K mg base CX0 k f fd ["found", "due"] sp0)
    {Ak : Hp → V → V → Prop} (h0 : ∀ H x y, Ak H x y → ∀ Q E, (∀ H', Kp H H' [] → Q (.bl true) H') → sp0 [x, y] H Q E) (hk : ∀ H H' x y, Kp H H' [] → Ak H x y → Ak H' x y) :
    FnOk P w K mg base CX0 (k + 1) f fd ["found", "due"] (fun vs H Q _ => ∃ (x y : V), vs = [x, y] ∧ (Atom x y ∨ (∃ a b xs ys, x = .ref a ∧ y = .ref b ∧ H a = some (.lst xs) ∧ H b = some (.lst ys) ∧ Paired (Ak H) xs ys ∧ ys.length ≤ 1000) ∨
      ∃ a b xs ys, x = .ref a ∧ y = .ref b ∧ H a = some (.tup xs) ∧ H b = some (.tup ys) ∧ Paired (Ak H) xs ys ∧ ys.length ≤ 1000) ∧ ∀ H', Kp H H' [] → Q (.bl true) H') := by
  refine F.ok sc_alike (fun vs H Q E h => ?_) (fun cdv A outer s H vs Q E hr h => ?_)
  · obtain ⟨x, y, rfl, _⟩ := h
    rfl
  obtain ⟨x, y, rfl, hA, go⟩ := h
  have nd := sc_alike.nd
  have hv := hr.units
  refine ⟨_, (pss_cons (ps_if (PW.pt (pw_or (pt_val (pe_callB call_isi (by rfl) T.B.isinstance (by decide +kernel) (pa_cons (pv 1) (pa_cons (pe_bltn (v := .ty "list") (by rfl) T.B.list (by decide +kernel) rfl) pa_nil)))) (pw_or1 (pt_val (pe_callB call_isi (by rfl) T.B.isinstance (by decide +kernel) (pa_cons (pv 1) (pa_cons (pe_bltn (v := .ty "tuple") (by rfl) T.B.tuple (by decide +kernel) rfl) pa_nil))))))) 
      (pss_cons (ps_if (PW.pt (pw_or (pt_cmpR op_ne (pe_callB call_isi (by rfl) T.B.isinstance (by decide +kernel) (pa_cons (pv 0) (pa_cons (pe_bltn (v := .ty "list") (by rfl) T.B.list (by decide +kernel) rfl) pa_nil))) (pe_callB call_isi (by rfl) T.B.isinstance (by decide +kernel) (pa_cons (pv 1) (pa_cons (pe_bltn (v := .ty "list") (by rfl) T.B.list (by decide +kernel) rfl) pa_nil))) (nomark _)) (pw_or1 (pt_cmpR op_ne (pe_callB call_isi (by rfl) T.B.isinstance (by decide +kernel) (pa_cons (pv 0) (pa_cons (pe_bltn (v := .ty "tuple") (by rfl) T.B.tuple (by decide +kernel) rfl) pa_nil))) (pe_callB call_isi (by rfl) T.B.isinstance (by decide +kernel) (pa_cons (pv 1) (pa_cons (pe_bltn (v := .ty "tuple") (by rfl) T.B.tuple (by decide +kernel) rfl) pa_nil))) (nomark _))))) 
        (pss_one (ps_ret pe_bl)) pss_nil)
      (pss_one (ps_ret (pe_and (pe_cmpR op_eq (pe_callB call_len_seq (by rfl) T.B.len (by decide +kernel) (pa_cons (pv 0) pa_nil)) (pe_callB call_len_seq (by rfl) T.B.len (by decide +kernel) (pa_cons (pv 1) pa_nil)) (nomark _)) (pe_one (pe_cmpR (op_eqD hv) (pe_lc (own := [("k", 2)]) (g := gName 2) rfl nd (pi_range1 (by rfl) T.B.range (pa_cons (pe_callB call_len_seq (by rfl) T.B.len (by decide +kernel) (pa_cons (pv 1) pa_nil)) pa_nil)) (blkOk_by (N := ["found", "due", "k"]) (sc := defScope s__law_alike) (by decide +kernel)) (fun _ _ _ _ _ => (pg_name (i := 2) nd rfl (.inl rfl))) (fun _ _ _ _ _ => (pts_one (pt_not (pt_val (pe_call G hr (by rfl) g F.kp b .nil pass0 (pa_cons (pe_ix (GK.ixQK K) (pv 0) (pv 2) (fun _ _ => rfl)) (pa_cons (pe_ix (GK.ixQK K) (pv 1) (pv 2) (fun _ _ => rfl)) pa_nil))))))) (fun _ _ _ _ _ => (pv 2))) (pe_lst pa_nil) (nomark _))))))) pss_nil)
    (pss_cons (ps_if (pt_cmpR op_isN (pv 1) pe_non (nomark _)) 
      (pss_one (ps_ret (pe_cmpR op_isN (pv 0) pe_non (nomark _)))) pss_nil)
    (pss_cons (ps_if (PW.pt (pw_or (pt_val (pe_callB call_isi (by rfl) T.B.isinstance (by decide +kernel) (pa_cons (pv 1) (pa_cons (pe_bltn (v := .ty "bool") (by rfl) T.B.bool (by decide +kernel) rfl) pa_nil)))) (pw_or1 (pt_val (pe_callB call_isi (by rfl) T.B.isinstance (by decide +kernel) (pa_cons (pv 0) (pa_cons (pe_bltn (v := .ty "bool") (by rfl) T.B.bool (by decide +kernel) rfl) pa_nil))))))) 
      (pss_one (ps_ret (pe_and (pe_callB call_isi (by rfl) T.B.isinstance (by decide +kernel) (pa_cons (pv 0) (pa_cons (pe_bltn (v := .ty "bool") (by rfl) T.B.bool (by decide +kernel) rfl) pa_nil))) (pe_and (pe_callB call_isi (by rfl) T.B.isinstance (by decide +kernel) (pa_cons (pv 1) (pa_cons (pe_bltn (v := .ty "bool") (by rfl) T.B.bool (by decide +kernel) rfl) pa_nil))) (pe_one (pe_cmpR op_eq (pv 0) (pv 1) (nomark _))))))) pss_nil)
    (pss_cons (ps_if (pt_val (pe_callB call_isi (by rfl) T.B.isinstance (by decide +kernel) (pa_cons (pv 1) (pa_cons (pe_bltn (v := .ty "int") (by rfl) T.B.int (by decide +kernel) rfl) pa_nil)))) 
      (pss_one (ps_ret (pe_and (pe_callB call_isi (by rfl) T.B.isinstance (by decide +kernel) (pa_cons (pv 0) (pa_cons (pe_bltn (v := .ty "int") (by rfl) T.B.int (by decide +kernel) rfl) pa_nil))) (pe_one (pe_cmpR op_eq (pv 0) (pv 1) (nomark _)))))) pss_nil)
    (pss_one (ps_ret (pe_and (pe_callB call_isi (by rfl) T.B.isinstance (by decide +kernel) (pa_cons (pv 0) (pa_cons (pe_bltn (v := .ty "str") (by rfl) T.B.str (by decide +kernel) rfl) pa_nil))) (pe_one (pe_cmpR op_eq (pv 0) (pv 1) (nomark _)))))))))), ?_⟩
  rcases hA with hA | ⟨a, b, xs, ys, rfl, rfl, ha, hb, hp, hl⟩ | ⟨a, b, xs, ys, rfl, rfl, ha, hb, hp, hl⟩
  · rcases hA with ⟨i, rfl, rfl⟩ | ⟨rfl, rfl⟩ | ⟨bv, rfl, rfl⟩ | ⟨sv, rfl, rfl⟩
    · refine ⟨_, rfl, _, .ty "list", _, _, false, rfl, .ty _, .base (.int _), kit_ty (by decide +kernel), false, rfl, ?_⟩
      refine ⟨_, rfl, _, .ty "tuple", _, _, false, rfl, .ty _, .base (.int _), kit_ty (by decide +kernel), false, rfl, ?_⟩
      refine ⟨_, rfl, rfl, _, rfl, ?_⟩
      rw [decide_eq_false (show ¬ V.int i = V.non from fun z => nomatch z)]
      refine ⟨_, rfl, _, .ty "bool", _, _, false, rfl, .ty _, .base (.int _), kit_ty (by decide +kernel), false, rfl, ?_⟩
      refine ⟨_, rfl, _, .ty "bool", _, _, false, rfl, .ty _, .base (.int _), kit_ty (by decide +kernel), false, rfl, ?_⟩
      refine ⟨_, rfl, _, .ty "int", _, _, true, rfl, .ty _, .base (.int _), kit_ty (by decide +kernel), true, rfl, ?_⟩
      refine ⟨_, rfl, _, .ty "int", _, _, true, rfl, .ty _, .base (.int _), kit_ty (by decide +kernel), true, rfl, ?_⟩
      refine ⟨_, rfl, _, rfl, rfl, ?_⟩
      rw [decide_eq_true rfl]
      exact go H (Kp.refl H)
    · refine ⟨_, rfl, _, .ty "list", _, _, false, rfl, .ty _, .base .non, kit_ty (by decide +kernel), false, rfl, ?_⟩
      refine ⟨_, rfl, _, .ty "tuple", _, _, false, rfl, .ty _, .base .non, kit_ty (by decide +kernel), false, rfl, ?_⟩
      refine ⟨_, rfl, rfl, _, rfl, ?_⟩
      rw [decide_eq_true rfl]
      refine ⟨_, rfl, rfl, ?_⟩
      rw [decide_eq_true rfl]
      exact go H (Kp.refl H)
    · refine ⟨_, rfl, _, .ty "list", _, _, false, rfl, .ty _, .base (.bl _), kit_ty (by decide +kernel), false, rfl, ?_⟩
      refine ⟨_, rfl, _, .ty "tuple", _, _, false, rfl, .ty _, .base (.bl _), kit_ty (by decide +kernel), false, rfl, ?_⟩
      refine ⟨_, rfl, rfl, _, rfl, ?_⟩
      rw [decide_eq_false (show ¬ V.bl bv = V.non from fun z => nomatch z)]
      refine ⟨_, rfl, _, .ty "bool", _, _, true, rfl, .ty _, .base (.bl _), kit_ty (by decide +kernel), true, rfl, ?_⟩
      refine ⟨_, rfl, _, .ty "bool", _, _, true, rfl, .ty _, .base (.bl _), kit_ty (by decide +kernel), true, rfl, ?_⟩
      refine ⟨_, rfl, _, .ty "bool", _, _, true, rfl, .ty _, .base (.bl _), kit_ty (by decide +kernel), true, rfl, ?_⟩
      refine ⟨_, rfl, _, rfl, rfl, ?_⟩
      rw [decide_eq_true rfl]
      exact go H (Kp.refl H)
    · refine ⟨_, rfl, _, .ty "list", _, _, false, rfl, .ty _, .base (.str _), kit_ty (by decide +kernel), false, rfl, ?_⟩
      refine ⟨_, rfl, _, .ty "tuple", _, _, false, rfl, .ty _, .base (.str _), kit_ty (by decide +kernel), false, rfl, ?_⟩
      refine ⟨_, rfl, rfl, _, rfl, ?_⟩
      rw [decide_eq_false (show ¬ V.str sv = V.non from fun z => nomatch z)]
      refine ⟨_, rfl, _, .ty "bool", _, _, false, rfl, .ty _, .base (.str _), kit_ty (by decide +kernel), false, rfl, ?_⟩
      refine ⟨_, rfl, _, .ty "bool", _, _, false, rfl, .ty _, .base (.str _), kit_ty (by decide +kernel), false, rfl, ?_⟩
      refine ⟨_, rfl, _, .ty "int", _, _, false, rfl, .ty _, .base (.str _), kit_ty (by decide +kernel), false, rfl, ?_⟩
      refine ⟨_, rfl, _, .ty "str", _, _, true, rfl, .ty _, .base (.str _), kit_ty (by decide +kernel), true, rfl, ?_⟩
      refine ⟨_, rfl, _, rfl, rfl, ?_⟩
      rw [decide_eq_true rfl]
      exact go H (Kp.refl H)
  · -- two lists
    refine ⟨_, rfl, _, .ty "list", _, _, true, rfl, .ty _, .base (.lst hb), kit_ty (by decide +kernel), true, rfl, ?_⟩
    refine ⟨_, rfl, _, .ty "list", _, _, true, rfl, .ty _, .base (.lst ha), kit_ty (by decide +kernel), _, rfl, _, .ty "list", _, _, true, rfl, .ty _, .base (.lst hb), kit_ty (by decide +kernel), rfl, false, rfl, ?_⟩
    refine ⟨_, rfl, _, .ty "tuple", _, _, false, rfl, .ty _, .base (.lst ha), kit_ty (by decide +kernel), _, rfl, _, .ty "tuple", _, _, false, rfl, .ty _, .base (.lst hb), kit_ty (by decide +kernel), rfl, false, rfl, ?_⟩
    have el : xs.length = ys.length := Paired.len hp
    refine ⟨_, rfl, a, xs, rfl, .inl (SqL.of ha), _, rfl, b, ys, rfl, .inl (SqL.of hb), rfl, true, congrArg V.bl (decide_eq_true (by rw [el])), ?_⟩
    refine ⟨_, rfl, b, ys, rfl, .inl (SqL.of hb), _, rfl, (by omega), (by omega), fun D hD => ?_⟩
    rw [Int.toNat_natCast]
    refine lc_range (fun i H' => Kp H H' [] ∧ H' D = some (.lst [])) ⟨Kp.new hD, upd_same⟩ (fun i H' hi ⟨kp, hD'⟩ => ?_) (fun H' ⟨kp, hD'⟩ => ?_)
    · obtain ⟨z, hz⟩ : ∃ z, xs[i]? = some z := ⟨xs[i]'(by omega), List.getElem?_eq_getElem (by omega)⟩
      obtain ⟨y, hy, hzy⟩ := pairedAt hp hz
      refine ⟨rfl, _, rfl, _, rfl, .inl ⟨a, xs, _, z, rfl, rfl, SqL.of (kp.lst0 ha), at_of (j := i) (by simp) hz, _, rfl, _, rfl, .inl ⟨b, ys, _, y, rfl, rfl, SqL.of (kp.lst0 hb), at_of (j := i) (by simp) hy, ?_⟩⟩⟩
      exact h0 _ z y (hk _ _ _ _ kp hzy) _ _ fun H2 k2 => ⟨true, rfl, kp.then k2, k2.lst0 hD'⟩
    · refine ⟨Nat.zero_le _, fun e he => ?_⟩
      refine ⟨.list [], .list [], .lst (SqL.of ((upd_ne (ne_of_none hD' he)).trans hD')) .nil, .lst (SqL.of upd_same) .nil, rfl, rfl, ?_⟩
      exact go _ (kp.then (Kp.new he))
  · -- two tuples
    refine ⟨_, rfl, _, .ty "list", _, _, false, rfl, .ty _, .base (.tup hb), kit_ty (by decide +kernel), false, rfl, ?_⟩
    refine ⟨_, rfl, _, .ty "tuple", _, _, true, rfl, .ty _, .base (.tup hb), kit_ty (by decide +kernel), true, rfl, ?_⟩
    refine ⟨_, rfl, _, .ty "list", _, _, false, rfl, .ty _, .base (.tup ha), kit_ty (by decide +kernel), _, rfl, _, .ty "list", _, _, false, rfl, .ty _, .base (.tup hb), kit_ty (by decide +kernel), rfl, false, rfl, ?_⟩
    refine ⟨_, rfl, _, .ty "tuple", _, _, true, rfl, .ty _, .base (.tup ha), kit_ty (by decide +kernel), _, rfl, _, .ty "tuple", _, _, true, rfl, .ty _, .base (.tup hb), kit_ty (by decide +kernel), rfl, false, rfl, ?_⟩
    have el : xs.length = ys.length := Paired.len hp
    refine ⟨_, rfl, a, xs, rfl, .inr (SqT.of ha), _, rfl, b, ys, rfl, .inr (SqT.of hb), rfl, true, congrArg V.bl (decide_eq_true (by rw [el])), ?_⟩
    refine ⟨_, rfl, b, ys, rfl, .inr (SqT.of hb), _, rfl, (by omega), (by omega), fun D hD => ?_⟩
    rw [Int.toNat_natCast]
    refine lc_range (fun i H' => Kp H H' [] ∧ H' D = some (.lst [])) ⟨Kp.new hD, upd_same⟩ (fun i H' hi ⟨kp, hD'⟩ => ?_) (fun H' ⟨kp, hD'⟩ => ?_)
    · obtain ⟨z, hz⟩ : ∃ z, xs[i]? = some z := ⟨xs[i]'(by omega), List.getElem?_eq_getElem (by omega)⟩
      obtain ⟨y, hy, hzy⟩ := pairedAt hp hz
      refine ⟨rfl, _, rfl, _, rfl, .inr (.inl ⟨a, xs, _, z, rfl, rfl, SqT.of (kp.tup0 ha), at_of (j := i) (by simp) hz, _, rfl, _, rfl, .inr (.inl ⟨b, ys, _, y, rfl, rfl, SqT.of (kp.tup0 hb), at_of (j := i) (by simp) hy, ?_⟩)⟩)⟩
      exact h0 _ z y (hk _ _ _ _ kp hzy) _ _ fun H2 k2 => ⟨true, rfl, kp.then k2, k2.lst0 hD'⟩
    · refine ⟨Nat.zero_le _, fun e he => ?_⟩
      refine ⟨.list [], .list [], .lst (SqL.of ((upd_ne (ne_of_none hD' he)).trans hD')) .nil, .lst (SqL.of upd_same) .nil, rfl, rfl, ?_⟩
      exact go _ (kp.then (Kp.new he))
end
/-- for each depth -/
theorem ok_alike {P : Program} {w : World} {K : PySem.W.Frag} {mg : Str → Option Value} {base : Heap} {f : Addr} {fd : FuncData} (F : Fun K "_law_alike" "_law_alike" s__law_alike f fd) (T : Txt0 mg) (b : Binds K fd ["found", "due"] []) (g : mg "_law_alike" = some (.ref f)) : ∀ n : Nat, FnOk P w K mg base CX0 (n + 2) f fd ["found", "due"] (spAlike n)
  | 0 => by
    have G : FnOk P w K mg base CX0 1 f fd ["found", "due"] (fun _ _ _ _ => False) := ⟨fun _ _ _ _ h => h.elim, fun _ _ _ _ _ _ _ _ _ _ _ _ _ h => h.elim⟩
    have G2 := ok_alike_step F T b g G (Ak := fun _ _ _ => False) (fun _ _ _ h => h.elim) (fun _ _ _ _ _ h => h)
    refine ⟨fun vs H Q E h => ?_, fun A outer s H args us vs Q E hr e0 hb hv h => G2.run A outer s H args us vs Q E hr e0 hb hv ?_⟩
    · obtain ⟨x, y, rfl, _⟩ := h
      rfl
    · obtain ⟨x, y, rfl, h, go⟩ := h
      exact ⟨x, y, rfl, .inl h, go⟩
  | n + 1 => by
    have G := ok_alike F T b g n (P := P) (w := w) (base := base)
    have G2 := ok_alike_step F T b g G (Ak := fun H x y => Alk H n x y) (fun H x y h Q E q => ⟨x, y, rfl, h, q⟩) (fun H H' x y k h => h.kp k)
    refine ⟨fun vs H Q E h => ?_, fun A outer s H args us vs Q E hr e0 hb hv h => ?_⟩
    · obtain ⟨x, y, rfl, _⟩ := h
      rfl
    · obtain ⟨x, y, rfl, h | h | h, go⟩ := h
      · exact G.run A outer s H args us [x, y] Q E (hr.mono (Nat.le_succ _)) e0 hb hv ⟨x, y, rfl, h, go⟩
      · exact G2.run A outer s H args us [x, y] Q E hr e0 hb hv ⟨x, y, rfl, .inr (.inl h), go⟩
      · exact G2.run A outer s H args us [x, y] Q E hr e0 hb hv ⟨x, y, rfl, .inr (.inr h), go⟩
end K08

set_option Elab.async false
set_option maxRecDepth 100000
set_option maxHeartbeats 8000000
set_option pp.maxSteps 1500
namespace K08
open PySem L2
/-! ### the classes of errors -/
structure Ers (K : PySem.W.Frag) (mg : Str → Option Value) (Ce Co Cm Cn Cr Ct : Addr) : Prop where
  gE : mg "EqualError" = some (.ref Ce)
  gO : mg "OutOfRange" = some (.ref Co)
  gM : mg "Malformed" = some (.ref Cm)
  gN : mg "NotThere" = some (.ref Cn)
  gR : mg "Refused" = some (.ref Cr)
  gT : mg "TooMuch" = some (.ref Ct)
  kO : PySem.W.kitOne K (.ref Cm) (.ref Co) = some false
  kM : PySem.W.kitOne K (.ref Cm) (.ref Cm) = some true
  kN : PySem.W.kitOne K (.ref Cm) (.ref Cn) = some false
  kR : PySem.W.kitOne K (.ref Cm) (.ref Cr) = some false
  kT : PySem.W.kitOne K (.ref Cm) (.ref Ct) = some false
  ex : ExcC K Cm
  em : PySem.W.exmOne K (.ref Cm) (.ref Ce) = some true
def Zw (Cm : Addr) : Obj → Prop := fun o => Zc (.ref Cm) none o ∧ ∃ vs, o.data = .fields vs
def spWord : Addr → Sp := fun a vs H Q _ => vs = [.ref a] ∧ ∀ H', Kp H H' [] → Q (.str "form") H'
def spSays : Sp := fun vs H Q _ => ∃ a b : Bool, vs = [.bl a, .bl b] ∧ Q (.bl (decide (a = b))) H
def spTold (Pn Pw : Addr) (n : Nat) : Sp := fun vs H Q _ => ∃ (v wv : V) (t : Tm) (b : Bool), vs = [v, wv] ∧ TmAt H t v ∧ t.dep ≤ n ∧ WorldV H wv b ∧ GxR.TabG H Pn ∧ GxR.TabG H Pw ∧ (b = false → ∀ H', Kp H H' [] → Q (.str "form") H') ∧
  (b = true → ∃ wt ws r, wv = .ref wt ∧ H wt = some (.tup ws) ∧ Vl ws t r ∧ ∀ H', Kp H H' [] → Q r H')
section
variable {P : Program} {w : World} {K : PySem.W.Frag} {mg : Str → Option Value} {base : Heap}
theorem sc_word : FnScope ["e", "kinds", "one"] ["e"] (defScope s__law_word) := ⟨rfl, rfl, rfl, by decide +kernel, rfl, by decide +kernel, by decide +kernel⟩
theorem ok_word {f Ce Co Cm Cn Cr Ct : Addr} {fd : FuncData} (F : Fun K "_law_word" "_law_word" s__law_word f fd) (T : Txt0 mg) (R : Ers K mg Ce Co Cm Cn Cr Ct) : GE.FnW P w K mg base CX0 1 f fd ["e"] (Zw Cm) spWord := by
  refine GE.Fun.okW F sc_word (fun a vs H Q E h => ?_) (fun cdv A outer s H vs Q E p hot hz hB hr h => ?_)
  · rw [h.1]
    rfl
  obtain ⟨rfl, go⟩ := h
  have nd := sc_word.nd
  have isP : CallR (L2H.cxH CX0 P w K mg base ["e", "kinds", "one"] "_law_word" (defScope s__law_word) f cdv A outer s H E p) (.builtin "isinstance") (rIsE K Cm p.1) := GE.call_isP (oe := p.2) R.ex List.mem_cons_self hz.1 hz.2
  refine ⟨_, (pss_cons (ps_set (i := 1) nd rfl (.inl rfl) (pe_lst (pa_cons (pe_callB isP (by rfl) T.B.isinstance (by decide +kernel) (pa_cons (pv 0) (pa_cons (pe_glob (v := .ref Co) (by rfl) R.gO rfl) pa_nil))) (pa_cons (pe_callB isP (by rfl) T.B.isinstance (by decide +kernel) (pa_cons (pv 0) (pa_cons (pe_glob (v := .ref Cm) (by rfl) R.gM rfl) pa_nil))) (pa_cons (pe_callB isP (by rfl) T.B.isinstance (by decide +kernel) (pa_cons (pv 0) (pa_cons (pe_glob (v := .ref Cn) (by rfl) R.gN rfl) pa_nil))) (pa_cons (pe_callB isP (by rfl) T.B.isinstance (by decide +kernel) (pa_cons (pv 0) (pa_cons (pe_glob (v := .ref Cr) (by rfl) R.gR rfl) pa_nil))) (pa_cons (pe_callB isP (by rfl) T.B.isinstance (by decide +kernel) (pa_cons (pv 0) (pa_cons (pe_glob (v := .ref Ct) (by rfl) R.gT rfl) pa_nil))) pa_nil)))))))
    (pss_cons (ps_if (pt_cmpR op_ne (pe_callB call_len_seq (by rfl) T.B.len (by decide +kernel) (pa_cons (GE.pe_lcTrue (own := [("one", 2)]) (i := 2) hB nd (pv 1) (blkOk_by (N := ["e", "kinds", "one"]) (sc := defScope s__law_word) (by decide +kernel)) (by decide) (by show 2 < 3; decide) (fun _ _ _ _ _ => (pg_name (i := 2) nd rfl (.inl rfl))) (fun _ _ _ _ _ => (pts_one (pt_val (pv 2)))) (fun _ _ _ _ _ => (pv 2))) pa_nil)) pe_int (nomark _)) 
      (pss_one (ps_ret pe_str)) pss_nil)
    (pss_one (ps_ret (pe_ix ix_list (pe_lst (pa_cons pe_str (pa_cons pe_str (pa_cons pe_str (pa_cons pe_str (pa_cons pe_str pa_nil)))))) (pe_bm PySem.F.plainAttrs_list PySem.F.slot_list_index PySem.F.type_list_index mt_index (pv 1) (pa_cons pe_bl pa_nil)) (fun _ _ => rfl)))))), ?_⟩
  have rv : ∀ {c : Addr} (u : Value), RelV (.ref c) u → u = .ref c := fun u r => r
  refine ⟨_, rfl, _, _, false, rfl, rv, R.kO, ?_⟩
  refine ⟨_, rfl, _, _, true, rfl, rv, R.kM, ?_⟩
  refine ⟨_, rfl, _, _, false, rfl, rv, R.kN, ?_⟩
  refine ⟨_, rfl, _, _, false, rfl, rv, R.kR, ?_⟩
  refine ⟨_, rfl, _, _, false, rfl, rv, R.kT, ?_⟩
  refine ⟨(by show 5 ≤ sizeLine; decide), fun l hl => ?_⟩
  have k1 : Kp H (upd H l (.lst [.bl false, .bl true, .bl false, .bl false, .bl false])) [] := Kp.new hl
  have hl1 : upd H l (.lst [.bl false, .bl true, .bl false, .bl false, .bl false]) l = some (.lst [.bl false, .bl true, .bl false, .bl false, .bl false]) := upd_same
  generalize upd H l (.lst [.bl false, .bl true, .bl false, .bl false, .bl false]) = H1 at k1 hl1 ⊢
  refine ⟨_, rfl, l, [false, true, false, false, false], rfl, SqL.of hl1, fun D hD => ?_⟩
  have k2 : Kp H1 (upd H1 D (.lst [.bl true])) [] := Kp.new hD
  have hl2 := k2.lst0 hl1
  refine ⟨D, [.bl true], rfl, .inl (SqL.of upd_same), ?_⟩
  refine ⟨rfl, _, rfl, ?_⟩
  refine ⟨(by show 5 ≤ sizeLine; decide), fun l2 hl3 => ?_⟩
  have k3 := k2.then (Kp.new (o := .lst [.str "range", .str "form", .str "none", .str "refused", .str "much"]) hl3)
  refine ⟨_, rfl, .inl ⟨rfl, _, SqL.of (k3.lst0 hl1)⟩, l, [.bl false, .bl true, .bl false, .bl false, .bl false], .bl true, 1, .bl true, rfl, rfl, SqL.of (k3.lst0 hl1), rfl, rfl, rfl, rfl, fun m z' hm e => ?_, ?_⟩
  · match m, hm, e with
    | 0, _, e => cases e; rfl
  · exact ⟨l2, _, 1, _, rfl, rfl, SqL.of upd_same, at_of (j := 1) rfl rfl, go _ (k1.then k3)⟩
theorem sc__law_says : FnScope ["told", "due"] ["told", "due"] (defScope s__law_says) := ⟨rfl, rfl, rfl, by decide +kernel, rfl, by decide +kernel, by decide +kernel⟩
theorem ok_says {f : Addr} {fd : FuncData} (F : Fun K "_law_says" "_law_says" s__law_says f fd) (T : Txt0 mg) : FnOk P w K mg base CX0 1 f fd ["told", "due"] spSays := by
  refine F.ok sc__law_says (fun vs H Q E h => ?_) (fun cdv A outer s H vs Q E hr h => ?_)
  · obtain ⟨a, b, rfl, _⟩ := h
    rfl
  obtain ⟨a, b, rfl, q⟩ := h
  refine ⟨_, (pss_one (ps_ret (pe_and (pe_callB call_isi (by rfl) T.B.isinstance (by decide +kernel) (pa_cons (pv 0) (pa_cons (pe_bltn (v := .ty "bool") (by rfl) T.B.bool (by decide +kernel) rfl) pa_nil))) (pe_one (pe_cmpR op_eq (pv 0) (pv 1) (nomark _)))))), ?_⟩
  refine ⟨_, rfl, _, .ty "bool", _, _, true, rfl, .ty _, .base (.bl _), kit_ty (by decide +kernel), true, rfl, ?_⟩
  refine ⟨_, rfl, _, rfl, rfl, ?_⟩
  have e : decide (V.bl a = V.bl b) = decide (a = b) := by
    by_cases z : a = b
    · rw [decide_eq_true z, decide_eq_true (by rw [z])]
    · rw [decide_eq_false z, decide_eq_false fun y => z (V.bl.inj y)]
  rw [e]
  exact q
theorem takesF {X : Cx} : L2N.Takes X (fun _ _ _ _ => False) := fun _ _ ⟨_, _, _, _, _, _, _, _, _, _, _, _, _, _, _, _, w⟩ => w.elim
theorem pass0At {X : Cx} {E : St → XK} : ∀ σ, PassesAt CX0 X σ (E σ) := fun _ _ _ _ _ _ _ h => h.elim
theorem sc_told : FnScope ["term", "world", "e"] ["term", "world"] (defScope s__law_told) := ⟨rfl, rfl, rfl, by decide +kernel, rfl, by decide +kernel, by decide +kernel⟩
theorem ok_told {f Ce Co Cm Cn Cr Ct Pn Pw f1 f5 : Addr} {fd fd1 fd5 : FuncData} (F : Fun K "_law_told" "_law_told" s__law_told f fd) (T : Txt0 mg) (R : Ers K mg Ce Co Cm Cn Cr Ct) {n k : Nat} (k1 : 1 ≤ k)
    (G_value_of : FnOk P w K mg base (L2N.CX P w) k f1 fd1 ["term", "world"] (spVO Pn Pw Cm n)) (F_value_of : Fun K "value_of" "value_of" s_value_of f1 fd1) (b_value_of : Binds K fd1 ["term", "world"] []) (g_value_of : mg "value_of" = some (.ref f1))
    (G_word : GE.FnW P w K mg base CX0 1 f5 fd5 ["e"] (Zw Cm) spWord) (k_word : PySem.W.keepIn K (.ref f5) = true) (b_word : Binds K fd5 ["e"] []) (g_word : mg "_law_word" = some (.ref f5)) :
    FnOk P w K mg base CX0 (k + 1) f fd ["term", "world"] (spTold Pn Pw n) := by
  refine F.ok sc_told (fun vs H Q E h => ?_) (fun cdv A outer s H vs Q E hr h => ?_)
  · obtain ⟨v, wv, t, b, rfl, _⟩ := h
    rfl
  obtain ⟨v, wv, t, b, rfl, hT, hd, hw, hn, hpw, qe, q⟩ := h
  have nd := sc_told.nd
  have hr1 := hr.mono k1
  refine ⟨_, pss_one (L2N.ps_try_as (i := 2) rfl rfl nd rfl rfl ⟨by rfl, by decide, .inl R.gE⟩ takesF
    (fun W pn xe tk pw => pss_one (ps_ret (pe_callS (E := WE W) G_value_of hr (by rfl) g_value_of F_value_of.kp b_value_of (L2N.passAt tk) (pa_cons (pv 0) (pa_cons (pv 1) pa_nil)))))
    (fun a oe cls d pn hz hf => GE.pss_when (p := cls = .ref Cm ∧ d = none) fun hp =>
      pss_one (ps_ret (GE.pe_callW (E := fun _ => XF) (a := a) (oe := oe) G_word ⟨hr1.dp, hr1.un⟩ ⟨rfl, hf.elim fun vs e => ⟨vs, e, hz.2.2 vs e⟩⟩ List.mem_cons_self ⟨⟨by rw [← hp.1]; exact hz.1, by rw [← hp.2]; exact hz.2.1⟩, hf⟩ (by rfl) g_word k_word b_word pass0At (pa_cons (pv 2) pa_nil))))), ?_⟩
  refine ⟨_, rfl, _, rfl, v, wv, t, b, rfl, hT, hd, hw, hn, hpw, fun eb H' k' => ⟨true, R.em, fun _ x hx => ⟨⟨rfl, rfl⟩, _, rfl, rfl, fun H'' k'' => qe eb H'' (k'.then k'')⟩, fun z => nomatch z⟩, fun eb => ?_⟩
  exact q eb
end
end K08

set_option Elab.async false
set_option maxRecDepth 100000
set_option maxHeartbeats 8000000
set_option pp.maxSteps 1500
namespace K08
open PySem L2
theorem len1 {xs : List V} {n : Nat} {c : Str} (h : xs.length = n) (h0 : n ≠ 0) : decide (V.int (((V.str c :: xs).length : Nat) : Int) = V.int 1) = false := decide_eq_false fun z => by
  have := V.int.inj z
  rw [List.length_cons, h] at this
  omega
theorem len1t {xs : List V} {c : Str} (h : xs.length = 0) : decide (V.int (((V.str c :: xs).length : Nat) : Int) = V.int 1) = true := decide_eq_true (by rw [List.length_cons, h]; rfl)
def spLV (n : Nat) : Sp := fun vs H Q _ => ∃ (v : V) (t : Tm) (wt : Addr) (ws : List V) (r : V), vs = [v, .ref wt] ∧ TmAt H t v ∧ t.dep ≤ n ∧ H wt = some (.tup ws) ∧ Vl ws t r ∧ ∀ H', Kp H H' [] → Q r H'
section
variable {P : Program} {w : World} {K : PySem.W.Frag} {mg : Str → Option Value} {base : Heap}
theorem sc__law_value : FnScope ["term", "world", "name", "parts", "one"] ["term", "world"] (defScope s__law_value) := ⟨rfl, rfl, rfl, by decide +kernel, rfl, by decide +kernel, by decide +kernel⟩
theorem ok_lv_step {f : Addr} {fd : FuncData} (F__law_value : Fun K "_law_value" "_law_value" s__law_value f fd) (T : Txt0 mg) (b__law_value : Binds K fd ["term", "world"] []) (g__law_value : mg "_law_value" = some (.ref f)) {n : Nat}
    (G__law_value : FnOk P w K mg base CX0 n f fd ["term", "world"] (spLV n)) : FnOk P w K mg base CX0 (n + 1) f fd ["term", "world"] (spLV (n + 1)) := by
  refine F__law_value.ok sc__law_value (fun vs H Q E h => ?_) (fun cdv A outer s H vs Q E hr h => ?_)
  · obtain ⟨v, t, wt, ws, r, rfl, _⟩ := h
    rfl
  obtain ⟨v, t, wt, ws, r, rfl, hT, hd, hw, hv, q⟩ := h
  have nd := sc__law_value.nd
  refine ⟨_, (pss_cons (ps_set (i := 2) nd rfl (.inl rfl) (pe_ix ix_tup (pv 0) pe_int (fun _ _ => rfl)))
    (pss_cons (ps_setLc (i := 3) (own := [("one", 4)]) (g := gName 4) (tt := tYes) rfl nd rfl rfl (sw_true rfl rfl rfl (by decide +kernel)) (pi_tup (pe_slice sl_tupA (pv 0) (po_some pe_int) po_none)) (blkOk_by (N := ["term", "world", "name", "parts", "one"]) (sc := defScope s__law_value) (by decide +kernel)) (fun _ _ _ _ _ => (pg_name (i := 4) nd rfl (.inl rfl))) (fun _ _ _ _ _ => pts_nil) (fun _ _ _ _ _ => (pe_call G__law_value hr (by rfl) g__law_value F__law_value.kp b__law_value .nil pass0 (pa_cons (pv 4) (pa_cons (pv 1) pa_nil)))))
    (pss_cons (ps_if (pt_cmpR op_in_seq (pv 2) (pe_lst (pa_cons pe_str (pa_cons pe_str (pa_cons pe_str pa_nil)))) rfl) 
      (pss_one (ps_ret (pe_ix ix_tup (pv 1) (pe_bm PySem.F.plainAttrs_list PySem.F.slot_list_index PySem.F.type_list_index mt_index (pe_lst (pa_cons pe_str (pa_cons pe_str (pa_cons pe_str pa_nil)))) (pa_cons (pv 2) pa_nil)) (fun _ _ => rfl)))) pss_nil)
    (pss_cons (ps_if (pt_cmpR op_in_seq (pv 2) (pe_lst (pa_cons pe_str (pa_cons pe_str pa_nil))) rfl) 
      (pss_one (ps_ret (pe_cmpR op_eq (pv 2) pe_str (nomark _)))) pss_nil)
    (pss_cons (ps_if (pt_cmpR op_eq (pe_callB call_len_seq (by rfl) T.B.len (by decide +kernel) (pa_cons (pv 0) pa_nil)) pe_int (nomark _)) 
      (pss_one (ps_ret (pe_callTy call_int_str (by rfl) T.B.int (by decide +kernel) (pa_cons (pv 2) pa_nil)))) pss_nil)
    (pss_cons (ps_if (pt_cmpR op_eq (pv 2) pe_str (nomark _)) 
      (pss_one (ps_ret (pe_op op_sub pe_int (pe_ix ix_list (pv 3) pe_int (fun _ _ => rfl))))) pss_nil)
    (pss_cons (ps_if (pt_cmpR op_eq (pv 2) pe_str (nomark _)) 
      (pss_one (ps_ret (pe_not (pe_ix ix_list (pv 3) pe_int (fun _ _ => rfl))))) pss_nil)
    (pss_cons (ps_if (pt_cmpR op_eq (pv 2) pe_str (nomark _)) 
      (pss_one (ps_ret (pe_ifExp (pt_truth (pe_ix ix_list (pv 3) pe_int (fun _ _ => rfl)) (by intro _; rfl)) (pe_ix ix_list (pv 3) pe_int (fun _ _ => rfl)) (pe_ix ix_list (pv 3) pe_int (fun _ _ => rfl))))) pss_nil)
    (pss_cons (ps_if (pt_cmpR op_in_seq (pv 2) (pe_lst (pa_cons pe_str (pa_cons pe_str pa_nil))) rfl) 
      (pss_one (ps_ret (pe_ix ix_list (pe_lst (pa_cons (pe_and (pe_ix ix_list (pv 3) pe_int (fun _ _ => rfl)) (pe_one (pe_ix ix_list (pv 3) pe_int (fun _ _ => rfl)))) (pa_cons (pe_or (pe_ix ix_list (pv 3) pe_int (fun _ _ => rfl)) (pe_one (pe_ix ix_list (pv 3) pe_int (fun _ _ => rfl)))) pa_nil))) (pe_bm PySem.F.plainAttrs_list PySem.F.slot_list_index PySem.F.type_list_index mt_index (pe_lst (pa_cons pe_str (pa_cons pe_str pa_nil))) (pa_cons (pv 2) pa_nil)) (fun _ _ => rfl)))) pss_nil)
    (pss_cons (ps_if (pt_cmpR op_in_seq (pv 2) (pe_lst (pa_cons pe_str (pa_cons pe_str pa_nil))) rfl) 
      (pss_one (ps_ret (pe_ix ix_list (pe_lst (pa_cons (pe_cmpR op_lt (pe_ix ix_list (pv 3) pe_int (fun _ _ => rfl)) (pe_ix ix_list (pv 3) pe_int (fun _ _ => rfl)) (nomark _)) (pa_cons (pe_cmpR op_eq (pe_ix ix_list (pv 3) pe_int (fun _ _ => rfl)) (pe_ix ix_list (pv 3) pe_int (fun _ _ => rfl)) (nomark _)) pa_nil))) (pe_bm PySem.F.plainAttrs_list PySem.F.slot_list_index PySem.F.type_list_index mt_index (pe_lst (pa_cons pe_str (pa_cons pe_str pa_nil))) (pa_cons (pv 2) pa_nil)) (fun _ _ => rfl)))) pss_nil)
    (pss_one (ps_ret (pe_ix ix_list (pe_lst (pa_cons (pe_op op_add (pe_ix ix_list (pv 3) pe_int (fun _ _ => rfl)) (pe_ix ix_list (pv 3) pe_int (fun _ _ => rfl))) (pa_cons (pe_op op_sub (pe_ix ix_list (pv 3) pe_int (fun _ _ => rfl)) (pe_ix ix_list (pv 3) pe_int (fun _ _ => rfl))) (pa_cons (pe_op op_mulB (pe_ix ix_list (pv 3) pe_int (fun _ _ => rfl)) (pe_ix ix_list (pv 3) pe_int (fun _ _ => rfl))) (pa_cons (pe_callB (cr_min rfl) (by rfl) T.B.min (by decide +kernel) (pa_cons (pv 3) pa_nil)) (pa_cons (pe_callB (cr_max rfl) (by rfl) T.B.max (by decide +kernel) (pa_cons (pv 3) pa_nil)) pa_nil)))))) (pe_bm PySem.F.plainAttrs_list PySem.F.slot_list_index PySem.F.type_list_index mt_index (pe_lst (pa_cons pe_str (pa_cons pe_str (pa_cons pe_str (pa_cons pe_str (pa_cons pe_str pa_nil)))))) (pa_cons (pv 2) pa_nil)) (fun _ _ => rfl)))))))))))))), ?_⟩
  obtain ⟨p, xs, rfl, hp, hk⟩ := hT.out
  obtain ⟨rs, hrs, m⟩ := hv.out
  have hlen : xs.length = rs.length := (Paired.len hk).symm.trans (Paired.len hrs)
  refine ⟨_, rfl, p, _, _, _, rfl, rfl, SqT.of hp, at_of (j := 0) rfl rfl, _, rfl, _, rfl, sl_tail (SqT.of hp) fun qa hqa => ?_⟩
  have k1 : Kp H (upd H qa (.tup xs)) [] := Kp.new hqa
  have hq1 : upd H qa (.tup xs) qa = some (.tup xs) := upd_same
  generalize upd H qa (.tup xs) = H1 at k1 hq1 ⊢
  have hk1 := kids_kp k1 hk
  refine ⟨qa, rfl, ⟨_, SqT.of hq1⟩, fun D hD => ?_⟩
  refine lc_tup (K := K) (a := qa) (xs := xs) (fun i H' => Kp H1 H' [] ∧ H' D = some (.lst (rs.take i))) ⟨Kp.new hD, upd_same⟩ (fun i H' _ h => SqT.of (h.1.tup0 hq1)) (fun i x H' hx ⟨k3, hD3⟩ => ?_) (fun H2 ⟨k3, l0⟩ => ?_)
  · have hi : i < t.kids.length := by rw [Paired.len hk]; exact (List.getElem?_eq_some_iff.mp hx).1
    obtain ⟨kd, hkd⟩ : ∃ kd, t.kids[i]? = some kd := ⟨_, List.getElem?_eq_getElem hi⟩
    obtain ⟨r1, hr1', wk⟩ := Paired.get hrs i kd hkd
    obtain ⟨y', hy', tk⟩ := Paired.get hk1 i kd hkd
    rw [hx] at hy'
    cases hy'
    have dk := Tm.kid_dep (List.mem_of_getElem? hkd)
    refine ⟨rfl, _, rfl, _, rfl, x, kd, wt, ws, r1, rfl, tk.kp0 k3, by omega, (k1.then k3).tup0 hw, wk, fun H4 k4 => ?_⟩
    have hD4 := k4.lst0 hD3
    refine ⟨_, hD4, ?_, (k3.then k4).fresh (Kp.wl hD4) fun y hy => by rw [List.mem_singleton.mp hy]; exact hD, ?_⟩
    · have := Paired.len hrs
      have := Tm.kids_le t
      rw [List.length_take]
      exact Nat.lt_of_le_of_lt (Nat.le_trans (Nat.min_le_right _ _) (show rs.length ≤ 3 by omega)) (by decide)
    · rw [upd_same, List.take_succ, hr1']
      rfl
  rw [hlen, List.take_length] at l0
  have k0 := k1.then k3
  clear k1 hq1 hk1 k3
  generalize hnm : t.nam = nm at m hp
  cases m with
  | x v hx =>
    refine ⟨_, rfl, (by show 3 ≤ sizeLine; decide), fun p0 hp0 => ?_⟩
    have k1 := k0.then (Kp.new (o := .lst [.str "x", .str "y", .str "z"]) hp0)
    have l1 := (Kp.new (o := .lst [.str "x", .str "y", .str "z"]) hp0).lst0 l0
    refine ⟨p0, _, rfl, .inl (SqL.of upd_same), rfl, rfl, true, congrArg V.bl (by decide +kernel), iteT ?_⟩
    refine ⟨_, rfl, (by show 3 ≤ sizeLine; decide), fun pl hpl => ?_⟩
    have k2 := k1.then (Kp.new (o := .lst [.str "x", .str "y", .str "z"]) hpl)
    have l2 := (Kp.new (o := .lst [.str "x", .str "y", .str "z"]) hpl).lst0 l1
    exact ⟨.inl ⟨rfl, _, SqL.of upd_same⟩, _, rfl, pl, _, .str "x", 0, .str "x", rfl, rfl, SqL.of upd_same, rfl, rfl, rfl, (by decide +kernel), (nb_of (by decide +kernel)), wt, ws, _, _, rfl, rfl, SqT.of (k2.tup0 hw), at_of (j := 0) rfl hx, q _ k2⟩
  | y v hx =>
    refine ⟨_, rfl, (by show 3 ≤ sizeLine; decide), fun p0 hp0 => ?_⟩
    have k1 := k0.then (Kp.new (o := .lst [.str "x", .str "y", .str "z"]) hp0)
    have l1 := (Kp.new (o := .lst [.str "x", .str "y", .str "z"]) hp0).lst0 l0
    refine ⟨p0, _, rfl, .inl (SqL.of upd_same), rfl, rfl, true, congrArg V.bl (by decide +kernel), iteT ?_⟩
    refine ⟨_, rfl, (by show 3 ≤ sizeLine; decide), fun pl hpl => ?_⟩
    have k2 := k1.then (Kp.new (o := .lst [.str "x", .str "y", .str "z"]) hpl)
    have l2 := (Kp.new (o := .lst [.str "x", .str "y", .str "z"]) hpl).lst0 l1
    exact ⟨.inl ⟨rfl, _, SqL.of upd_same⟩, _, rfl, pl, _, .str "y", 1, .str "y", rfl, rfl, SqL.of upd_same, rfl, rfl, rfl, (by decide +kernel), (nb_of (by decide +kernel)), wt, ws, _, _, rfl, rfl, SqT.of (k2.tup0 hw), at_of (j := 1) rfl hx, q _ k2⟩
  | z v hx =>
    refine ⟨_, rfl, (by show 3 ≤ sizeLine; decide), fun p0 hp0 => ?_⟩
    have k1 := k0.then (Kp.new (o := .lst [.str "x", .str "y", .str "z"]) hp0)
    have l1 := (Kp.new (o := .lst [.str "x", .str "y", .str "z"]) hp0).lst0 l0
    refine ⟨p0, _, rfl, .inl (SqL.of upd_same), rfl, rfl, true, congrArg V.bl (by decide +kernel), iteT ?_⟩
    refine ⟨_, rfl, (by show 3 ≤ sizeLine; decide), fun pl hpl => ?_⟩
    have k2 := k1.then (Kp.new (o := .lst [.str "x", .str "y", .str "z"]) hpl)
    have l2 := (Kp.new (o := .lst [.str "x", .str "y", .str "z"]) hpl).lst0 l1
    exact ⟨.inl ⟨rfl, _, SqL.of upd_same⟩, _, rfl, pl, _, .str "z", 2, .str "z", rfl, rfl, SqL.of upd_same, rfl, rfl, rfl, (by decide +kernel), (nb_of (by decide +kernel)), wt, ws, _, _, rfl, rfl, SqT.of (k2.tup0 hw), at_of (j := 2) rfl hx, q _ k2⟩
  | nu _ i _ _ hd hd2 hi hl =>
    refine ⟨_, rfl, (by show 3 ≤ sizeLine; decide), fun p0 hp0 => ?_⟩
    have k1 := k0.then (Kp.new (o := .lst [.str "x", .str "y", .str "z"]) hp0)
    have l1 := (Kp.new (o := .lst [.str "x", .str "y", .str "z"]) hp0).lst0 l0
    refine ⟨p0, _, rfl, .inl (SqL.of upd_same), rfl, rfl, false, congrArg V.bl hd, iteF ?_⟩
    refine ⟨_, rfl, (by show 2 ≤ sizeLine; decide), fun p1 hp1 => ?_⟩
    have k2 := k1.then (Kp.new (o := .lst [.str "yes", .str "no"]) hp1)
    have l2 := (Kp.new (o := .lst [.str "yes", .str "no"]) hp1).lst0 l1
    refine ⟨p1, _, rfl, .inl (SqL.of upd_same), rfl, rfl, false, congrArg V.bl hd2, iteF ?_⟩
    exact ⟨_, rfl, p, _, rfl, .inr (SqT.of (k2.tup0 hp)), rfl, true, congrArg V.bl (len1t hlen), iteT ⟨_, rfl, _, _, rfl, hi, Nat.le_trans hl (by decide), q _ k2⟩⟩
  | ar _ _ _ ar =>
    cases ar with
    | add a b hm =>
      refine ⟨_, rfl, (by show 3 ≤ sizeLine; decide), fun p0 hp0 => ?_⟩
      have k1 := k0.then (Kp.new (o := .lst [.str "x", .str "y", .str "z"]) hp0)
      have l1 := (Kp.new (o := .lst [.str "x", .str "y", .str "z"]) hp0).lst0 l0
      refine ⟨p0, _, rfl, .inl (SqL.of upd_same), rfl, rfl, false, congrArg V.bl (by decide +kernel), iteF ?_⟩
      refine ⟨_, rfl, (by show 2 ≤ sizeLine; decide), fun p1 hp1 => ?_⟩
      have k2 := k1.then (Kp.new (o := .lst [.str "yes", .str "no"]) hp1)
      have l2 := (Kp.new (o := .lst [.str "yes", .str "no"]) hp1).lst0 l1
      refine ⟨p1, _, rfl, .inl (SqL.of upd_same), rfl, rfl, false, congrArg V.bl (by decide +kernel), iteF ?_⟩
      refine ⟨_, rfl, p, _, rfl, .inr (SqT.of (k2.tup0 hp)), rfl, false, congrArg V.bl (len1 hlen (Nat.succ_ne_zero _)), iteF ?_⟩
      refine ⟨_, rfl, rfl, false, congrArg V.bl (by decide +kernel), iteF ?_⟩
      refine ⟨_, rfl, rfl, false, congrArg V.bl (by decide +kernel), iteF ?_⟩
      refine ⟨_, rfl, rfl, false, congrArg V.bl (by decide +kernel), iteF ?_⟩
      refine ⟨_, rfl, (by show 2 ≤ sizeLine; decide), fun p2 hp2 => ?_⟩
      have k3 := k2.then (Kp.new (o := .lst [.str "both", .str "any"]) hp2)
      have l3 := (Kp.new (o := .lst [.str "both", .str "any"]) hp2).lst0 l2
      refine ⟨p2, _, rfl, .inl (SqL.of upd_same), rfl, rfl, false, congrArg V.bl (by decide +kernel), iteF ?_⟩
      refine ⟨_, rfl, (by show 2 ≤ sizeLine; decide), fun p3 hp3 => ?_⟩
      have k4 := k3.then (Kp.new (o := .lst [.str "less", .str "alike"]) hp3)
      have l4 := (Kp.new (o := .lst [.str "less", .str "alike"]) hp3).lst0 l3
      refine ⟨p3, _, rfl, .inl (SqL.of upd_same), rfl, rfl, false, congrArg V.bl (by decide +kernel), iteF ?_⟩
      refine ⟨_, rfl, D, _, _, _, rfl, rfl, SqL.of l4, at_of (j := 0) rfl rfl, _, rfl, D, _, _, _, rfl, rfl, SqL.of l4, at_of (j := 1) rfl rfl, _, _, rfl, rfl, _, rfl, D, _, _, _, rfl, rfl, SqL.of l4, at_of (j := 0) rfl rfl, _, rfl, D, _, _, _, rfl, rfl, SqL.of l4, at_of (j := 1) rfl rfl, _, _, rfl, rfl, _, rfl, D, _, _, _, rfl, rfl, SqL.of l4, at_of (j := 0) rfl rfl, _, rfl, D, _, _, _, rfl, rfl, SqL.of l4, at_of (j := 1) rfl rfl, _, _, rfl, rfl, hm, _, rfl, D, [a, b], rfl, SqL.of l4, (by show 0 < 2; decide), fun m1 h1 h2 => ⟨_, rfl, D, [a, b], rfl, SqL.of l4, (by show 0 < 2; decide), fun m2 h3 h4 => ?_⟩⟩
      obtain rfl : m1 = (if b < a then b else a) := min_two h1 h2
      obtain rfl : m2 = (if b > a then b else a) := max_two h3 h4
      refine ⟨(by show 5 ≤ sizeLine; decide), fun pv hpv => ?_⟩
      have k5 := k4.then (Kp.new (o := .lst [.int (a + b), .int (a - b), .int (a * b), .int (if b < a then b else a), .int (if b > a then b else a)]) hpv)
      have l5 := (Kp.new (o := .lst [.int (a + b), .int (a - b), .int (a * b), .int (if b < a then b else a), .int (if b > a then b else a)]) hpv).lst0 l4
      refine ⟨(by show 5 ≤ sizeLine; decide), fun pl hpl => ?_⟩
      have k6 := k5.then (Kp.new (o := .lst [.str "add", .str "sub", .str "mul", .str "min", .str "max"]) hpl)
      have l6 := (Kp.new (o := .lst [.str "add", .str "sub", .str "mul", .str "min", .str "max"]) hpl).lst0 l5
      exact ⟨.inl ⟨rfl, _, SqL.of upd_same⟩, _, rfl, pl, _, .str "add", 0, .str "add", rfl, rfl, SqL.of upd_same, rfl, rfl, rfl, (by decide +kernel), (nb_of (by decide +kernel)), pv, _, _, _, rfl, rfl, SqL.of ((Kp.new hpl).lst0 upd_same), at_of (j := 0) rfl rfl, q _ k6⟩
    | sub a b hm =>
      refine ⟨_, rfl, (by show 3 ≤ sizeLine; decide), fun p0 hp0 => ?_⟩
      have k1 := k0.then (Kp.new (o := .lst [.str "x", .str "y", .str "z"]) hp0)
      have l1 := (Kp.new (o := .lst [.str "x", .str "y", .str "z"]) hp0).lst0 l0
      refine ⟨p0, _, rfl, .inl (SqL.of upd_same), rfl, rfl, false, congrArg V.bl (by decide +kernel), iteF ?_⟩
      refine ⟨_, rfl, (by show 2 ≤ sizeLine; decide), fun p1 hp1 => ?_⟩
      have k2 := k1.then (Kp.new (o := .lst [.str "yes", .str "no"]) hp1)
      have l2 := (Kp.new (o := .lst [.str "yes", .str "no"]) hp1).lst0 l1
      refine ⟨p1, _, rfl, .inl (SqL.of upd_same), rfl, rfl, false, congrArg V.bl (by decide +kernel), iteF ?_⟩
      refine ⟨_, rfl, p, _, rfl, .inr (SqT.of (k2.tup0 hp)), rfl, false, congrArg V.bl (len1 hlen (Nat.succ_ne_zero _)), iteF ?_⟩
      refine ⟨_, rfl, rfl, false, congrArg V.bl (by decide +kernel), iteF ?_⟩
      refine ⟨_, rfl, rfl, false, congrArg V.bl (by decide +kernel), iteF ?_⟩
      refine ⟨_, rfl, rfl, false, congrArg V.bl (by decide +kernel), iteF ?_⟩
      refine ⟨_, rfl, (by show 2 ≤ sizeLine; decide), fun p2 hp2 => ?_⟩
      have k3 := k2.then (Kp.new (o := .lst [.str "both", .str "any"]) hp2)
      have l3 := (Kp.new (o := .lst [.str "both", .str "any"]) hp2).lst0 l2
      refine ⟨p2, _, rfl, .inl (SqL.of upd_same), rfl, rfl, false, congrArg V.bl (by decide +kernel), iteF ?_⟩
      refine ⟨_, rfl, (by show 2 ≤ sizeLine; decide), fun p3 hp3 => ?_⟩
      have k4 := k3.then (Kp.new (o := .lst [.str "less", .str "alike"]) hp3)
      have l4 := (Kp.new (o := .lst [.str "less", .str "alike"]) hp3).lst0 l3
      refine ⟨p3, _, rfl, .inl (SqL.of upd_same), rfl, rfl, false, congrArg V.bl (by decide +kernel), iteF ?_⟩
      refine ⟨_, rfl, D, _, _, _, rfl, rfl, SqL.of l4, at_of (j := 0) rfl rfl, _, rfl, D, _, _, _, rfl, rfl, SqL.of l4, at_of (j := 1) rfl rfl, _, _, rfl, rfl, _, rfl, D, _, _, _, rfl, rfl, SqL.of l4, at_of (j := 0) rfl rfl, _, rfl, D, _, _, _, rfl, rfl, SqL.of l4, at_of (j := 1) rfl rfl, _, _, rfl, rfl, _, rfl, D, _, _, _, rfl, rfl, SqL.of l4, at_of (j := 0) rfl rfl, _, rfl, D, _, _, _, rfl, rfl, SqL.of l4, at_of (j := 1) rfl rfl, _, _, rfl, rfl, hm, _, rfl, D, [a, b], rfl, SqL.of l4, (by show 0 < 2; decide), fun m1 h1 h2 => ⟨_, rfl, D, [a, b], rfl, SqL.of l4, (by show 0 < 2; decide), fun m2 h3 h4 => ?_⟩⟩
      obtain rfl : m1 = (if b < a then b else a) := min_two h1 h2
      obtain rfl : m2 = (if b > a then b else a) := max_two h3 h4
      refine ⟨(by show 5 ≤ sizeLine; decide), fun pv hpv => ?_⟩
      have k5 := k4.then (Kp.new (o := .lst [.int (a + b), .int (a - b), .int (a * b), .int (if b < a then b else a), .int (if b > a then b else a)]) hpv)
      have l5 := (Kp.new (o := .lst [.int (a + b), .int (a - b), .int (a * b), .int (if b < a then b else a), .int (if b > a then b else a)]) hpv).lst0 l4
      refine ⟨(by show 5 ≤ sizeLine; decide), fun pl hpl => ?_⟩
      have k6 := k5.then (Kp.new (o := .lst [.str "add", .str "sub", .str "mul", .str "min", .str "max"]) hpl)
      have l6 := (Kp.new (o := .lst [.str "add", .str "sub", .str "mul", .str "min", .str "max"]) hpl).lst0 l5
      exact ⟨.inl ⟨rfl, _, SqL.of upd_same⟩, _, rfl, pl, _, .str "sub", 1, .str "sub", rfl, rfl, SqL.of upd_same, rfl, rfl, rfl, (by decide +kernel), (nb_of (by decide +kernel)), pv, _, _, _, rfl, rfl, SqL.of ((Kp.new hpl).lst0 upd_same), at_of (j := 1) rfl rfl, q _ k6⟩
    | mul a b hm =>
      refine ⟨_, rfl, (by show 3 ≤ sizeLine; decide), fun p0 hp0 => ?_⟩
      have k1 := k0.then (Kp.new (o := .lst [.str "x", .str "y", .str "z"]) hp0)
      have l1 := (Kp.new (o := .lst [.str "x", .str "y", .str "z"]) hp0).lst0 l0
      refine ⟨p0, _, rfl, .inl (SqL.of upd_same), rfl, rfl, false, congrArg V.bl (by decide +kernel), iteF ?_⟩
      refine ⟨_, rfl, (by show 2 ≤ sizeLine; decide), fun p1 hp1 => ?_⟩
      have k2 := k1.then (Kp.new (o := .lst [.str "yes", .str "no"]) hp1)
      have l2 := (Kp.new (o := .lst [.str "yes", .str "no"]) hp1).lst0 l1
      refine ⟨p1, _, rfl, .inl (SqL.of upd_same), rfl, rfl, false, congrArg V.bl (by decide +kernel), iteF ?_⟩
      refine ⟨_, rfl, p, _, rfl, .inr (SqT.of (k2.tup0 hp)), rfl, false, congrArg V.bl (len1 hlen (Nat.succ_ne_zero _)), iteF ?_⟩
      refine ⟨_, rfl, rfl, false, congrArg V.bl (by decide +kernel), iteF ?_⟩
      refine ⟨_, rfl, rfl, false, congrArg V.bl (by decide +kernel), iteF ?_⟩
      refine ⟨_, rfl, rfl, false, congrArg V.bl (by decide +kernel), iteF ?_⟩
      refine ⟨_, rfl, (by show 2 ≤ sizeLine; decide), fun p2 hp2 => ?_⟩
      have k3 := k2.then (Kp.new (o := .lst [.str "both", .str "any"]) hp2)
      have l3 := (Kp.new (o := .lst [.str "both", .str "any"]) hp2).lst0 l2
      refine ⟨p2, _, rfl, .inl (SqL.of upd_same), rfl, rfl, false, congrArg V.bl (by decide +kernel), iteF ?_⟩
      refine ⟨_, rfl, (by show 2 ≤ sizeLine; decide), fun p3 hp3 => ?_⟩
      have k4 := k3.then (Kp.new (o := .lst [.str "less", .str "alike"]) hp3)
      have l4 := (Kp.new (o := .lst [.str "less", .str "alike"]) hp3).lst0 l3
      refine ⟨p3, _, rfl, .inl (SqL.of upd_same), rfl, rfl, false, congrArg V.bl (by decide +kernel), iteF ?_⟩
      refine ⟨_, rfl, D, _, _, _, rfl, rfl, SqL.of l4, at_of (j := 0) rfl rfl, _, rfl, D, _, _, _, rfl, rfl, SqL.of l4, at_of (j := 1) rfl rfl, _, _, rfl, rfl, _, rfl, D, _, _, _, rfl, rfl, SqL.of l4, at_of (j := 0) rfl rfl, _, rfl, D, _, _, _, rfl, rfl, SqL.of l4, at_of (j := 1) rfl rfl, _, _, rfl, rfl, _, rfl, D, _, _, _, rfl, rfl, SqL.of l4, at_of (j := 0) rfl rfl, _, rfl, D, _, _, _, rfl, rfl, SqL.of l4, at_of (j := 1) rfl rfl, _, _, rfl, rfl, hm, _, rfl, D, [a, b], rfl, SqL.of l4, (by show 0 < 2; decide), fun m1 h1 h2 => ⟨_, rfl, D, [a, b], rfl, SqL.of l4, (by show 0 < 2; decide), fun m2 h3 h4 => ?_⟩⟩
      obtain rfl : m1 = (if b < a then b else a) := min_two h1 h2
      obtain rfl : m2 = (if b > a then b else a) := max_two h3 h4
      refine ⟨(by show 5 ≤ sizeLine; decide), fun pv hpv => ?_⟩
      have k5 := k4.then (Kp.new (o := .lst [.int (a + b), .int (a - b), .int (a * b), .int (if b < a then b else a), .int (if b > a then b else a)]) hpv)
      have l5 := (Kp.new (o := .lst [.int (a + b), .int (a - b), .int (a * b), .int (if b < a then b else a), .int (if b > a then b else a)]) hpv).lst0 l4
      refine ⟨(by show 5 ≤ sizeLine; decide), fun pl hpl => ?_⟩
      have k6 := k5.then (Kp.new (o := .lst [.str "add", .str "sub", .str "mul", .str "min", .str "max"]) hpl)
      have l6 := (Kp.new (o := .lst [.str "add", .str "sub", .str "mul", .str "min", .str "max"]) hpl).lst0 l5
      exact ⟨.inl ⟨rfl, _, SqL.of upd_same⟩, _, rfl, pl, _, .str "mul", 2, .str "mul", rfl, rfl, SqL.of upd_same, rfl, rfl, rfl, (by decide +kernel), (nb_of (by decide +kernel)), pv, _, _, _, rfl, rfl, SqL.of ((Kp.new hpl).lst0 upd_same), at_of (j := 2) rfl rfl, q _ k6⟩
    | min a b hm =>
      refine ⟨_, rfl, (by show 3 ≤ sizeLine; decide), fun p0 hp0 => ?_⟩
      have k1 := k0.then (Kp.new (o := .lst [.str "x", .str "y", .str "z"]) hp0)
      have l1 := (Kp.new (o := .lst [.str "x", .str "y", .str "z"]) hp0).lst0 l0
      refine ⟨p0, _, rfl, .inl (SqL.of upd_same), rfl, rfl, false, congrArg V.bl (by decide +kernel), iteF ?_⟩
      refine ⟨_, rfl, (by show 2 ≤ sizeLine; decide), fun p1 hp1 => ?_⟩
      have k2 := k1.then (Kp.new (o := .lst [.str "yes", .str "no"]) hp1)
      have l2 := (Kp.new (o := .lst [.str "yes", .str "no"]) hp1).lst0 l1
      refine ⟨p1, _, rfl, .inl (SqL.of upd_same), rfl, rfl, false, congrArg V.bl (by decide +kernel), iteF ?_⟩
      refine ⟨_, rfl, p, _, rfl, .inr (SqT.of (k2.tup0 hp)), rfl, false, congrArg V.bl (len1 hlen (Nat.succ_ne_zero _)), iteF ?_⟩
      refine ⟨_, rfl, rfl, false, congrArg V.bl (by decide +kernel), iteF ?_⟩
      refine ⟨_, rfl, rfl, false, congrArg V.bl (by decide +kernel), iteF ?_⟩
      refine ⟨_, rfl, rfl, false, congrArg V.bl (by decide +kernel), iteF ?_⟩
      refine ⟨_, rfl, (by show 2 ≤ sizeLine; decide), fun p2 hp2 => ?_⟩
      have k3 := k2.then (Kp.new (o := .lst [.str "both", .str "any"]) hp2)
      have l3 := (Kp.new (o := .lst [.str "both", .str "any"]) hp2).lst0 l2
      refine ⟨p2, _, rfl, .inl (SqL.of upd_same), rfl, rfl, false, congrArg V.bl (by decide +kernel), iteF ?_⟩
      refine ⟨_, rfl, (by show 2 ≤ sizeLine; decide), fun p3 hp3 => ?_⟩
      have k4 := k3.then (Kp.new (o := .lst [.str "less", .str "alike"]) hp3)
      have l4 := (Kp.new (o := .lst [.str "less", .str "alike"]) hp3).lst0 l3
      refine ⟨p3, _, rfl, .inl (SqL.of upd_same), rfl, rfl, false, congrArg V.bl (by decide +kernel), iteF ?_⟩
      refine ⟨_, rfl, D, _, _, _, rfl, rfl, SqL.of l4, at_of (j := 0) rfl rfl, _, rfl, D, _, _, _, rfl, rfl, SqL.of l4, at_of (j := 1) rfl rfl, _, _, rfl, rfl, _, rfl, D, _, _, _, rfl, rfl, SqL.of l4, at_of (j := 0) rfl rfl, _, rfl, D, _, _, _, rfl, rfl, SqL.of l4, at_of (j := 1) rfl rfl, _, _, rfl, rfl, _, rfl, D, _, _, _, rfl, rfl, SqL.of l4, at_of (j := 0) rfl rfl, _, rfl, D, _, _, _, rfl, rfl, SqL.of l4, at_of (j := 1) rfl rfl, _, _, rfl, rfl, hm, _, rfl, D, [a, b], rfl, SqL.of l4, (by show 0 < 2; decide), fun m1 h1 h2 => ⟨_, rfl, D, [a, b], rfl, SqL.of l4, (by show 0 < 2; decide), fun m2 h3 h4 => ?_⟩⟩
      obtain rfl : m1 = (if b < a then b else a) := min_two h1 h2
      obtain rfl : m2 = (if b > a then b else a) := max_two h3 h4
      refine ⟨(by show 5 ≤ sizeLine; decide), fun pv hpv => ?_⟩
      have k5 := k4.then (Kp.new (o := .lst [.int (a + b), .int (a - b), .int (a * b), .int (if b < a then b else a), .int (if b > a then b else a)]) hpv)
      have l5 := (Kp.new (o := .lst [.int (a + b), .int (a - b), .int (a * b), .int (if b < a then b else a), .int (if b > a then b else a)]) hpv).lst0 l4
      refine ⟨(by show 5 ≤ sizeLine; decide), fun pl hpl => ?_⟩
      have k6 := k5.then (Kp.new (o := .lst [.str "add", .str "sub", .str "mul", .str "min", .str "max"]) hpl)
      have l6 := (Kp.new (o := .lst [.str "add", .str "sub", .str "mul", .str "min", .str "max"]) hpl).lst0 l5
      exact ⟨.inl ⟨rfl, _, SqL.of upd_same⟩, _, rfl, pl, _, .str "min", 3, .str "min", rfl, rfl, SqL.of upd_same, rfl, rfl, rfl, (by decide +kernel), (nb_of (by decide +kernel)), pv, _, _, _, rfl, rfl, SqL.of ((Kp.new hpl).lst0 upd_same), at_of (j := 3) rfl rfl, q _ k6⟩
    | max a b hm =>
      refine ⟨_, rfl, (by show 3 ≤ sizeLine; decide), fun p0 hp0 => ?_⟩
      have k1 := k0.then (Kp.new (o := .lst [.str "x", .str "y", .str "z"]) hp0)
      have l1 := (Kp.new (o := .lst [.str "x", .str "y", .str "z"]) hp0).lst0 l0
      refine ⟨p0, _, rfl, .inl (SqL.of upd_same), rfl, rfl, false, congrArg V.bl (by decide +kernel), iteF ?_⟩
      refine ⟨_, rfl, (by show 2 ≤ sizeLine; decide), fun p1 hp1 => ?_⟩
      have k2 := k1.then (Kp.new (o := .lst [.str "yes", .str "no"]) hp1)
      have l2 := (Kp.new (o := .lst [.str "yes", .str "no"]) hp1).lst0 l1
      refine ⟨p1, _, rfl, .inl (SqL.of upd_same), rfl, rfl, false, congrArg V.bl (by decide +kernel), iteF ?_⟩
      refine ⟨_, rfl, p, _, rfl, .inr (SqT.of (k2.tup0 hp)), rfl, false, congrArg V.bl (len1 hlen (Nat.succ_ne_zero _)), iteF ?_⟩
      refine ⟨_, rfl, rfl, false, congrArg V.bl (by decide +kernel), iteF ?_⟩
      refine ⟨_, rfl, rfl, false, congrArg V.bl (by decide +kernel), iteF ?_⟩
      refine ⟨_, rfl, rfl, false, congrArg V.bl (by decide +kernel), iteF ?_⟩
      refine ⟨_, rfl, (by show 2 ≤ sizeLine; decide), fun p2 hp2 => ?_⟩
      have k3 := k2.then (Kp.new (o := .lst [.str "both", .str "any"]) hp2)
      have l3 := (Kp.new (o := .lst [.str "both", .str "any"]) hp2).lst0 l2
      refine ⟨p2, _, rfl, .inl (SqL.of upd_same), rfl, rfl, false, congrArg V.bl (by decide +kernel), iteF ?_⟩
      refine ⟨_, rfl, (by show 2 ≤ sizeLine; decide), fun p3 hp3 => ?_⟩
      have k4 := k3.then (Kp.new (o := .lst [.str "less", .str "alike"]) hp3)
      have l4 := (Kp.new (o := .lst [.str "less", .str "alike"]) hp3).lst0 l3
      refine ⟨p3, _, rfl, .inl (SqL.of upd_same), rfl, rfl, false, congrArg V.bl (by decide +kernel), iteF ?_⟩
      refine ⟨_, rfl, D, _, _, _, rfl, rfl, SqL.of l4, at_of (j := 0) rfl rfl, _, rfl, D, _, _, _, rfl, rfl, SqL.of l4, at_of (j := 1) rfl rfl, _, _, rfl, rfl, _, rfl, D, _, _, _, rfl, rfl, SqL.of l4, at_of (j := 0) rfl rfl, _, rfl, D, _, _, _, rfl, rfl, SqL.of l4, at_of (j := 1) rfl rfl, _, _, rfl, rfl, _, rfl, D, _, _, _, rfl, rfl, SqL.of l4, at_of (j := 0) rfl rfl, _, rfl, D, _, _, _, rfl, rfl, SqL.of l4, at_of (j := 1) rfl rfl, _, _, rfl, rfl, hm, _, rfl, D, [a, b], rfl, SqL.of l4, (by show 0 < 2; decide), fun m1 h1 h2 => ⟨_, rfl, D, [a, b], rfl, SqL.of l4, (by show 0 < 2; decide), fun m2 h3 h4 => ?_⟩⟩
      obtain rfl : m1 = (if b < a then b else a) := min_two h1 h2
      obtain rfl : m2 = (if b > a then b else a) := max_two h3 h4
      refine ⟨(by show 5 ≤ sizeLine; decide), fun pv hpv => ?_⟩
      have k5 := k4.then (Kp.new (o := .lst [.int (a + b), .int (a - b), .int (a * b), .int (if b < a then b else a), .int (if b > a then b else a)]) hpv)
      have l5 := (Kp.new (o := .lst [.int (a + b), .int (a - b), .int (a * b), .int (if b < a then b else a), .int (if b > a then b else a)]) hpv).lst0 l4
      refine ⟨(by show 5 ≤ sizeLine; decide), fun pl hpl => ?_⟩
      have k6 := k5.then (Kp.new (o := .lst [.str "add", .str "sub", .str "mul", .str "min", .str "max"]) hpl)
      have l6 := (Kp.new (o := .lst [.str "add", .str "sub", .str "mul", .str "min", .str "max"]) hpl).lst0 l5
      exact ⟨.inl ⟨rfl, _, SqL.of upd_same⟩, _, rfl, pl, _, .str "max", 4, .str "max", rfl, rfl, SqL.of upd_same, rfl, rfl, rfl, (by decide +kernel), (nb_of (by decide +kernel)), pv, _, _, _, rfl, rfl, SqL.of ((Kp.new hpl).lst0 upd_same), at_of (j := 4) rfl rfl, q _ k6⟩
    | less a b =>
      refine ⟨_, rfl, (by show 3 ≤ sizeLine; decide), fun p0 hp0 => ?_⟩
      have k1 := k0.then (Kp.new (o := .lst [.str "x", .str "y", .str "z"]) hp0)
      have l1 := (Kp.new (o := .lst [.str "x", .str "y", .str "z"]) hp0).lst0 l0
      refine ⟨p0, _, rfl, .inl (SqL.of upd_same), rfl, rfl, false, congrArg V.bl (by decide +kernel), iteF ?_⟩
      refine ⟨_, rfl, (by show 2 ≤ sizeLine; decide), fun p1 hp1 => ?_⟩
      have k2 := k1.then (Kp.new (o := .lst [.str "yes", .str "no"]) hp1)
      have l2 := (Kp.new (o := .lst [.str "yes", .str "no"]) hp1).lst0 l1
      refine ⟨p1, _, rfl, .inl (SqL.of upd_same), rfl, rfl, false, congrArg V.bl (by decide +kernel), iteF ?_⟩
      refine ⟨_, rfl, p, _, rfl, .inr (SqT.of (k2.tup0 hp)), rfl, false, congrArg V.bl (len1 hlen (Nat.succ_ne_zero _)), iteF ?_⟩
      refine ⟨_, rfl, rfl, false, congrArg V.bl (by decide +kernel), iteF ?_⟩
      refine ⟨_, rfl, rfl, false, congrArg V.bl (by decide +kernel), iteF ?_⟩
      refine ⟨_, rfl, rfl, false, congrArg V.bl (by decide +kernel), iteF ?_⟩
      refine ⟨_, rfl, (by show 2 ≤ sizeLine; decide), fun p2 hp2 => ?_⟩
      have k3 := k2.then (Kp.new (o := .lst [.str "both", .str "any"]) hp2)
      have l3 := (Kp.new (o := .lst [.str "both", .str "any"]) hp2).lst0 l2
      refine ⟨p2, _, rfl, .inl (SqL.of upd_same), rfl, rfl, false, congrArg V.bl (by decide +kernel), iteF ?_⟩
      refine ⟨_, rfl, (by show 2 ≤ sizeLine; decide), fun p3 hp3 => ?_⟩
      have k4 := k3.then (Kp.new (o := .lst [.str "less", .str "alike"]) hp3)
      have l4 := (Kp.new (o := .lst [.str "less", .str "alike"]) hp3).lst0 l3
      refine ⟨p3, _, rfl, .inl (SqL.of upd_same), rfl, rfl, true, congrArg V.bl (by decide +kernel), iteT ?_⟩
      refine ⟨_, rfl, D, _, _, _, rfl, rfl, SqL.of l4, at_of (j := 0) rfl rfl, _, rfl, D, _, _, _, rfl, rfl, SqL.of l4, at_of (j := 1) rfl rfl, _, _, rfl, rfl, _, rfl, D, _, _, _, rfl, rfl, SqL.of l4, at_of (j := 0) rfl rfl, _, rfl, D, _, _, _, rfl, rfl, SqL.of l4, at_of (j := 1) rfl rfl, rfl, ?_⟩
      refine ⟨(by show 2 ≤ sizeLine; decide), fun pv hpv => ?_⟩
      have k5 := k4.then (Kp.new (o := .lst [.bl (decide (a < b)), .bl (decide (V.int a = V.int b))]) hpv)
      have l5 := (Kp.new (o := .lst [.bl (decide (a < b)), .bl (decide (V.int a = V.int b))]) hpv).lst0 l4
      refine ⟨(by show 2 ≤ sizeLine; decide), fun pl hpl => ?_⟩
      have k6 := k5.then (Kp.new (o := .lst [.str "less", .str "alike"]) hpl)
      have l6 := (Kp.new (o := .lst [.str "less", .str "alike"]) hpl).lst0 l5
      exact ⟨.inl ⟨rfl, _, SqL.of upd_same⟩, _, rfl, pl, _, .str "less", 0, .str "less", rfl, rfl, SqL.of upd_same, rfl, rfl, rfl, (by decide +kernel), (nb_of (by decide +kernel)), pv, _, _, _, rfl, rfl, SqL.of ((Kp.new hpl).lst0 upd_same), at_of (j := 0) rfl rfl, q _ k6⟩
    | alike a b =>
      refine ⟨_, rfl, (by show 3 ≤ sizeLine; decide), fun p0 hp0 => ?_⟩
      have k1 := k0.then (Kp.new (o := .lst [.str "x", .str "y", .str "z"]) hp0)
      have l1 := (Kp.new (o := .lst [.str "x", .str "y", .str "z"]) hp0).lst0 l0
      refine ⟨p0, _, rfl, .inl (SqL.of upd_same), rfl, rfl, false, congrArg V.bl (by decide +kernel), iteF ?_⟩
      refine ⟨_, rfl, (by show 2 ≤ sizeLine; decide), fun p1 hp1 => ?_⟩
      have k2 := k1.then (Kp.new (o := .lst [.str "yes", .str "no"]) hp1)
      have l2 := (Kp.new (o := .lst [.str "yes", .str "no"]) hp1).lst0 l1
      refine ⟨p1, _, rfl, .inl (SqL.of upd_same), rfl, rfl, false, congrArg V.bl (by decide +kernel), iteF ?_⟩
      refine ⟨_, rfl, p, _, rfl, .inr (SqT.of (k2.tup0 hp)), rfl, false, congrArg V.bl (len1 hlen (Nat.succ_ne_zero _)), iteF ?_⟩
      refine ⟨_, rfl, rfl, false, congrArg V.bl (by decide +kernel), iteF ?_⟩
      refine ⟨_, rfl, rfl, false, congrArg V.bl (by decide +kernel), iteF ?_⟩
      refine ⟨_, rfl, rfl, false, congrArg V.bl (by decide +kernel), iteF ?_⟩
      refine ⟨_, rfl, (by show 2 ≤ sizeLine; decide), fun p2 hp2 => ?_⟩
      have k3 := k2.then (Kp.new (o := .lst [.str "both", .str "any"]) hp2)
      have l3 := (Kp.new (o := .lst [.str "both", .str "any"]) hp2).lst0 l2
      refine ⟨p2, _, rfl, .inl (SqL.of upd_same), rfl, rfl, false, congrArg V.bl (by decide +kernel), iteF ?_⟩
      refine ⟨_, rfl, (by show 2 ≤ sizeLine; decide), fun p3 hp3 => ?_⟩
      have k4 := k3.then (Kp.new (o := .lst [.str "less", .str "alike"]) hp3)
      have l4 := (Kp.new (o := .lst [.str "less", .str "alike"]) hp3).lst0 l3
      refine ⟨p3, _, rfl, .inl (SqL.of upd_same), rfl, rfl, true, congrArg V.bl (by decide +kernel), iteT ?_⟩
      rw [← dec_ints] at q
      refine ⟨_, rfl, D, _, _, _, rfl, rfl, SqL.of l4, at_of (j := 0) rfl rfl, _, rfl, D, _, _, _, rfl, rfl, SqL.of l4, at_of (j := 1) rfl rfl, _, _, rfl, rfl, _, rfl, D, _, _, _, rfl, rfl, SqL.of l4, at_of (j := 0) rfl rfl, _, rfl, D, _, _, _, rfl, rfl, SqL.of l4, at_of (j := 1) rfl rfl, rfl, ?_⟩
      refine ⟨(by show 2 ≤ sizeLine; decide), fun pv hpv => ?_⟩
      have k5 := k4.then (Kp.new (o := .lst [.bl (decide (a < b)), .bl (decide (V.int a = V.int b))]) hpv)
      have l5 := (Kp.new (o := .lst [.bl (decide (a < b)), .bl (decide (V.int a = V.int b))]) hpv).lst0 l4
      refine ⟨(by show 2 ≤ sizeLine; decide), fun pl hpl => ?_⟩
      have k6 := k5.then (Kp.new (o := .lst [.str "less", .str "alike"]) hpl)
      have l6 := (Kp.new (o := .lst [.str "less", .str "alike"]) hpl).lst0 l5
      exact ⟨.inl ⟨rfl, _, SqL.of upd_same⟩, _, rfl, pl, _, .str "alike", 1, .str "alike", rfl, rfl, SqL.of upd_same, rfl, rfl, rfl, (by decide +kernel), (nb_of (by decide +kernel)), pv, _, _, _, rfl, rfl, SqL.of ((Kp.new hpl).lst0 upd_same), at_of (j := 1) rfl rfl, q _ k6⟩
    | both a b =>
      refine ⟨_, rfl, (by show 3 ≤ sizeLine; decide), fun p0 hp0 => ?_⟩
      have k1 := k0.then (Kp.new (o := .lst [.str "x", .str "y", .str "z"]) hp0)
      have l1 := (Kp.new (o := .lst [.str "x", .str "y", .str "z"]) hp0).lst0 l0
      refine ⟨p0, _, rfl, .inl (SqL.of upd_same), rfl, rfl, false, congrArg V.bl (by decide +kernel), iteF ?_⟩
      refine ⟨_, rfl, (by show 2 ≤ sizeLine; decide), fun p1 hp1 => ?_⟩
      have k2 := k1.then (Kp.new (o := .lst [.str "yes", .str "no"]) hp1)
      have l2 := (Kp.new (o := .lst [.str "yes", .str "no"]) hp1).lst0 l1
      refine ⟨p1, _, rfl, .inl (SqL.of upd_same), rfl, rfl, false, congrArg V.bl (by decide +kernel), iteF ?_⟩
      refine ⟨_, rfl, p, _, rfl, .inr (SqT.of (k2.tup0 hp)), rfl, false, congrArg V.bl (len1 hlen (Nat.succ_ne_zero _)), iteF ?_⟩
      refine ⟨_, rfl, rfl, false, congrArg V.bl (by decide +kernel), iteF ?_⟩
      refine ⟨_, rfl, rfl, false, congrArg V.bl (by decide +kernel), iteF ?_⟩
      refine ⟨_, rfl, rfl, false, congrArg V.bl (by decide +kernel), iteF ?_⟩
      refine ⟨_, rfl, (by show 2 ≤ sizeLine; decide), fun p2 hp2 => ?_⟩
      have k3 := k2.then (Kp.new (o := .lst [.str "both", .str "any"]) hp2)
      have l3 := (Kp.new (o := .lst [.str "both", .str "any"]) hp2).lst0 l2
      refine ⟨p2, _, rfl, .inl (SqL.of upd_same), rfl, rfl, true, congrArg V.bl (by decide +kernel), iteT ?_⟩
      cases a with
      | false =>
        refine ⟨_, rfl, D, _, _, _, rfl, rfl, SqL.of l3, at_of (j := 0) rfl rfl, false, rfl, _, rfl, D, _, _, _, rfl, rfl, SqL.of l3, at_of (j := 0) rfl rfl, false, rfl, _, rfl, D, _, _, _, rfl, rfl, SqL.of l3, at_of (j := 1) rfl rfl, ?_⟩
        refine ⟨(by show 2 ≤ sizeLine; decide), fun pv hpv => ?_⟩
        have k4 := k3.then (Kp.new (o := .lst [.bl false, .bl b]) hpv)
        have l4 := (Kp.new (o := .lst [.bl false, .bl b]) hpv).lst0 l3
        refine ⟨(by show 2 ≤ sizeLine; decide), fun pl hpl => ?_⟩
        have k5 := k4.then (Kp.new (o := .lst [.str "both", .str "any"]) hpl)
        have l5 := (Kp.new (o := .lst [.str "both", .str "any"]) hpl).lst0 l4
        exact ⟨.inl ⟨rfl, _, SqL.of upd_same⟩, _, rfl, pl, _, .str "both", 0, .str "both", rfl, rfl, SqL.of upd_same, rfl, rfl, rfl, (by decide +kernel), (nb_of (by decide +kernel)), pv, _, _, _, rfl, rfl, SqL.of ((Kp.new hpl).lst0 upd_same), at_of (j := 0) rfl rfl, q _ k5⟩
      | true =>
        refine ⟨_, rfl, D, _, _, _, rfl, rfl, SqL.of l3, at_of (j := 0) rfl rfl, true, rfl, _, rfl, D, _, _, _, rfl, rfl, SqL.of l3, at_of (j := 1) rfl rfl, _, rfl, D, _, _, _, rfl, rfl, SqL.of l3, at_of (j := 0) rfl rfl, true, rfl, ?_⟩
        refine ⟨(by show 2 ≤ sizeLine; decide), fun pv hpv => ?_⟩
        have k4 := k3.then (Kp.new (o := .lst [.bl b, .bl true]) hpv)
        have l4 := (Kp.new (o := .lst [.bl b, .bl true]) hpv).lst0 l3
        refine ⟨(by show 2 ≤ sizeLine; decide), fun pl hpl => ?_⟩
        have k5 := k4.then (Kp.new (o := .lst [.str "both", .str "any"]) hpl)
        have l5 := (Kp.new (o := .lst [.str "both", .str "any"]) hpl).lst0 l4
        exact ⟨.inl ⟨rfl, _, SqL.of upd_same⟩, _, rfl, pl, _, .str "both", 0, .str "both", rfl, rfl, SqL.of upd_same, rfl, rfl, rfl, (by decide +kernel), (nb_of (by decide +kernel)), pv, _, _, _, rfl, rfl, SqL.of ((Kp.new hpl).lst0 upd_same), at_of (j := 0) rfl rfl, q _ k5⟩
    | any a b =>
      refine ⟨_, rfl, (by show 3 ≤ sizeLine; decide), fun p0 hp0 => ?_⟩
      have k1 := k0.then (Kp.new (o := .lst [.str "x", .str "y", .str "z"]) hp0)
      have l1 := (Kp.new (o := .lst [.str "x", .str "y", .str "z"]) hp0).lst0 l0
      refine ⟨p0, _, rfl, .inl (SqL.of upd_same), rfl, rfl, false, congrArg V.bl (by decide +kernel), iteF ?_⟩
      refine ⟨_, rfl, (by show 2 ≤ sizeLine; decide), fun p1 hp1 => ?_⟩
      have k2 := k1.then (Kp.new (o := .lst [.str "yes", .str "no"]) hp1)
      have l2 := (Kp.new (o := .lst [.str "yes", .str "no"]) hp1).lst0 l1
      refine ⟨p1, _, rfl, .inl (SqL.of upd_same), rfl, rfl, false, congrArg V.bl (by decide +kernel), iteF ?_⟩
      refine ⟨_, rfl, p, _, rfl, .inr (SqT.of (k2.tup0 hp)), rfl, false, congrArg V.bl (len1 hlen (Nat.succ_ne_zero _)), iteF ?_⟩
      refine ⟨_, rfl, rfl, false, congrArg V.bl (by decide +kernel), iteF ?_⟩
      refine ⟨_, rfl, rfl, false, congrArg V.bl (by decide +kernel), iteF ?_⟩
      refine ⟨_, rfl, rfl, false, congrArg V.bl (by decide +kernel), iteF ?_⟩
      refine ⟨_, rfl, (by show 2 ≤ sizeLine; decide), fun p2 hp2 => ?_⟩
      have k3 := k2.then (Kp.new (o := .lst [.str "both", .str "any"]) hp2)
      have l3 := (Kp.new (o := .lst [.str "both", .str "any"]) hp2).lst0 l2
      refine ⟨p2, _, rfl, .inl (SqL.of upd_same), rfl, rfl, true, congrArg V.bl (by decide +kernel), iteT ?_⟩
      cases a with
      | false =>
        refine ⟨_, rfl, D, _, _, _, rfl, rfl, SqL.of l3, at_of (j := 0) rfl rfl, false, rfl, _, rfl, D, _, _, _, rfl, rfl, SqL.of l3, at_of (j := 0) rfl rfl, false, rfl, _, rfl, D, _, _, _, rfl, rfl, SqL.of l3, at_of (j := 1) rfl rfl, ?_⟩
        refine ⟨(by show 2 ≤ sizeLine; decide), fun pv hpv => ?_⟩
        have k4 := k3.then (Kp.new (o := .lst [.bl false, .bl b]) hpv)
        have l4 := (Kp.new (o := .lst [.bl false, .bl b]) hpv).lst0 l3
        refine ⟨(by show 2 ≤ sizeLine; decide), fun pl hpl => ?_⟩
        have k5 := k4.then (Kp.new (o := .lst [.str "both", .str "any"]) hpl)
        have l5 := (Kp.new (o := .lst [.str "both", .str "any"]) hpl).lst0 l4
        exact ⟨.inl ⟨rfl, _, SqL.of upd_same⟩, _, rfl, pl, _, .str "any", 1, .str "any", rfl, rfl, SqL.of upd_same, rfl, rfl, rfl, (by decide +kernel), (nb_of (by decide +kernel)), pv, _, _, _, rfl, rfl, SqL.of ((Kp.new hpl).lst0 upd_same), at_of (j := 1) rfl rfl, q _ k5⟩
      | true =>
        refine ⟨_, rfl, D, _, _, _, rfl, rfl, SqL.of l3, at_of (j := 0) rfl rfl, true, rfl, _, rfl, D, _, _, _, rfl, rfl, SqL.of l3, at_of (j := 1) rfl rfl, _, rfl, D, _, _, _, rfl, rfl, SqL.of l3, at_of (j := 0) rfl rfl, true, rfl, ?_⟩
        refine ⟨(by show 2 ≤ sizeLine; decide), fun pv hpv => ?_⟩
        have k4 := k3.then (Kp.new (o := .lst [.bl b, .bl true]) hpv)
        have l4 := (Kp.new (o := .lst [.bl b, .bl true]) hpv).lst0 l3
        refine ⟨(by show 2 ≤ sizeLine; decide), fun pl hpl => ?_⟩
        have k5 := k4.then (Kp.new (o := .lst [.str "both", .str "any"]) hpl)
        have l5 := (Kp.new (o := .lst [.str "both", .str "any"]) hpl).lst0 l4
        exact ⟨.inl ⟨rfl, _, SqL.of upd_same⟩, _, rfl, pl, _, .str "any", 1, .str "any", rfl, rfl, SqL.of upd_same, rfl, rfl, rfl, (by decide +kernel), (nb_of (by decide +kernel)), pv, _, _, _, rfl, rfl, SqL.of ((Kp.new hpl).lst0 upd_same), at_of (j := 1) rfl rfl, q _ k5⟩
    | neg a =>
      refine ⟨_, rfl, (by show 3 ≤ sizeLine; decide), fun p0 hp0 => ?_⟩
      have k1 := k0.then (Kp.new (o := .lst [.str "x", .str "y", .str "z"]) hp0)
      have l1 := (Kp.new (o := .lst [.str "x", .str "y", .str "z"]) hp0).lst0 l0
      refine ⟨p0, _, rfl, .inl (SqL.of upd_same), rfl, rfl, false, congrArg V.bl (by decide +kernel), iteF ?_⟩
      refine ⟨_, rfl, (by show 2 ≤ sizeLine; decide), fun p1 hp1 => ?_⟩
      have k2 := k1.then (Kp.new (o := .lst [.str "yes", .str "no"]) hp1)
      have l2 := (Kp.new (o := .lst [.str "yes", .str "no"]) hp1).lst0 l1
      refine ⟨p1, _, rfl, .inl (SqL.of upd_same), rfl, rfl, false, congrArg V.bl (by decide +kernel), iteF ?_⟩
      refine ⟨_, rfl, p, _, rfl, .inr (SqT.of (k2.tup0 hp)), rfl, false, congrArg V.bl (len1 hlen (Nat.succ_ne_zero _)), iteF ?_⟩
      refine ⟨_, rfl, rfl, true, congrArg V.bl (by decide +kernel), iteT ?_⟩
      exact ⟨_, rfl, D, _, _, _, rfl, rfl, SqL.of l2, at_of (j := 0) rfl rfl, _, _, rfl, rfl, by show Q (.int (0 - a)) _; rw [Int.zero_sub]; exact q _ k2⟩
    | not a =>
      refine ⟨_, rfl, (by show 3 ≤ sizeLine; decide), fun p0 hp0 => ?_⟩
      have k1 := k0.then (Kp.new (o := .lst [.str "x", .str "y", .str "z"]) hp0)
      have l1 := (Kp.new (o := .lst [.str "x", .str "y", .str "z"]) hp0).lst0 l0
      refine ⟨p0, _, rfl, .inl (SqL.of upd_same), rfl, rfl, false, congrArg V.bl (by decide +kernel), iteF ?_⟩
      refine ⟨_, rfl, (by show 2 ≤ sizeLine; decide), fun p1 hp1 => ?_⟩
      have k2 := k1.then (Kp.new (o := .lst [.str "yes", .str "no"]) hp1)
      have l2 := (Kp.new (o := .lst [.str "yes", .str "no"]) hp1).lst0 l1
      refine ⟨p1, _, rfl, .inl (SqL.of upd_same), rfl, rfl, false, congrArg V.bl (by decide +kernel), iteF ?_⟩
      refine ⟨_, rfl, p, _, rfl, .inr (SqT.of (k2.tup0 hp)), rfl, false, congrArg V.bl (len1 hlen (Nat.succ_ne_zero _)), iteF ?_⟩
      refine ⟨_, rfl, rfl, false, congrArg V.bl (by decide +kernel), iteF ?_⟩
      refine ⟨_, rfl, rfl, true, congrArg V.bl (by decide +kernel), iteT ?_⟩
      exact ⟨_, rfl, D, _, _, _, rfl, rfl, SqL.of l2, at_of (j := 0) rfl rfl, _, rfl, q _ k2⟩
    | pick a b c =>
      refine ⟨_, rfl, (by show 3 ≤ sizeLine; decide), fun p0 hp0 => ?_⟩
      have k1 := k0.then (Kp.new (o := .lst [.str "x", .str "y", .str "z"]) hp0)
      have l1 := (Kp.new (o := .lst [.str "x", .str "y", .str "z"]) hp0).lst0 l0
      refine ⟨p0, _, rfl, .inl (SqL.of upd_same), rfl, rfl, false, congrArg V.bl (by decide +kernel), iteF ?_⟩
      refine ⟨_, rfl, (by show 2 ≤ sizeLine; decide), fun p1 hp1 => ?_⟩
      have k2 := k1.then (Kp.new (o := .lst [.str "yes", .str "no"]) hp1)
      have l2 := (Kp.new (o := .lst [.str "yes", .str "no"]) hp1).lst0 l1
      refine ⟨p1, _, rfl, .inl (SqL.of upd_same), rfl, rfl, false, congrArg V.bl (by decide +kernel), iteF ?_⟩
      refine ⟨_, rfl, p, _, rfl, .inr (SqT.of (k2.tup0 hp)), rfl, false, congrArg V.bl (len1 hlen (Nat.succ_ne_zero _)), iteF ?_⟩
      refine ⟨_, rfl, rfl, false, congrArg V.bl (by decide +kernel), iteF ?_⟩
      refine ⟨_, rfl, rfl, false, congrArg V.bl (by decide +kernel), iteF ?_⟩
      refine ⟨_, rfl, rfl, true, congrArg V.bl (by decide +kernel), iteT ?_⟩
      refine ⟨_, rfl, D, _, _, _, rfl, rfl, SqL.of l2, at_of (j := 0) rfl rfl, a, rfl, ?_⟩
      cases a with
      | false => exact ⟨_, rfl, D, _, _, _, rfl, rfl, SqL.of l2, at_of (j := 2) rfl rfl, q _ k2⟩
      | true => exact ⟨_, rfl, D, _, _, _, rfl, rfl, SqL.of l2, at_of (j := 1) rfl rfl, q _ k2⟩
    | yes =>
      refine ⟨_, rfl, (by show 3 ≤ sizeLine; decide), fun p0 hp0 => ?_⟩
      have k1 := k0.then (Kp.new (o := .lst [.str "x", .str "y", .str "z"]) hp0)
      have l1 := (Kp.new (o := .lst [.str "x", .str "y", .str "z"]) hp0).lst0 l0
      refine ⟨p0, _, rfl, .inl (SqL.of upd_same), rfl, rfl, false, congrArg V.bl (by decide +kernel), iteF ?_⟩
      refine ⟨_, rfl, (by show 2 ≤ sizeLine; decide), fun p1 hp1 => ?_⟩
      have k2 := k1.then (Kp.new (o := .lst [.str "yes", .str "no"]) hp1)
      have l2 := (Kp.new (o := .lst [.str "yes", .str "no"]) hp1).lst0 l1
      refine ⟨p1, _, rfl, .inl (SqL.of upd_same), rfl, rfl, true, congrArg V.bl (by decide +kernel), iteT ?_⟩
      refine ⟨_, rfl, rfl, ?_⟩
      rw [show decide (V.str "yes" = V.str "yes") = true from by decide +kernel]
      exact q _ k2
    | no =>
      refine ⟨_, rfl, (by show 3 ≤ sizeLine; decide), fun p0 hp0 => ?_⟩
      have k1 := k0.then (Kp.new (o := .lst [.str "x", .str "y", .str "z"]) hp0)
      have l1 := (Kp.new (o := .lst [.str "x", .str "y", .str "z"]) hp0).lst0 l0
      refine ⟨p0, _, rfl, .inl (SqL.of upd_same), rfl, rfl, false, congrArg V.bl (by decide +kernel), iteF ?_⟩
      refine ⟨_, rfl, (by show 2 ≤ sizeLine; decide), fun p1 hp1 => ?_⟩
      have k2 := k1.then (Kp.new (o := .lst [.str "yes", .str "no"]) hp1)
      have l2 := (Kp.new (o := .lst [.str "yes", .str "no"]) hp1).lst0 l1
      refine ⟨p1, _, rfl, .inl (SqL.of upd_same), rfl, rfl, true, congrArg V.bl (by decide +kernel), iteT ?_⟩
      refine ⟨_, rfl, rfl, ?_⟩
      rw [show decide (V.str "no" = V.str "yes") = false from by decide +kernel]
      exact q _ k2
theorem ok_lv {f : Addr} {fd : FuncData} (F__law_value : Fun K "_law_value" "_law_value" s__law_value f fd) (T : Txt0 mg) (b__law_value : Binds K fd ["term", "world"] []) (g__law_value : mg "_law_value" = some (.ref f)) : ∀ n, FnOk P w K mg base CX0 n f fd ["term", "world"] (spLV n)
  | 0 => ok_never fun vs H Q E ⟨_, t, _, _, _, _, _, h, _⟩ => absurd (Tm.dep_pos t) (by omega)
  | n + 1 => ok_lv_step F__law_value T b__law_value g__law_value (ok_lv F__law_value T b__law_value g__law_value n)
end
end K08

set_option Elab.async false
set_option maxRecDepth 100000
set_option maxHeartbeats 8000000
set_option pp.maxSteps 1500
namespace K08
open PySem L2
/-! ### drawn terms -/
def DrAt (H : Hp) (d : Addr) : Prop := ∃ ms : List Int, H d = some (.lst (ms.map V.int)) ∧ ms.length ≤ 10000
theorem DrAt.kp {H H' : Hp} {M : List Addr} {d : Addr} (h : DrAt H d) (k : Kp H H' M) (n : d ∉ M) : DrAt H' d := let ⟨ms, e, l⟩ := h; ⟨ms, k.lst e n, l⟩
theorem DrAt.kp0 {H H' : Hp} {d : Addr} (h : DrAt H d) (k : Kp H H' []) : DrAt H' d := h.kp k (by simp)
theorem DrAt.nt {H : Hp} {d : Addr} (h : DrAt H d) : ∀ m ∈ [d], ∀ xs, H m ≠ some (.tup xs) := fun m hm xs e => by
  obtain ⟨ms, z, _⟩ := h
  rw [List.mem_singleton.mp hm, z] at e
  cases e
theorem DrAt.nb {H : Hp} {d : Addr} (h : DrAt H d) : ∀ m ∈ [d], ∀ ps, H m ≠ some (.tbl ps) := fun m hm xs e => by
  obtain ⟨ms, z, _⟩ := h
  rw [List.mem_singleton.mp hm, z] at e
  cases e
theorem DrAt.ne {H : Hp} {d x : Addr} (h : DrAt H d) (hx : H x = none) : x ≠ d := let ⟨_, e, _⟩ := h; nw e hx
def spTk : Sp := fun vs H Q _ => ∃ (d : Addr) (b : Int), vs = [.ref d, .int b] ∧ DrAt H d ∧ 0 < b ∧ ∀ (z : Int) (H' : Hp), 0 ≤ z → z < b → Kp H H' [d] → DrAt H' d → Q (.int z) H'
def spLeaf : Sp := fun vs H Q _ => ∃ r : V, vs = [r] ∧ LitV r ∧ (litOf r = none → Q .non H) ∧ ∀ n, litOf r = some n → ∀ H' p, Kp H H' [] → H' p = some (.tup [.str n]) → Q (.ref p) H'
inductive Gn : Nat → Bool → Tm → Prop
  | inp (n : Nat) (c : Str) (h : c ∈ (["x", "y", "z"] : List Str)) : Gn n false (.lf c)
  | num (n k : Nat) (h : k < 1999) : Gn n false (.lf (toString ((k : Int) - 999)))
  | tv (n : Nat) (c : Str) (h : c ∈ (["yes", "no"] : List Str)) : Gn n true (.lf c)
  | neg {n : Nat} {a : Tm} (ha : Gn n false a) : Gn (n + 1) false (.un "neg" a)
  | not {n : Nat} {a : Tm} (ha : Gn n true a) : Gn (n + 1) true (.un "not" a)
  | pick {n : Nat} {a b c : Tm} (ha : Gn n true a) (hb : Gn n false b) (hc : Gn n false c) : Gn (n + 1) false (.tr "pick" a b c)
  | ar {n : Nat} {a b : Tm} (o : Str) (h : o ∈ (["add", "sub", "mul", "min", "max"] : List Str)) (ha : Gn n false a) (hb : Gn n false b) : Gn (n + 1) false (.bi o a b)
  | lg {n : Nat} {a b : Tm} (o : Str) (h : o ∈ (["both", "any"] : List Str)) (ha : Gn n true a) (hb : Gn n true b) : Gn (n + 1) true (.bi o a b)
  | cm {n : Nat} {a b : Tm} (o : Str) (h : o ∈ (["less", "alike"] : List Str)) (ha : Gn n false a) (hb : Gn n false b) : Gn (n + 1) true (.bi o a b)
def spG (s : Bool) (n : Nat) : Sp := fun vs H Q _ => ∃ (d : Addr), vs = [.ref d, .int (n : Int)] ∧ DrAt H d ∧ ∀ H' v t, Kp H H' [d] → DrAt H' d → TmAt H' t v → Gn n s t → Q v H'
section
variable {P : Program} {w : World} {K : PySem.W.Frag} {mg : Str → Option Value} {base : Heap}
theorem ok_tk {f : Addr} {fd : FuncData} (F : Fun K "_law_take" "_law_take" s__law_take f fd) (T : Txt0 mg) : FnOk P w K mg base CX0 1 f fd ["draws", "bound"] spTk := by
  have G := ok_take F T (P := P) (w := w) (base := base)
  refine ⟨fun vs H Q E h => ?_, fun A outer s H args us vs Q E hr e0 hb hv h => G.run A outer s H args us vs Q E hr e0 hb hv ?_⟩
  · obtain ⟨d, b, rfl, _⟩ := h
    rfl
  · obtain ⟨d, b, rfl, ⟨ms, hd, l⟩, h0, q⟩ := h
    exact ⟨d, b, ms, rfl, hd, h0, fun z ks z0 z1 lk => q z _ z0 z1 (Kp.wl hd) ⟨ks, upd_same, Nat.le_trans lk l⟩⟩
theorem sc__law_leaf : FnScope ["value"] ["value"] (defScope s__law_leaf) := ⟨rfl, rfl, rfl, by decide +kernel, rfl, by decide +kernel, by decide +kernel⟩
theorem ok_leaf {f : Addr} {fd : FuncData} (F : Fun K "_law_leaf" "_law_leaf" s__law_leaf f fd) (T : Txt0 mg) : FnOk P w K mg base CX0 1 f fd ["value"] spLeaf := by
  refine F.ok sc__law_leaf (fun vs H Q E h => ?_) (fun cdv A outer s H vs Q E hr h => ?_)
  · obtain ⟨r, rfl, _⟩ := h
    rfl
  obtain ⟨r, rfl, hl, qn, qs⟩ := h
  have nd := sc__law_leaf.nd
  refine ⟨_, (pss_cons (ps_if (pt_val (pe_callB call_isi (by rfl) T.B.isinstance (by decide +kernel) (pa_cons (pv 0) (pa_cons (pe_bltn (v := .ty "bool") (by rfl) T.B.bool (by decide +kernel) rfl) pa_nil)))) 
      (pss_one (ps_ret (pe_ifExp (pt_truth (pv 0) (by intro _; rfl)) (pe_tup (pa_cons pe_str pa_nil)) (pe_tup (pa_cons pe_str pa_nil))))) pss_nil)
    (pss_one (ps_ret (pe_ifExp (pt_cmpR op_lt (pe_callB call_abs (by rfl) T.B.abs (by decide +kernel) (pa_cons (pv 0) pa_nil)) pe_int (nomark _)) (pe_tup (pa_cons (pe_callTy call_str_int (by rfl) T.B.str (by decide +kernel) (pa_cons (pv 0) pa_nil)) pa_nil)) pe_non)))), ?_⟩
  rcases hl with ⟨i, rfl⟩ | ⟨b, rfl⟩
  · refine ⟨_, rfl, _, .ty "bool", _, _, false, rfl, .ty _, .base (.int _), kit_ty (by decide +kernel), false, rfl, iteF ?_⟩
    refine ⟨_, rfl, _, rfl, _, _, rfl, rfl, _, rfl, ?_⟩
    have e : decide ((if i < 0 then -i else i) < 1000) = inR (.int i) (-999) 999 := by
      show _ = (decide (-999 ≤ i) && decide (i ≤ 999))
      by_cases h : i < 0
      · rw [if_pos h, decide_eq_true (show i ≤ 999 by omega), Bool.and_true]
        by_cases h2 : -999 ≤ i
        · rw [decide_eq_true h2, decide_eq_true (by omega)]
        · rw [decide_eq_false h2, decide_eq_false (by omega)]
      · rw [if_neg h, decide_eq_true (show -999 ≤ i by omega), Bool.true_and]
        by_cases h2 : i ≤ 999
        · rw [decide_eq_true h2, decide_eq_true (by omega)]
        · rw [decide_eq_false h2, decide_eq_false (by omega)]
    rw [e]
    cases hb : inR (.int i) (-999) 999 with
    | true =>
      have hb2 : (decide (-999 ≤ i) && decide (i ≤ 999)) = true := hb
      rw [Bool.and_eq_true, decide_eq_true_eq, decide_eq_true_eq] at hb2
      refine iteT ⟨_, rfl, _, rfl, Nat.lt_of_le_of_lt (Nat.log2_le_self _) (by omega), (by show 1 ≤ sizeLine; decide), fun p hp => ?_⟩
      refine qs (toString i) ?_ _ p (Kp.new hp) upd_same
      show (if inR (.int i) (-999) 999 = true then some (toString i : Str) else none) = _
      rw [if_pos hb]
    | false =>
      refine iteF (qn ?_)
      show (if inR (.int i) (-999) 999 = true then some (toString i : Str) else none) = _
      rw [hb]
      rfl
  · refine ⟨_, rfl, _, .ty "bool", _, _, true, rfl, .ty _, .base (.bl _), kit_ty (by decide +kernel), true, rfl, iteT ?_⟩
    cases b with
    | true => exact ⟨_, rfl, true, rfl, iteT ⟨(by show 1 ≤ sizeLine; decide), fun p hp => qs "yes" rfl _ p (Kp.new hp) upd_same⟩⟩
    | false => exact ⟨_, rfl, false, rfl, iteF ⟨(by show 1 ≤ sizeLine; decide), fun p hp => qs "no" rfl _ p (Kp.new hp) upd_same⟩⟩
end
end K08

set_option Elab.async false
set_option maxRecDepth 100000
set_option maxHeartbeats 8000000
set_option pp.maxSteps 1500
namespace K08
open PySem L2
/-- the num at a place, as one told by an index -/
theorem nu_at {z : Int} (h0 : 0 ≤ z) (h1 : z < 1999) (n : Nat) : Gn n false (.lf (toString (z - 999))) := by
  obtain ⟨k, rfl⟩ := Int.eq_ofNat_of_zero_le h0
  exact .num n k (by omega)
section
variable {P : Program} {w : World} {K : PySem.W.Frag} {mg : Str → Option Value} {base : Heap}
theorem sc__law_num : FnScope ["draws", "deep", "kind"] ["draws", "deep"] (defScope s__law_num) := ⟨rfl, rfl, rfl, by decide +kernel, rfl, by decide +kernel, by decide +kernel⟩
theorem ok_num_step {f fT f1 : Addr} {fd fdT fd1 : FuncData} (F__law_num : Fun K "_law_num" "_law_num" s__law_num f fd) (T : Txt0 mg) (b__law_num : Binds K fd ["draws", "deep"] []) (g__law_num : mg "_law_num" = some (.ref f))
    (F__law_truth : Fun K "_law_truth" "_law_truth" s__law_truth fT fdT) (b__law_truth : Binds K fdT ["draws", "deep"] []) (g__law_truth : mg "_law_truth" = some (.ref fT))
    (G__law_take : FnOk P w K mg base CX0 1 f1 fd1 ["draws", "bound"] spTk) (F__law_take : Fun K "_law_take" "_law_take" s__law_take f1 fd1) (b__law_take : Binds K fd1 ["draws", "bound"] []) (g__law_take : mg "_law_take" = some (.ref f1)) {k n : Nat} (hk : 1 ≤ k) {spn spt : Sp}
    (G__law_num : FnOk P w K mg base CX0 k f fd ["draws", "deep"] spn) (G__law_truth : FnOk P w K mg base CX0 k fT fdT ["draws", "deep"] spt) (hs : ∀ m, n = m + 1 → spn = spG false m ∧ spt = spG true m) : FnOk P w K mg base CX0 (k + 1) f fd ["draws", "deep"] (spG false n) := by
  refine F__law_num.ok sc__law_num (fun vs H Q E h => ?_) (fun cdv A outer s H vs Q E hr h => ?_)
  · obtain ⟨d, rfl, _⟩ := h
    rfl
  obtain ⟨d, rfl, D0, q⟩ := h
  have nd := sc__law_num.nd
  have hr1 := hr.mono hk
  refine ⟨_, (pss_cons (ps_set (i := 2) nd rfl (.inl rfl) (pe_call G__law_take hr1 (by rfl) g__law_take F__law_take.kp b__law_take .nil pass0 (pa_cons (pv 0) (pa_cons pe_int pa_nil))))
    (pss_cons (ps_if (PW.pt (pw_or (pt_cmpR op_eq (pv 1) pe_int (nomark _)) (pw_or1 (pt_cmpR op_eq (pv 2) pe_int (nomark _))))) 
      (pss_one (ps_ret (pe_ix ix_list (pe_lst (pa_cons (pe_tup (pa_cons pe_str pa_nil)) (pa_cons (pe_tup (pa_cons pe_str pa_nil)) (pa_cons (pe_tup (pa_cons pe_str pa_nil)) (pa_cons (pe_tup (pa_cons (pe_callTy call_str_int (by rfl) T.B.str (by decide +kernel) (pa_cons (pe_op op_sub (pe_call G__law_take hr1 (by rfl) g__law_take F__law_take.kp b__law_take .nil pass0 (pa_cons (pv 0) (pa_cons pe_int pa_nil))) pe_int) pa_nil)) pa_nil)) (pa_cons (pe_tup (pa_cons (pe_callTy call_str_int (by rfl) T.B.str (by decide +kernel) (pa_cons (pe_op op_sub (pe_call G__law_take hr1 (by rfl) g__law_take F__law_take.kp b__law_take .nil pass0 (pa_cons (pv 0) (pa_cons pe_int pa_nil))) pe_int) pa_nil)) pa_nil)) pa_nil)))))) (pe_call G__law_take hr1 (by rfl) g__law_take F__law_take.kp b__law_take .nil pass0 (pa_cons (pv 0) (pa_cons pe_int pa_nil))) (fun _ _ => rfl)))) pss_nil)
    (pss_cons (ps_if (pt_cmpR op_eq (pv 2) pe_int (nomark _)) 
      (pss_one (ps_ret (pe_tup (pa_cons pe_str (pa_cons (pe_call G__law_num hr (by rfl) g__law_num F__law_num.kp b__law_num .nil pass0 (pa_cons (pv 0) (pa_cons (pe_op op_sub (pv 1) pe_int) pa_nil))) pa_nil))))) pss_nil)
    (pss_cons (ps_if (pt_cmpR op_eq (pv 2) pe_int (nomark _)) 
      (pss_one (ps_ret (pe_tup (pa_cons pe_str (pa_cons (pe_call G__law_truth hr (by rfl) g__law_truth F__law_truth.kp b__law_truth .nil pass0 (pa_cons (pv 0) (pa_cons (pe_op op_sub (pv 1) pe_int) pa_nil))) (pa_cons (pe_call G__law_num hr (by rfl) g__law_num F__law_num.kp b__law_num .nil pass0 (pa_cons (pv 0) (pa_cons (pe_op op_sub (pv 1) pe_int) pa_nil))) (pa_cons (pe_call G__law_num hr (by rfl) g__law_num F__law_num.kp b__law_num .nil pass0 (pa_cons (pv 0) (pa_cons (pe_op op_sub (pv 1) pe_int) pa_nil))) pa_nil))))))) pss_nil)
    (pss_one (ps_ret (pe_tup (pa_cons (pe_ix ix_list (pe_lst (pa_cons pe_str (pa_cons pe_str (pa_cons pe_str (pa_cons pe_str (pa_cons pe_str (pa_cons pe_str pa_nil))))))) (pe_op op_sub (pv 2) pe_int) (fun _ _ => rfl)) (pa_cons (pe_call G__law_num hr (by rfl) g__law_num F__law_num.kp b__law_num .nil pass0 (pa_cons (pv 0) (pa_cons (pe_op op_sub (pv 1) pe_int) pa_nil))) (pa_cons (pe_call G__law_num hr (by rfl) g__law_num F__law_num.kp b__law_num .nil pass0 (pa_cons (pv 0) (pa_cons (pe_op op_sub (pv 1) pe_int) pa_nil))) pa_nil)))))))))), ?_⟩
  refine ⟨_, rfl, d, 9, rfl, D0, by decide, fun z H1 z0 z1 k1 D1 => ?_⟩
  have eqi : ∀ {a b : Int}, a = b → decide (V.int a = V.int b) = true := fun h => decide_eq_true (by rw [h])
  have nei : ∀ {a b : Int}, a ≠ b → decide (V.int a = V.int b) = false := fun h => decide_eq_false fun e => h (V.int.inj e)
  by_cases hz : n = 0 ∨ z = 0
  · refine ⟨_, rfl, rfl, decide (n = 0), congrArg V.bl ?_, ?_⟩
    · by_cases h : n = 0
      · rw [decide_eq_true h, eqi (by rw [h]; rfl)]
      · rw [decide_eq_false h, nei (by omega)]
    have pick : ∀ {A B : Prop}, A → (n ≠ 0 → z = 0 → A → B) → (if decide (n = 0) = true then A else B) := fun a f => by
      by_cases h : n = 0
      · rw [if_pos (decide_eq_true h)]
        exact a
      · rw [if_neg (by rw [decide_eq_false h]; decide)]
        exact f h (hz.resolve_left h) a
    refine pick ?_ fun n0 ez a => ⟨_, rfl, rfl, true, congrArg V.bl (eqi ez), a⟩
    refine iteT ?_
    refine ⟨(by show 1 ≤ sizeLine; decide), fun t1 h1 => ?_⟩
    have k2 : Kp H (upd H1 t1 (.tup [.str "x"])) [d] := k1.then (Kp.new h1)
    have e1 : upd H1 t1 (.tup [.str "x"]) t1 = some (.tup [.str "x"]) := upd_same
    have D2 := D1.kp0 (Kp.new (o := .tup [.str "x"]) h1)
    generalize upd H1 t1 (.tup [.str "x"]) = H2 at k2 e1 D2 ⊢
    refine ⟨(by show 1 ≤ sizeLine; decide), fun t2 h2 => ?_⟩
    have n2 := Kp.new (o := .tup [.str "y"]) h2
    have k3 := k2.then n2
    have e1 := n2.tup0 e1
    have e2 : upd H2 t2 (.tup [.str "y"]) t2 = some (.tup [.str "y"]) := upd_same
    have D3 := D2.kp0 n2
    generalize upd H2 t2 (.tup [.str "y"]) = H3 at n2 k3 e1 e2 D3 ⊢
    refine ⟨(by show 1 ≤ sizeLine; decide), fun t3 h3 => ?_⟩
    have n3 := Kp.new (o := .tup [.str "z"]) h3
    have k4 := k3.then n3
    have e1 := n3.tup0 e1
    have e2 := n3.tup0 e2
    have e3 : upd H3 t3 (.tup [.str "z"]) t3 = some (.tup [.str "z"]) := upd_same
    have D4 := D3.kp0 n3
    generalize upd H3 t3 (.tup [.str "z"]) = H4 at n3 k4 e1 e2 e3 D4 ⊢
    refine ⟨_, rfl, d, 1999, rfl, D4, by decide, fun y1 H5 y10 y11 k5 D5 => ?_⟩
    have nt4 := D4.nt
    have td : ∀ {t : Addr} {xs : List V}, H4 t = some (.tup xs) → H5 t = some (.tup xs) := fun e => k5.tup e fun m => nt4 _ m _ e
    have e1 := td e1
    have e2 := td e2
    have e3 := td e3
    have k5 := k4.both k5
    refine ⟨_, _, rfl, rfl, _, rfl, Nat.lt_of_le_of_lt (Nat.log2_le_self _) (by omega), (by show 1 ≤ sizeLine; decide), fun t4 h4 => ?_⟩
    have n5 := Kp.new (o := .tup [.str (toString (y1 - 999))]) h4
    have k6 := k5.then n5
    have e1 := n5.tup0 e1
    have e2 := n5.tup0 e2
    have e3 := n5.tup0 e3
    have e4 : upd H5 t4 (.tup [.str (toString (y1 - 999))]) t4 = some (.tup [.str (toString (y1 - 999))]) := upd_same
    have D6 := D5.kp0 n5
    show tCons _ _ _ (upd H5 t4 (.tup [.str (toString (y1 - 999))])) _
    generalize upd H5 t4 (.tup [.str (toString (y1 - 999))]) = H6 at n5 k6 e1 e2 e3 e4 D6 ⊢
    refine ⟨_, rfl, d, 9, rfl, D6, by decide, fun y2 H7 y20 y21 k7 D7 => ?_⟩
    have nt6 := D6.nt
    have td : ∀ {t : Addr} {xs : List V}, H6 t = some (.tup xs) → H7 t = some (.tup xs) := fun e => k7.tup e fun m => nt6 _ m _ e
    have e1 := td e1
    have e2 := td e2
    have e3 := td e3
    have e4 := td e4
    have k7 := k6.both k7
    refine ⟨_, _, rfl, rfl, _, rfl, Nat.lt_of_le_of_lt (Nat.log2_le_self _) (by omega), (by show 1 ≤ sizeLine; decide), fun t5 h5 => ?_⟩
    have n7 := Kp.new (o := .tup [.str (toString (y2 - 4))]) h5
    have k8 := k7.then n7
    have e1 := n7.tup0 e1
    have e2 := n7.tup0 e2
    have e3 := n7.tup0 e3
    have e4 := n7.tup0 e4
    have e5 : upd H7 t5 (.tup [.str (toString (y2 - 4))]) t5 = some (.tup [.str (toString (y2 - 4))]) := upd_same
    have D8 := D7.kp0 n7
    show tNil _ (upd H7 t5 (.tup [.str (toString (y2 - 4))])) _
    generalize upd H7 t5 (.tup [.str (toString (y2 - 4))]) = H8 at n7 k8 e1 e2 e3 e4 e5 D8 ⊢
    refine ⟨(by show 5 ≤ sizeLine; decide), fun l hl => ?_⟩
    have n8 := Kp.new (o := .lst [.ref t1, .ref t2, .ref t3, .ref t4, .ref t5]) hl
    have k9 := k8.then n8
    have e1 := n8.tup0 e1
    have e2 := n8.tup0 e2
    have e3 := n8.tup0 e3
    have e4 := n8.tup0 e4
    have e5 := n8.tup0 e5
    have ld := D8.ne hl
    have el : upd H8 l (.lst [.ref t1, .ref t2, .ref t3, .ref t4, .ref t5]) l = some (.lst [.ref t1, .ref t2, .ref t3, .ref t4, .ref t5]) := upd_same
    have D9 := D8.kp0 n8
    generalize upd H8 l (.lst [.ref t1, .ref t2, .ref t3, .ref t4, .ref t5]) = H9 at n8 k9 e1 e2 e3 e4 e5 el D9 ⊢
    refine ⟨_, rfl, d, 5, rfl, D9, by decide, fun y3 H10 y30 y31 k10 D10 => ?_⟩
    have nt9 := D9.nt
    have td : ∀ {t : Addr} {xs : List V}, H9 t = some (.tup xs) → H10 t = some (.tup xs) := fun e => k10.tup e fun m => nt9 _ m _ e
    have el := k10.lst el (nm1 ld)
    have kk := k9.both k10
    have : y3 = 0 ∨ y3 = 1 ∨ y3 = 2 ∨ y3 = 3 ∨ y3 = 4 := by omega
    rcases this with rfl | rfl | rfl | rfl | rfl
    · exact ⟨l, _, _, _, rfl, rfl, SqL.of el, at_of (j := 0) rfl rfl, q _ _ (.lf "x") kk D10 ⟨t1, rfl, td e1⟩ (.inp n "x" (by simp))⟩
    · exact ⟨l, _, _, _, rfl, rfl, SqL.of el, at_of (j := 1) rfl rfl, q _ _ (.lf "y") kk D10 ⟨t2, rfl, td e2⟩ (.inp n "y" (by simp))⟩
    · exact ⟨l, _, _, _, rfl, rfl, SqL.of el, at_of (j := 2) rfl rfl, q _ _ (.lf "z") kk D10 ⟨t3, rfl, td e3⟩ (.inp n "z" (by simp))⟩
    · exact ⟨l, _, _, _, rfl, rfl, SqL.of el, at_of (j := 3) rfl rfl, q _ _ (.lf (toString (y1 - 999))) kk D10 ⟨t4, rfl, td e4⟩ (nu_at y10 y11 n)⟩
    · refine ⟨l, _, _, _, rfl, rfl, SqL.of el, at_of (j := 4) rfl rfl, q _ _ (.lf (toString (y2 - 4))) kk D10 ⟨t5, rfl, td e5⟩ ?_⟩
      have e : y2 - 4 = (y2 + 995) - 999 := by omega
      rw [e]
      exact nu_at (by omega) (by omega) n
  · have n0 : n ≠ 0 := fun h => hz (.inl h)
    have z0' : z ≠ 0 := fun h => hz (.inr h)
    obtain ⟨m, rfl⟩ : ∃ m, n = m + 1 := ⟨n - 1, by omega⟩
    obtain ⟨rfl, rfl⟩ := hs m rfl
    have ed : (((m + 1 : Nat) : Int) - 1) = (m : Int) := by omega
    have eargs : [V.ref d, V.int (((m + 1 : Nat) : Int) - 1)] ++ [] = [V.ref d, V.int (m : Int)] := by rw [ed]; rfl
    refine ⟨_, rfl, rfl, false, congrArg V.bl (nei (by omega)), iteF ⟨_, rfl, rfl, false, congrArg V.bl (nei z0'), iteF ?_⟩⟩
    -- one place
    refine ⟨_, rfl, rfl, decide (z = 1), congrArg V.bl dec_ints, ?_⟩
    by_cases h1 : z = 1
    · rw [decide_eq_true h1]
      refine iteT ⟨_, rfl, _, rfl, _, _, rfl, rfl, ?_⟩
      refine ⟨d, eargs, D1, fun H2 v t k2 D2 ta ga => ?_⟩
      refine ⟨(by show 2 ≤ sizeLine; decide), fun p hp => ?_⟩
      have np := Kp.new (o := .tup [.str "neg", v]) hp
      exact q _ _ (.un "neg" t) ((k1.both k2).then np) (D2.kp0 np) ⟨p, v, rfl, upd_same, ta.kp0 np⟩ (.neg ga)
    rw [decide_eq_false h1]
    refine iteF ⟨_, rfl, rfl, decide (z = 2), congrArg V.bl dec_ints, ?_⟩
    by_cases h2 : z = 2
    · rw [decide_eq_true h2]
      refine iteT ⟨_, rfl, _, rfl, _, _, rfl, rfl, ?_⟩
      refine ⟨d, eargs, D1, fun H2 v t k2 D2 ta ga => ?_⟩
      refine ⟨_, rfl, _, rfl, _, _, rfl, rfl, d, eargs, D2, fun H3 v2 t2 k3 D3 tb gb => ?_⟩
      refine ⟨_, rfl, _, rfl, _, _, rfl, rfl, d, eargs, D3, fun H4 v3 t3 k4 D4 tc gc => ?_⟩
      refine ⟨(by show 4 ≤ sizeLine; decide), fun p hp => ?_⟩
      have np := Kp.new (o := .tup [.str "pick", v, v2, v3]) hp
      have ta := (TmAt.kp k4 D3.nt _ (TmAt.kp k3 D2.nt _ ta)).kp0 np
      have tb := (TmAt.kp k4 D3.nt _ tb).kp0 np
      exact q _ _ (.tr "pick" t t2 t3) ((((k1.both k2).both k3).both k4).then np) (D4.kp0 np) ⟨p, v, v2, v3, rfl, upd_same, ta, tb, tc.kp0 np⟩ (.pick ga gb gc)
    rw [decide_eq_false h2]
    refine iteF ⟨(by show 6 ≤ sizeLine; decide), fun l hl => ?_⟩
    have nl := Kp.new (o := .lst [.str "add", .str "sub", .str "mul", .str "min", .str "max", .str "add"]) hl
    have kl := k1.then nl
    have Dl := D1.kp0 nl
    have el : upd H1 l (.lst [.str "add", .str "sub", .str "mul", .str "min", .str "max", .str "add"]) l = some (.lst [.str "add", .str "sub", .str "mul", .str "min", .str "max", .str "add"]) := upd_same
    generalize upd H1 l (.lst [.str "add", .str "sub", .str "mul", .str "min", .str "max", .str "add"]) = H2 at nl kl Dl el ⊢
    have fin : ∀ (o : Str), o ∈ (["add", "sub", "mul", "min", "max"] : List Str) → tCons (tCall (spG false m) [] E0 (tCons (tVar 0) (tCons (tOp (rI0 fun i j => .int (i - j)) (tVar 1) (tC (.int 1))) tNil))) (tCons (tCall (spG false m) [] E0 (tCons (tVar 0) (tCons (tOp (rI0 fun i j => .int (i - j)) (tVar 1) (tC (.int 1))) tNil))) tNil)
        [some (.ref d), some (.int ((m + 1 : Nat) : Int)), some (.int z)] H2 (fun xs H5 => (V.str o :: xs).length ≤ sizeLine ∧ ∀ p, H5 p = none → Q (.ref p) (upd H5 p (.tup (V.str o :: xs)))) := fun o ho => by
      refine ⟨_, rfl, _, rfl, _, _, rfl, rfl, d, eargs, Dl, fun H3 v t k3 D3 ta ga => ?_⟩
      refine ⟨_, rfl, _, rfl, _, _, rfl, rfl, d, eargs, D3, fun H4 v2 t2 k4 D4 tb gb => ?_⟩
      refine ⟨(by show 3 ≤ sizeLine; decide), fun p hp => ?_⟩
      have np := Kp.new (o := .tup [.str o, v, v2]) hp
      exact q _ _ (.bi o t t2) (((kl.both k3).both k4).then np) (D4.kp0 np) ⟨p, v, v2, rfl, upd_same, (TmAt.kp k4 D3.nt _ ta).kp0 np, tb.kp0 np⟩ (.ar o ho ga gb)
    have : z = 3 ∨ z = 4 ∨ z = 5 ∨ z = 6 ∨ z = 7 ∨ z = 8 := by omega
    rcases this with rfl | rfl | rfl | rfl | rfl | rfl
    · exact ⟨_, rfl, _, _, rfl, rfl, l, _, _, _, rfl, rfl, SqL.of el, at_of (j := 0) rfl rfl, fin "add" (by simp)⟩
    · exact ⟨_, rfl, _, _, rfl, rfl, l, _, _, _, rfl, rfl, SqL.of el, at_of (j := 1) rfl rfl, fin "sub" (by simp)⟩
    · exact ⟨_, rfl, _, _, rfl, rfl, l, _, _, _, rfl, rfl, SqL.of el, at_of (j := 2) rfl rfl, fin "mul" (by simp)⟩
    · exact ⟨_, rfl, _, _, rfl, rfl, l, _, _, _, rfl, rfl, SqL.of el, at_of (j := 3) rfl rfl, fin "min" (by simp)⟩
    · exact ⟨_, rfl, _, _, rfl, rfl, l, _, _, _, rfl, rfl, SqL.of el, at_of (j := 4) rfl rfl, fin "max" (by simp)⟩
    · exact ⟨_, rfl, _, _, rfl, rfl, l, _, _, _, rfl, rfl, SqL.of el, at_of (j := 5) rfl rfl, fin "add" (by simp)⟩
end
end K08

set_option Elab.async false
set_option maxRecDepth 100000
set_option maxHeartbeats 8000000
set_option pp.maxSteps 1500
namespace K08
open PySem L2
section
variable {P : Program} {w : World} {K : PySem.W.Frag} {mg : Str → Option Value} {base : Heap}
theorem sc__law_truth : FnScope ["draws", "deep", "kind"] ["draws", "deep"] (defScope s__law_truth) := ⟨rfl, rfl, rfl, by decide +kernel, rfl, by decide +kernel, by decide +kernel⟩
theorem ok_truth_step {f fT f1 : Addr} {fd fdT fd1 : FuncData} (F__law_num : Fun K "_law_num" "_law_num" s__law_num f fd) (T : Txt0 mg) (b__law_num : Binds K fd ["draws", "deep"] []) (g__law_num : mg "_law_num" = some (.ref f))
    (F__law_truth : Fun K "_law_truth" "_law_truth" s__law_truth fT fdT) (b__law_truth : Binds K fdT ["draws", "deep"] []) (g__law_truth : mg "_law_truth" = some (.ref fT))
    (G__law_take : FnOk P w K mg base CX0 1 f1 fd1 ["draws", "bound"] spTk) (F__law_take : Fun K "_law_take" "_law_take" s__law_take f1 fd1) (b__law_take : Binds K fd1 ["draws", "bound"] []) (g__law_take : mg "_law_take" = some (.ref f1)) {k n : Nat} (hk : 1 ≤ k) {spn spt : Sp}
    (G__law_num : FnOk P w K mg base CX0 k f fd ["draws", "deep"] spn) (G__law_truth : FnOk P w K mg base CX0 k fT fdT ["draws", "deep"] spt) (hs : ∀ m, n = m + 1 → spn = spG false m ∧ spt = spG true m) : FnOk P w K mg base CX0 (k + 1) fT fdT ["draws", "deep"] (spG true n) := by
  refine F__law_truth.ok sc__law_truth (fun vs H Q E h => ?_) (fun cdv A outer s H vs Q E hr h => ?_)
  · obtain ⟨d, rfl, _⟩ := h
    rfl
  obtain ⟨d, rfl, D0, q⟩ := h
  have nd := sc__law_truth.nd
  have hr1 := hr.mono hk
  refine ⟨_, (pss_cons (ps_set (i := 2) nd rfl (.inl rfl) (pe_call G__law_take hr1 (by rfl) g__law_take F__law_take.kp b__law_take .nil pass0 (pa_cons (pv 0) (pa_cons pe_int pa_nil))))
    (pss_cons (ps_if (PW.pt (pw_or (pt_cmpR op_eq (pv 1) pe_int (nomark _)) (pw_or1 (pt_cmpR op_eq (pv 2) pe_int (nomark _))))) 
      (pss_one (ps_ret (pe_ix ix_list (pe_lst (pa_cons (pe_tup (pa_cons pe_str pa_nil)) (pa_cons (pe_tup (pa_cons pe_str pa_nil)) pa_nil))) (pe_call G__law_take hr1 (by rfl) g__law_take F__law_take.kp b__law_take .nil pass0 (pa_cons (pv 0) (pa_cons pe_int pa_nil))) (fun _ _ => rfl)))) pss_nil)
    (pss_cons (ps_if (pt_cmpR op_eq (pv 2) pe_int (nomark _)) 
      (pss_one (ps_ret (pe_tup (pa_cons pe_str (pa_cons (pe_call G__law_truth hr (by rfl) g__law_truth F__law_truth.kp b__law_truth .nil pass0 (pa_cons (pv 0) (pa_cons (pe_op op_sub (pv 1) pe_int) pa_nil))) pa_nil))))) pss_nil)
    (pss_cons (ps_if (pt_cmpR op_lt (pv 2) pe_int (nomark _)) 
      (pss_one (ps_ret (pe_tup (pa_cons (pe_ix ix_list (pe_lst (pa_cons pe_str (pa_cons pe_str pa_nil))) (pe_op op_sub (pv 2) pe_int) (fun _ _ => rfl)) (pa_cons (pe_call G__law_truth hr (by rfl) g__law_truth F__law_truth.kp b__law_truth .nil pass0 (pa_cons (pv 0) (pa_cons (pe_op op_sub (pv 1) pe_int) pa_nil))) (pa_cons (pe_call G__law_truth hr (by rfl) g__law_truth F__law_truth.kp b__law_truth .nil pass0 (pa_cons (pv 0) (pa_cons (pe_op op_sub (pv 1) pe_int) pa_nil))) pa_nil)))))) pss_nil)
    (pss_one (ps_ret (pe_tup (pa_cons (pe_ix ix_list (pe_lst (pa_cons pe_str (pa_cons pe_str (pa_cons pe_str pa_nil)))) (pe_op op_sub (pv 2) pe_int) (fun _ _ => rfl)) (pa_cons (pe_call G__law_num hr (by rfl) g__law_num F__law_num.kp b__law_num .nil pass0 (pa_cons (pv 0) (pa_cons (pe_op op_sub (pv 1) pe_int) pa_nil))) (pa_cons (pe_call G__law_num hr (by rfl) g__law_num F__law_num.kp b__law_num .nil pass0 (pa_cons (pv 0) (pa_cons (pe_op op_sub (pv 1) pe_int) pa_nil))) pa_nil)))))))))), ?_⟩
  refine ⟨_, rfl, d, 7, rfl, D0, by decide, fun z H1 z0 z1 k1 D1 => ?_⟩
  have eqi : ∀ {a b : Int}, a = b → decide (V.int a = V.int b) = true := fun h => decide_eq_true (by rw [h])
  have nei : ∀ {a b : Int}, a ≠ b → decide (V.int a = V.int b) = false := fun h => decide_eq_false fun e => h (V.int.inj e)
  by_cases hz : n = 0 ∨ z = 0
  · refine ⟨_, rfl, rfl, decide (n = 0), congrArg V.bl ?_, ?_⟩
    · by_cases h : n = 0
      · rw [decide_eq_true h, eqi (by rw [h]; rfl)]
      · rw [decide_eq_false h, nei (by omega)]
    have pick : ∀ {A B : Prop}, A → (n ≠ 0 → z = 0 → A → B) → (if decide (n = 0) = true then A else B) := fun a f => by
      by_cases h : n = 0
      · rw [if_pos (decide_eq_true h)]
        exact a
      · rw [if_neg (by rw [decide_eq_false h]; decide)]
        exact f h (hz.resolve_left h) a
    refine pick ?_ fun n0 ez a => ⟨_, rfl, rfl, true, congrArg V.bl (eqi ez), a⟩
    refine iteT ?_
    refine ⟨(by show 1 ≤ sizeLine; decide), fun t1 h1 => ?_⟩
    have k2 : Kp H (upd H1 t1 (.tup [.str "yes"])) [d] := k1.then (Kp.new h1)
    have e1 : upd H1 t1 (.tup [.str "yes"]) t1 = some (.tup [.str "yes"]) := upd_same
    have D2 := D1.kp0 (Kp.new (o := .tup [.str "yes"]) h1)
    generalize upd H1 t1 (.tup [.str "yes"]) = H2 at k2 e1 D2 ⊢
    refine ⟨(by show 1 ≤ sizeLine; decide), fun t2 h2 => ?_⟩
    have n2 := Kp.new (o := .tup [.str "no"]) h2
    have k3 := k2.then n2
    have e1 := n2.tup0 e1
    have e2 : upd H2 t2 (.tup [.str "no"]) t2 = some (.tup [.str "no"]) := upd_same
    have D3 := D2.kp0 n2
    generalize upd H2 t2 (.tup [.str "no"]) = H3 at n2 k3 e1 e2 D3 ⊢
    refine ⟨(by show 2 ≤ sizeLine; decide), fun l hl => ?_⟩
    have n8 := Kp.new (o := .lst [.ref t1, .ref t2]) hl
    have k9 := k3.then n8
    have e1 := n8.tup0 e1
    have e2 := n8.tup0 e2
    have ld := D3.ne hl
    have el : upd H3 l (.lst [.ref t1, .ref t2]) l = some (.lst [.ref t1, .ref t2]) := upd_same
    have D9 := D3.kp0 n8
    generalize upd H3 l (.lst [.ref t1, .ref t2]) = H9 at n8 k9 e1 e2 el D9 ⊢
    refine ⟨_, rfl, d, 2, rfl, D9, by decide, fun y3 H10 y30 y31 k10 D10 => ?_⟩
    have nt9 := D9.nt
    have td : ∀ {t : Addr} {xs : List V}, H9 t = some (.tup xs) → H10 t = some (.tup xs) := fun e => k10.tup e fun m => nt9 _ m _ e
    have el := k10.lst el (nm1 ld)
    have kk := k9.both k10
    have : y3 = 0 ∨ y3 = 1 := by omega
    rcases this with rfl | rfl
    · exact ⟨l, _, _, _, rfl, rfl, SqL.of el, at_of (j := 0) rfl rfl, q _ _ (.lf "yes") kk D10 ⟨t1, rfl, td e1⟩ (.tv n "yes" (by simp))⟩
    · exact ⟨l, _, _, _, rfl, rfl, SqL.of el, at_of (j := 1) rfl rfl, q _ _ (.lf "no") kk D10 ⟨t2, rfl, td e2⟩ (.tv n "no" (by simp))⟩
  · have n0 : n ≠ 0 := fun h => hz (.inl h)
    have z0' : z ≠ 0 := fun h => hz (.inr h)
    obtain ⟨m, rfl⟩ : ∃ m, n = m + 1 := ⟨n - 1, by omega⟩
    obtain ⟨rfl, rfl⟩ := hs m rfl
    have ed : (((m + 1 : Nat) : Int) - 1) = (m : Int) := by omega
    have eargs : [V.ref d, V.int (((m + 1 : Nat) : Int) - 1)] ++ [] = [V.ref d, V.int (m : Int)] := by rw [ed]; rfl
    refine ⟨_, rfl, rfl, false, congrArg V.bl (nei (by omega)), iteF ⟨_, rfl, rfl, false, congrArg V.bl (nei z0'), iteF ?_⟩⟩
    refine ⟨_, rfl, rfl, decide (z = 1), congrArg V.bl dec_ints, ?_⟩
    by_cases h1 : z = 1
    · rw [decide_eq_true h1]
      refine iteT ⟨_, rfl, _, rfl, _, _, rfl, rfl, ?_⟩
      refine ⟨d, eargs, D1, fun H2 v t k2 D2 ta ga => ?_⟩
      refine ⟨(by show 2 ≤ sizeLine; decide), fun p hp => ?_⟩
      have np := Kp.new (o := .tup [.str "not", v]) hp
      exact q _ _ (.un "not" t) ((k1.both k2).then np) (D2.kp0 np) ⟨p, v, rfl, upd_same, ta.kp0 np⟩ (.not ga)
    rw [decide_eq_false h1]
    refine iteF ⟨_, rfl, _, _, rfl, rfl, _, rfl, ?_⟩
    by_cases h2 : z < 4
    · rw [decide_eq_true h2]
      refine iteT ⟨(by show 2 ≤ sizeLine; decide), fun l hl => ?_⟩
      have nl := Kp.new (o := .lst [.str "both", .str "any"]) hl
      have kl := k1.then nl
      have Dl := D1.kp0 nl
      have el : upd H1 l (.lst [.str "both", .str "any"]) l = some (.lst [.str "both", .str "any"]) := upd_same
      generalize upd H1 l (.lst [.str "both", .str "any"]) = H2 at nl kl Dl el ⊢
      have fin : ∀ (o : Str), o ∈ (["both", "any"] : List Str) → tCons (tCall (spG true m) [] E0 (tCons (tVar 0) (tCons (tOp (rI0 fun i j => .int (i - j)) (tVar 1) (tC (.int 1))) tNil))) (tCons (tCall (spG true m) [] E0 (tCons (tVar 0) (tCons (tOp (rI0 fun i j => .int (i - j)) (tVar 1) (tC (.int 1))) tNil))) tNil)
          [some (.ref d), some (.int ((m + 1 : Nat) : Int)), some (.int z)] H2 (fun xs H5 => (V.str o :: xs).length ≤ sizeLine ∧ ∀ p, H5 p = none → Q (.ref p) (upd H5 p (.tup (V.str o :: xs)))) := fun o ho => by
        refine ⟨_, rfl, _, rfl, _, _, rfl, rfl, d, eargs, Dl, fun H3 v t k3 D3 ta ga => ?_⟩
        refine ⟨_, rfl, _, rfl, _, _, rfl, rfl, d, eargs, D3, fun H4 v2 t2 k4 D4 tb gb => ?_⟩
        refine ⟨(by show 3 ≤ sizeLine; decide), fun p hp => ?_⟩
        have np := Kp.new (o := .tup [.str o, v, v2]) hp
        exact q _ _ (.bi o t t2) (((kl.both k3).both k4).then np) (D4.kp0 np) ⟨p, v, v2, rfl, upd_same, (TmAt.kp k4 D3.nt _ ta).kp0 np, tb.kp0 np⟩ (.lg o ho ga gb)
      have : z = 2 ∨ z = 3 := by omega
      rcases this with rfl | rfl
      · exact ⟨_, rfl, _, _, rfl, rfl, l, _, _, _, rfl, rfl, SqL.of el, at_of (j := 0) rfl rfl, fin "both" (by simp)⟩
      · exact ⟨_, rfl, _, _, rfl, rfl, l, _, _, _, rfl, rfl, SqL.of el, at_of (j := 1) rfl rfl, fin "any" (by simp)⟩
    rw [decide_eq_false h2]
    refine iteF ⟨(by show 3 ≤ sizeLine; decide), fun l hl => ?_⟩
    have nl := Kp.new (o := .lst [.str "less", .str "alike", .str "less"]) hl
    have kl := k1.then nl
    have Dl := D1.kp0 nl
    have el : upd H1 l (.lst [.str "less", .str "alike", .str "less"]) l = some (.lst [.str "less", .str "alike", .str "less"]) := upd_same
    generalize upd H1 l (.lst [.str "less", .str "alike", .str "less"]) = H2 at nl kl Dl el ⊢
    have fin : ∀ (o : Str), o ∈ (["less", "alike"] : List Str) → tCons (tCall (spG false m) [] E0 (tCons (tVar 0) (tCons (tOp (rI0 fun i j => .int (i - j)) (tVar 1) (tC (.int 1))) tNil))) (tCons (tCall (spG false m) [] E0 (tCons (tVar 0) (tCons (tOp (rI0 fun i j => .int (i - j)) (tVar 1) (tC (.int 1))) tNil))) tNil)
        [some (.ref d), some (.int ((m + 1 : Nat) : Int)), some (.int z)] H2 (fun xs H5 => (V.str o :: xs).length ≤ sizeLine ∧ ∀ p, H5 p = none → Q (.ref p) (upd H5 p (.tup (V.str o :: xs)))) := fun o ho => by
      refine ⟨_, rfl, _, rfl, _, _, rfl, rfl, d, eargs, Dl, fun H3 v t k3 D3 ta ga => ?_⟩
      refine ⟨_, rfl, _, rfl, _, _, rfl, rfl, d, eargs, D3, fun H4 v2 t2 k4 D4 tb gb => ?_⟩
      refine ⟨(by show 3 ≤ sizeLine; decide), fun p hp => ?_⟩
      have np := Kp.new (o := .tup [.str o, v, v2]) hp
      exact q _ _ (.bi o t t2) (((kl.both k3).both k4).then np) (D4.kp0 np) ⟨p, v, v2, rfl, upd_same, (TmAt.kp k4 D3.nt _ ta).kp0 np, tb.kp0 np⟩ (.cm o ho ga gb)
    have : z = 4 ∨ z = 5 ∨ z = 6 := by omega
    rcases this with rfl | rfl | rfl
    · exact ⟨_, rfl, _, _, rfl, rfl, l, _, _, _, rfl, rfl, SqL.of el, at_of (j := 0) rfl rfl, fin "less" (by simp)⟩
    · exact ⟨_, rfl, _, _, rfl, rfl, l, _, _, _, rfl, rfl, SqL.of el, at_of (j := 1) rfl rfl, fin "alike" (by simp)⟩
    · exact ⟨_, rfl, _, _, rfl, rfl, l, _, _, _, rfl, rfl, SqL.of el, at_of (j := 2) rfl rfl, fin "less" (by simp)⟩
/-- both, to any depth -/
theorem ok_drawn {f fT f1 : Addr} {fd fdT fd1 : FuncData} (F__law_num : Fun K "_law_num" "_law_num" s__law_num f fd) (T : Txt0 mg) (b__law_num : Binds K fd ["draws", "deep"] []) (g__law_num : mg "_law_num" = some (.ref f))
    (F__law_truth : Fun K "_law_truth" "_law_truth" s__law_truth fT fdT) (b__law_truth : Binds K fdT ["draws", "deep"] []) (g__law_truth : mg "_law_truth" = some (.ref fT))
    (G__law_take : FnOk P w K mg base CX0 1 f1 fd1 ["draws", "bound"] spTk) (F__law_take : Fun K "_law_take" "_law_take" s__law_take f1 fd1) (b__law_take : Binds K fd1 ["draws", "bound"] []) (g__law_take : mg "_law_take" = some (.ref f1)) :
    ∀ n : Nat, FnOk P w K mg base CX0 (n + 2) f fd ["draws", "deep"] (spG false n) ∧ FnOk P w K mg base CX0 (n + 2) fT fdT ["draws", "deep"] (spG true n)
  | 0 => by
    have N : FnOk P w K mg base CX0 1 f fd ["draws", "deep"] (fun _ _ _ _ => False) := ok_never fun _ _ _ _ z => z
    have M : FnOk P w K mg base CX0 1 fT fdT ["draws", "deep"] (fun _ _ _ _ => False) := ok_never fun _ _ _ _ z => z
    exact ⟨ok_num_step F__law_num T b__law_num g__law_num F__law_truth b__law_truth g__law_truth G__law_take F__law_take b__law_take g__law_take (Nat.le_refl _) N M (fun m z => nomatch z),
      ok_truth_step F__law_num T b__law_num g__law_num F__law_truth b__law_truth g__law_truth G__law_take F__law_take b__law_take g__law_take (Nat.le_refl _) N M (fun m z => nomatch z)⟩
  | n + 1 => by
    obtain ⟨N, M⟩ := ok_drawn F__law_num T b__law_num g__law_num F__law_truth b__law_truth g__law_truth G__law_take F__law_take b__law_take g__law_take n
    exact ⟨ok_num_step F__law_num T b__law_num g__law_num F__law_truth b__law_truth g__law_truth G__law_take F__law_take b__law_take g__law_take (by omega) N M (fun m z => by cases z; exact ⟨rfl, rfl⟩),
      ok_truth_step F__law_num T b__law_num g__law_num F__law_truth b__law_truth g__law_truth G__law_take F__law_take b__law_take g__law_take (by omega) N M (fun m z => by cases z; exact ⟨rfl, rfl⟩)⟩
end
end K08

set_option Elab.async false
set_option maxRecDepth 100000
set_option maxHeartbeats 8000000
namespace K08
open PySem L2
/-! ### numerals as texts -/
theorem num_facts : ∀ k ∈ List.range 1999, okN (toString ((k : Int) - 999)) = true ∧ numOf (toString ((k : Int) - 999)) = some ((k : Int) - 999) ∧
    inV (.str (toString ((k : Int) - 999))) [.str "x", .str "y", .str "z"] = false ∧ inV (.str (toString ((k : Int) - 999))) [.str "yes", .str "no"] = false ∧
    PySem.intText? (toString ((k : Int) - 999)) = some ((k : Int) - 999) ∧ (toString ((k : Int) - 999) : Str).length ≤ 4 := by decide +kernel
end K08

set_option Elab.async false
set_option maxRecDepth 100000
set_option maxHeartbeats 8000000
set_option pp.maxSteps 1500
namespace K08
open PySem L2
/-! ### drawn terms: the mathematics -/
def srtOf (s : Bool) : Str := if s = true then "truth" else "num"
theorem nu_facts {k : Nat} (h : k < 1999) : okN (toString ((k : Int) - 999)) = true ∧ numOf (toString ((k : Int) - 999)) = some ((k : Int) - 999) ∧
    inV (.str (toString ((k : Int) - 999))) [.str "x", .str "y", .str "z"] = false ∧ inV (.str (toString ((k : Int) - 999))) [.str "yes", .str "no"] = false ∧
    PySem.intText? (toString ((k : Int) - 999)) = some ((k : Int) - 999) ∧ (toString ((k : Int) - 999) : Str).length ≤ 4 := num_facts k (List.mem_range.mpr h)
theorem kind_num {k : Nat} (h : k < 1999) : kindOf (toString ((k : Int) - 999)) = some (([], "num") : List Str × Str) := by
  unfold kindOf
  rw [(nu_facts h).2.1]
  rfl
theorem Gn.up {n : Nat} {s : Bool} {t : Tm} (h : Gn n s t) : Gn (n + 1) s t := by
  induction h with
  | inp n c h => exact .inp _ c h
  | num n k h => exact .num _ k h
  | tv n c h => exact .tv _ c h
  | neg _ i => exact .neg i
  | not _ i => exact .not i
  | pick _ _ _ i j k => exact .pick i j k
  | ar o h _ _ i j => exact .ar o h i j
  | lg o h _ _ i j => exact .lg o h i j
  | cm o h _ _ i j => exact .cm o h i j
theorem Gn.dep {n : Nat} {s : Bool} {t : Tm} (h : Gn n s t) : t.dep ≤ n + 1 := by
  induction h with
  | inp n c h => exact Nat.le_add_left _ _
  | num n k h => exact Nat.le_add_left _ _
  | tv n c h => exact Nat.le_add_left _ _
  | neg _ i => simp only [Tm.dep]; omega
  | not _ i => simp only [Tm.dep]; omega
  | pick _ _ _ i j k => simp only [Tm.dep]; omega
  | ar o h _ _ i j => simp only [Tm.dep]; omega
  | lg o h _ _ i j => simp only [Tm.dep]; omega
  | cm o h _ _ i j => simp only [Tm.dep]; omega
theorem Gn.size {n : Nat} {s : Bool} {t : Tm} (h : Gn n s t) : t.size * 2 + 1 ≤ 3 ^ (n + 1) := by
  have pos : ∀ n : Nat, 3 ≤ 3 ^ (n + 1) := fun n => by
    have := Nat.pow_le_pow_right (show 0 < 3 by decide) (show 1 ≤ n + 1 by omega)
    simpa using this
  induction h with
  | inp n c h => exact pos n
  | num n k h => exact pos n
  | tv n c h => exact pos n
  | @neg n _ _ i => simp only [Tm.size]; have := pos n; rw [Nat.pow_succ]; omega
  | @not n _ _ i => simp only [Tm.size]; have := pos n; rw [Nat.pow_succ]; omega
  | @pick n _ _ _ _ _ _ i j k => simp only [Tm.size]; have := pos n; rw [Nat.pow_succ]; omega
  | @ar n _ _ o h _ _ i j => simp only [Tm.size]; have := pos n; rw [Nat.pow_succ]; omega
  | @lg n _ _ o h _ _ i j => simp only [Tm.size]; have := pos n; rw [Nat.pow_succ]; omega
  | @cm n _ _ o h _ _ i j => simp only [Tm.size]; have := pos n; rw [Nat.pow_succ]; omega
theorem kinds_inp : ∀ c ∈ (["x", "y", "z"] : List Str), kindOf c = some (([], "num") : List Str × Str) ∧ okN c = true := by decide +kernel
theorem kinds_tv : ∀ c ∈ (["yes", "no"] : List Str), kindOf c = some (([], "truth") : List Str × Str) ∧ okN c = true := by decide +kernel
theorem kinds_un : ari "neg" = some 1 ∧ ari "not" = some 1 ∧ ari "pick" = some 3 := by decide +kernel
theorem kinds_ar : ∀ c ∈ (["add", "sub", "mul", "min", "max"] : List Str), kindOf c = some ((["num", "num"], "num") : List Str × Str) ∧ okN c = true ∧ ari c = some 2 := by decide +kernel
theorem kinds_lg : ∀ c ∈ (["both", "any"] : List Str), kindOf c = some ((["truth", "truth"], "truth") : List Str × Str) ∧ okN c = true ∧ ari c = some 2 := by decide +kernel
theorem kinds_cm : ∀ c ∈ (["less", "alike"] : List Str), kindOf c = some ((["num", "num"], "truth") : List Str × Str) ∧ okN c = true ∧ ari c = some 2 := by decide +kernel
theorem Gn.ws {n : Nat} {s : Bool} {t : Tm} (h : Gn n s t) : Ws t (srtOf s) := by
  induction h with
  | inp n c h => exact kinds_inp c h
  | num n k h => exact ⟨kind_num h, (nu_facts h).1⟩
  | tv n c h => exact kinds_tv c h
  | neg _ i => exact ⟨by decide +kernel, "num", by decide +kernel, i⟩
  | not _ i => exact ⟨by decide +kernel, "truth", by decide +kernel, i⟩
  | pick _ _ _ i j k => exact ⟨by decide +kernel, "truth", "num", "num", by decide +kernel, i, j, k⟩
  | ar o h _ _ i j => exact ⟨(kinds_ar o h).2.1, "num", "num", (kinds_ar o h).1, i, j⟩
  | lg o h _ _ i j => exact ⟨(kinds_lg o h).2.1, "truth", "truth", (kinds_lg o h).1, i, j⟩
  | cm o h _ _ i j => exact ⟨(kinds_cm o h).2.1, "num", "num", (kinds_cm o h).1, i, j⟩
/-- a world: three small ints -/
def W3 (ws : List V) : Prop := ∃ a b c : Int, ws = [.int a, .int b, .int c] ∧ a.natAbs < 2 ^ 20 ∧ b.natAbs < 2 ^ 20 ∧ c.natAbs < 2 ^ 20
def bt : Nat → Nat
  | 0 => 20
  | n + 1 => bt n + bt n
theorem bt_pos : ∀ n, 20 ≤ bt n
  | 0 => Nat.le_refl _
  | n + 1 => by have := bt_pos n; show 20 ≤ bt n + bt n; omega
def Vs (n : Nat) (s : Bool) (r : V) : Prop := if s = true then ∃ b, r = .bl b else ∃ i : Int, r = .int i ∧ Builtin.Int.intBits i ≤ bt n
theorem bt_le {n : Nat} (h : n ≤ 20) : bt n ≤ 20971520 := by
  have : ∀ n : Nat, bt n = 20 * 2 ^ n := fun n => by
    induction n with
    | zero => rfl
    | succ n ih => show bt n + bt n = _; rw [ih, Nat.pow_succ]; omega
  rw [this]
  have := Nat.pow_le_pow_right (show 0 < 2 by decide) h
  omega
theorem small_bits {i : Int} (h : i.natAbs < 2 ^ 20) (n : Nat) : Builtin.Int.intBits i ≤ bt n := Nat.le_trans (intBits_le_iff.mpr h) (bt_pos n)
theorem Gn.val {ws : List V} (hw : W3 ws) {n : Nat} {s : Bool} {t : Tm} (h : Gn n s t) (hn : n ≤ 20) : ∃ r, Vl ws t r ∧ Vs n s r := by
  obtain ⟨a, b, c, rfl, ha, hb, hc⟩ := hw
  induction h with
  | inp n z h =>
    simp only [List.mem_cons, List.not_mem_nil, or_false] at h
    rcases h with rfl | rfl | rfl
    · exact ⟨_, .x _ rfl, a, rfl, small_bits ha n⟩
    · exact ⟨_, .y _ rfl, b, rfl, small_bits hb n⟩
    · exact ⟨_, .z _ rfl, c, rfl, small_bits hc n⟩
  | num n k h =>
    obtain ⟨f1, f2, f3, f4, f5, f6⟩ := nu_facts h
    exact ⟨_, .nu _ _ f1 f2 f3 f4 f5 f6, _, rfl, small_bits (by omega) n⟩
  | tv n z h =>
    simp only [List.mem_cons, List.not_mem_nil, or_false] at h
    rcases h with rfl | rfl
    · exact ⟨_, .ar _ _ _ .yes, _, rfl⟩
    · exact ⟨_, .ar _ _ _ .no, _, rfl⟩
  | @neg n _ _ i =>
    obtain ⟨x, vx, i, rfl, bx⟩ := i (by omega)
    exact ⟨_, ⟨_, vx, .ar _ _ _ (.neg i)⟩, _, rfl, Nat.le_trans (intBits_neg_le bx) (Nat.le_add_right _ _)⟩
  | not _ i =>
    obtain ⟨x, vx, i, rfl⟩ := i (by omega)
    exact ⟨_, ⟨_, vx, .ar _ _ _ (.not i)⟩, _, rfl⟩
  | @pick n _ _ _ _ _ _ i j k =>
    obtain ⟨x, vx, i, rfl⟩ := i (by omega)
    obtain ⟨y, vy, j, rfl, bj⟩ := j (by omega)
    obtain ⟨z, vz, k, rfl, bk⟩ := k (by omega)
    refine ⟨_, ⟨_, _, _, vx, vy, vz, .ar _ _ _ (.pick i j k)⟩, _, rfl, ?_⟩
    show _ ≤ bt n + bt n
    split <;> omega
  | @ar n _ _ o h _ _ i j =>
    obtain ⟨x, vx, i, rfl, bi⟩ := i (by omega)
    obtain ⟨y, vy, j, rfl, bj⟩ := j (by omega)
    have b20 := bt_le (n := n) (by omega)
    have p20 := bt_pos n
    have ok : IntMulOk i j := .of_le bi bj (by omega)
    simp only [List.mem_cons, List.not_mem_nil, or_false] at h
    rcases h with rfl | rfl | rfl | rfl | rfl
    · exact ⟨_, ⟨_, _, vx, vy, .ar _ _ _ (.add i j ok)⟩, _, rfl, Nat.le_trans (intBits_add_le bi bj) (by show _ ≤ bt n + bt n; omega)⟩
    · exact ⟨_, ⟨_, _, vx, vy, .ar _ _ _ (.sub i j ok)⟩, _, rfl, Nat.le_trans (intBits_sub_le bi bj) (by show _ ≤ bt n + bt n; omega)⟩
    · exact ⟨_, ⟨_, _, vx, vy, .ar _ _ _ (.mul i j ok)⟩, _, rfl, intBits_mul_le bi bj⟩
    · exact ⟨_, ⟨_, _, vx, vy, .ar _ _ _ (.min i j ok)⟩, _, rfl, Nat.le_trans (intBits_ite_le bj bi) (by show _ ≤ bt n + bt n; omega)⟩
    · exact ⟨_, ⟨_, _, vx, vy, .ar _ _ _ (.max i j ok)⟩, _, rfl, Nat.le_trans (intBits_ite_le bj bi) (by show _ ≤ bt n + bt n; omega)⟩
  | @lg n _ _ o h _ _ i j =>
    obtain ⟨x, vx, i, rfl⟩ := i (by omega)
    obtain ⟨y, vy, j, rfl⟩ := j (by omega)
    simp only [List.mem_cons, List.not_mem_nil, or_false] at h
    rcases h with rfl | rfl
    · exact ⟨_, ⟨_, _, vx, vy, .ar _ _ _ (.both i j)⟩, _, rfl⟩
    · exact ⟨_, ⟨_, _, vx, vy, .ar _ _ _ (.any i j)⟩, _, rfl⟩
  | @cm n _ _ o h _ _ i j =>
    obtain ⟨x, vx, i, rfl, bi⟩ := i (by omega)
    obtain ⟨y, vy, j, rfl, bj⟩ := j (by omega)
    simp only [List.mem_cons, List.not_mem_nil, or_false] at h
    rcases h with rfl | rfl
    · exact ⟨_, ⟨_, _, vx, vy, .ar _ _ _ (.less i j)⟩, _, rfl⟩
    · exact ⟨_, ⟨_, _, vx, vy, .ar _ _ _ (.alike i j)⟩, _, rfl⟩
theorem Vs.lit {n : Nat} {s : Bool} {r : V} (h : Vs n s r) : LitV r := by
  cases s with
  | true => exact .inr h
  | false => obtain ⟨i, e, _⟩ := h; exact .inl ⟨i, e⟩
/-- the leaf of a value has this value -/
theorem lit_val {ws : List V} {r : V} {n : Str} (h : LitV r) (e : litOf r = some n) : Vl ws (.lf n) r := by
  rcases h with ⟨i, rfl⟩ | ⟨b, rfl⟩
  · have e : (if inR (.int i) (-999) 999 = true then some (toString i : Str) else none) = some n := e
    by_cases hb : inR (.int i) (-999) 999 = true
    · rw [if_pos hb] at e
      cases e
      have hb : (decide (-999 ≤ i) && decide (i ≤ 999)) = true := hb
      rw [Bool.and_eq_true, decide_eq_true_eq, decide_eq_true_eq] at hb
      obtain ⟨k, ek⟩ := Int.eq_ofNat_of_zero_le (show 0 ≤ i + 999 by omega)
      have ei : i = (k : Int) - 999 := by omega
      rw [ei]
      obtain ⟨f1, f2, f3, f4, f5, f6⟩ := nu_facts (show k < 1999 by omega)
      exact .nu _ _ f1 f2 f3 f4 f5 f6
    · rw [if_neg hb] at e
      cases e
  · have e : some (if b = true then "yes" else "no" : Str) = some n := e
    cases e
    cases b with
    | true => exact .ar _ _ _ .yes
    | false => exact .ar _ _ _ .no
/-- the value of a part; another term of this value put there leaves the whole's value -/
theorem Vl.part {ws : List V} : ∀ {p : List Nat} {t u : Tm} {r : V}, Vl ws t r → At t p u → ∃ ru, Vl ws u ru ∧ ∀ y, Vl ws y ru → Vl ws (putT t p y) r
  | [], t, u, r, h, e => by
    have e : u = t := e
    subst e
    exact ⟨r, h, fun y hy => hy⟩
  | i :: p, t, u, r, h, ⟨k, hk, ha⟩ => by
    have ep : ∀ y, putT t (i :: p) y = setKid t i (putT k p y) := fun y => by
      show (match t.kids[i]? with | some k => setKid t i (putT k p y) | none => t) = _
      rw [hk]
    cases t with
    | lf n => cases hk
    | un n a =>
      obtain ⟨x, ha', m⟩ := h
      match i, hk with
      | 0, hk =>
        cases hk
        obtain ⟨ru, hu, f⟩ := Vl.part ha' ha
        exact ⟨ru, hu, fun y hy => by rw [ep]; exact ⟨x, f y hy, m⟩⟩
      | i + 1, hk => cases hk
    | bi n a b =>
      obtain ⟨x, z, ha', hb', m⟩ := h
      match i, hk with
      | 0, hk =>
        cases hk
        obtain ⟨ru, hu, f⟩ := Vl.part ha' ha
        exact ⟨ru, hu, fun y hy => by rw [ep]; exact ⟨x, z, f y hy, hb', m⟩⟩
      | 1, hk =>
        cases hk
        obtain ⟨ru, hu, f⟩ := Vl.part hb' ha
        exact ⟨ru, hu, fun y hy => by rw [ep]; exact ⟨x, z, ha', f y hy, m⟩⟩
      | i + 2, hk => cases hk
    | tr n a b c =>
      obtain ⟨x, z, o, ha', hb', hc', m⟩ := h
      match i, hk with
      | 0, hk =>
        cases hk
        obtain ⟨ru, hu, f⟩ := Vl.part ha' ha
        exact ⟨ru, hu, fun y hy => by rw [ep]; exact ⟨x, z, o, f y hy, hb', hc', m⟩⟩
      | 1, hk =>
        cases hk
        obtain ⟨ru, hu, f⟩ := Vl.part hb' ha
        exact ⟨ru, hu, fun y hy => by rw [ep]; exact ⟨x, z, o, ha', f y hy, hc', m⟩⟩
      | 2, hk =>
        cases hk
        obtain ⟨ru, hu, f⟩ := Vl.part hc' ha
        exact ⟨ru, hu, fun y hy => by rw [ep]; exact ⟨x, z, o, ha', hb', f y hy, m⟩⟩
      | i + 3, hk => cases hk
theorem putT_dep {y : Tm} (hy : y.dep = 1) : ∀ {p : List Nat} {t u : Tm}, At t p u → (putT t p y).dep ≤ t.dep
  | [], t, u, e => by
    show y.dep ≤ t.dep
    rw [hy]
    exact t.dep_pos
  | i :: p, t, u, ⟨k, hk, ha⟩ => by
    have ep : putT t (i :: p) y = setKid t i (putT k p y) := by
      show (match t.kids[i]? with | some k => setKid t i (putT k p y) | none => t) = _
      rw [hk]
    rw [ep]
    have := putT_dep hy ha
    cases t with
    | lf n => cases hk
    | un n a =>
      match i, hk with
      | 0, hk => cases hk; show (putT k p y).dep + 1 ≤ k.dep + 1; omega
      | i + 1, hk => cases hk
    | bi n a b =>
      match i, hk with
      | 0, hk => cases hk; show max (putT k p y).dep b.dep + 1 ≤ max k.dep b.dep + 1; omega
      | 1, hk => cases hk; show max a.dep (putT k p y).dep + 1 ≤ max a.dep k.dep + 1; omega
      | i + 2, hk => cases hk
    | tr n a b c =>
      match i, hk with
      | 0, hk => cases hk; show max (putT k p y).dep (max b.dep c.dep) + 1 ≤ max k.dep (max b.dep c.dep) + 1; omega
      | 1, hk => cases hk; show max a.dep (max (putT k p y).dep c.dep) + 1 ≤ max a.dep (max k.dep c.dep) + 1; omega
      | 2, hk => cases hk; show max a.dep (max b.dep (putT k p y).dep) + 1 ≤ max a.dep (max b.dep k.dep) + 1; omega
      | i + 3, hk => cases hk
theorem Gn.kids {n : Nat} {s : Bool} {t : Tm} (h : Gn n s t) : ∀ k ∈ t.kids, ∃ s', Gn n s' k := by
  intro k hk
  cases h with
  | inp n c h => exact nomatch (show k ∈ [] from hk)
  | num n k h => exact nomatch (show _ ∈ [] from hk)
  | tv n c h => exact nomatch (show k ∈ [] from hk)
  | @neg n a i => rw [List.mem_singleton.mp (show k ∈ [a] from hk)]; exact ⟨_, i.up⟩
  | @not n a i => rw [List.mem_singleton.mp (show k ∈ [a] from hk)]; exact ⟨_, i.up⟩
  | @pick n a b c i j l =>
    have hk : k ∈ [a, b, c] := hk
    simp only [List.mem_cons, List.not_mem_nil, or_false] at hk
    rcases hk with rfl | rfl | rfl
    · exact ⟨_, i.up⟩
    · exact ⟨_, j.up⟩
    · exact ⟨_, l.up⟩
  | @ar n a b o h i j =>
    have hk : k ∈ [a, b] := hk
    simp only [List.mem_cons, List.not_mem_nil, or_false] at hk
    rcases hk with rfl | rfl
    · exact ⟨_, i.up⟩
    · exact ⟨_, j.up⟩
  | @lg n a b o h i j =>
    have hk : k ∈ [a, b] := hk
    simp only [List.mem_cons, List.not_mem_nil, or_false] at hk
    rcases hk with rfl | rfl
    · exact ⟨_, i.up⟩
    · exact ⟨_, j.up⟩
  | @cm n a b o h i j =>
    have hk : k ∈ [a, b] := hk
    simp only [List.mem_cons, List.not_mem_nil, or_false] at hk
    rcases hk with rfl | rfl
    · exact ⟨_, i.up⟩
    · exact ⟨_, j.up⟩
theorem Gn.at : ∀ {p : List Nat} {n : Nat} {s : Bool} {t u : Tm}, Gn n s t → At t p u → ∃ s', Gn n s' u
  | [], n, s, t, u, h, e => by
    have e : u = t := e
    subst e
    exact ⟨s, h⟩
  | i :: p, n, s, t, u, h, ⟨k, hk, ha⟩ => by
    obtain ⟨s', hk'⟩ := h.kids k (List.mem_of_getElem? hk)
    exact hk'.at ha
/-- the law's own word for a leaf that is no input -/
def plain (t : Tm) : Bool := t.kids.isEmpty && !(inV (.str t.nam) [.str "x", .str "y", .str "z"])
theorem Gn.plain {n : Nat} {s : Bool} {t : Tm} (h : Gn n s t) : plain t = isLit t := by
  cases h with
  | inp n c h =>
    have : ∀ c ∈ (["x", "y", "z"] : List Str), K08.plain (.lf c) = isLit (.lf c) := by decide +kernel
    exact this c h
  | num n k h =>
    obtain ⟨f1, f2, f3, f4, f5, f6⟩ := nu_facts h
    show (true && !(inV (.str (toString ((k : Int) - 999))) [.str "x", .str "y", .str "z"])) = (inV (.str (toString ((k : Int) - 999))) [.str "yes", .str "no"] || (numOf (toString ((k : Int) - 999))).isSome)
    rw [f3, f4, f2]
    rfl
  | tv n c h =>
    have : ∀ c ∈ (["yes", "no"] : List Str), K08.plain (.lf c) = isLit (.lf c) := by decide +kernel
    exact this c h
  | neg _ => rfl
  | not _ => rfl
  | pick _ _ _ => rfl
  | ar o h _ _ => rfl
  | lg o h _ _ => rfl
  | cm o h _ _ => rfl
theorem Gn.okn {n : Nat} {s : Bool} {t : Tm} (h : Gn n s t) : okN t.nam = true := h.ws.out.1
theorem Gn.ari {n : Nat} {s : Bool} {t : Tm} (h : Gn n s t) (hk : t.kids ≠ []) : ari t.nam = some t.kids.length := by
  cases h with
  | inp n c h => exact absurd rfl hk
  | num n k h => exact absurd rfl hk
  | tv n c h => exact absurd rfl hk
  | neg _ => exact kinds_un.1
  | not _ => exact kinds_un.2.1
  | pick _ _ _ => exact kinds_un.2.2
  | ar o h _ _ => exact (kinds_ar o h).2.2
  | lg o h _ _ => exact (kinds_lg o h).2.2
  | cm o h _ _ => exact (kinds_cm o h).2.2
theorem Gn.fold {n : Nat} {s : Bool} {t : Tm} (h : Gn n s t) : foldable t = (!t.kids.isEmpty && t.kids.all K08.plain) := by
  unfold foldable
  have e : t.kids.all isLit = t.kids.all K08.plain := by
    rw [Bool.eq_iff_iff, List.all_eq_true, List.all_eq_true]
    constructor
    · intro z k hk
      obtain ⟨s', g⟩ := h.kids k hk
      rw [g.plain]
      exact z k hk
    · intro z k hk
      obtain ⟨s', g⟩ := h.kids k hk
      rw [← g.plain]
      exact z k hk
  rw [e]
  by_cases hk : t.kids = []
  · rw [hk]
    rfl
  · rw [decide_eq_true (h.ari hk), Bool.and_true]
theorem w0 : W3 ws0 := ⟨0, 0, 0, rfl, by decide, by decide, by decide⟩
end K08

set_option Elab.async false
set_option maxRecDepth 100000
set_option maxHeartbeats 8000000
set_option pp.maxSteps 1500
namespace K08
open PySem L2
/-! ### one value -/
theorem Ar.det {n : Str} {xs : List V} {r r' : V} (h : Ar n xs r) (h' : Ar n xs r') : r = r' := by
  generalize hn : n = m at h'
  generalize hx : xs = ys at h'
  cases h <;> cases h' <;> first | rfl | (cases hx; rfl) | exact absurd hn (by decide +kernel)
theorem inp_facts : ∀ c ∈ (["x", "y", "z"] : List Str), inV (.str c) [.str "x", .str "y", .str "z"] = true := by decide +kernel
theorem Mkr.det {ws : List V} {n : Str} {xs : List V} {r r' : V} (h : Mkr ws n xs r) (h' : Mkr ws n xs r') : r = r' := by
  have nx : ∀ {c : Str}, c ∈ (["x", "y", "z"] : List Str) → ∀ {xs r}, ¬ Ar c xs r := fun hc _ _ z => by
    have := z.facts.2.2
    have h2 := inp_facts _ hc
    rw [show ins3 = [.str "x", .str "y", .str "z"] from rfl, h2] at this
    cases this
  cases h with
  | x v h =>
    generalize hn : ("x" : Str) = m at h'
    cases h' with
    | x v' h' => rw [h] at h'; exact Option.some.inj h'
    | y v' h' => exact absurd hn (by decide +kernel)
    | z v' h' => exact absurd hn (by decide +kernel)
    | nu _ i _ _ d => rw [← hn, inp_facts "x" (by simp)] at d; cases d
    | ar _ _ _ a => rw [← hn] at a; exact absurd a (nx (by simp))
  | y v h =>
    generalize hn : ("y" : Str) = m at h'
    cases h' with
    | x v' h' => exact absurd hn (by decide +kernel)
    | y v' h' => rw [h] at h'; exact Option.some.inj h'
    | z v' h' => exact absurd hn (by decide +kernel)
    | nu _ i _ _ d => rw [← hn, inp_facts "y" (by simp)] at d; cases d
    | ar _ _ _ a => rw [← hn] at a; exact absurd a (nx (by simp))
  | z v h =>
    generalize hn : ("z" : Str) = m at h'
    cases h' with
    | x v' h' => exact absurd hn (by decide +kernel)
    | y v' h' => exact absurd hn (by decide +kernel)
    | z v' h' => rw [h] at h'; exact Option.some.inj h'
    | nu _ i _ _ d => rw [← hn, inp_facts "z" (by simp)] at d; cases d
    | ar _ _ _ a => rw [← hn] at a; exact absurd a (nx (by simp))
  | nu _ i o e d d2 hi hl =>
    cases h' with
    | x v' h' => rw [inp_facts "x" (by simp)] at d; cases d
    | y v' h' => rw [inp_facts "y" (by simp)] at d; cases d
    | z v' h' => rw [inp_facts "z" (by simp)] at d; cases d
    | nu _ j _ e' => rw [e] at e'; rw [Option.some.inj e']
    | ar _ _ _ a => rw [a.facts.2.1] at e; cases e
  | ar _ _ _ a =>
    cases h' with
    | x v' h' => exact absurd a (nx (by simp))
    | y v' h' => exact absurd a (nx (by simp))
    | z v' h' => exact absurd a (nx (by simp))
    | nu _ j _ e' => rw [a.facts.2.1] at e'; cases e'
    | ar _ _ _ a' => exact a.det a'
theorem Vl.det {ws : List V} {t : Tm} : ∀ {r r' : V}, Vl ws t r → Vl ws t r' → r = r' := by
  induction t with
  | lf n => exact fun h h' => Mkr.det h h'
  | un n a ha =>
    rintro r r' ⟨x, h1, m⟩ ⟨x', h1', m'⟩
    cases ha h1 h1'
    exact m.det m'
  | bi n a b ha hb =>
    rintro r r' ⟨x, y, h1, h2, m⟩ ⟨x', y', h1', h2', m'⟩
    cases ha h1 h1'
    cases hb h2 h2'
    exact m.det m'
  | tr n a b c ha hb hc =>
    rintro r r' ⟨x, y, z, h1, h2, h3, m⟩ ⟨x', y', z', h1', h2', h3', m'⟩
    cases ha h1 h1'
    cases hb h2 h2'
    cases hc h3 h3'
    exact m.det m'
/-! ### terms as data -/
def Tm.pd : Tm → PyData
  | .lf n => .tuple [.str n]
  | .un n a => .tuple [.str n, a.pd]
  | .bi n a b => .tuple [.str n, a.pd, b.pd]
  | .tr n a b c => .tuple [.str n, a.pd, b.pd, c.pd]
def Tm.sok : Tm → Bool
  | .lf n => PyData.strOk n
  | .un n a => PyData.strOk n && a.sok
  | .bi n a b => PyData.strOk n && a.sok && b.sok
  | .tr n a b c => PyData.strOk n && a.sok && b.sok && c.sok
theorem Tm.dp {K : PySem.W.Frag} {H : Hp} (t : Tm) : ∀ {v : V}, TmAt H t v → Dp K H v t.pd := by
  induction t with
  | lf n => rintro v ⟨p, rfl, h⟩; exact .tup (SqT.of h) (.cons (.str _) .nil)
  | un n a ha => rintro v ⟨p, x, rfl, h, h1⟩; exact .tup (SqT.of h) (.cons (.str _) (.cons (ha h1) .nil))
  | bi n a b ha hb => rintro v ⟨p, x, y, rfl, h, h1, h2⟩; exact .tup (SqT.of h) (.cons (.str _) (.cons (ha h1) (.cons (hb h2) .nil)))
  | tr n a b c ha hb hc => rintro v ⟨p, x, y, z, rfl, h, h1, h2, h3⟩; exact .tup (SqT.of h) (.cons (.str _) (.cons (ha h1) (.cons (hb h2) (.cons (hc h3) .nil))))
theorem Tm.can (t : Tm) : t.pd.canLay0 = t.sok := by
  induction t with
  | lf n => simp [Tm.pd, Tm.sok, PyData.canLay0, PyData.canLayAll0]
  | un n a ha => simp [Tm.pd, Tm.sok, PyData.canLay0, PyData.canLayAll0, ha]
  | bi n a b ha hb => simp [Tm.pd, Tm.sok, PyData.canLay0, PyData.canLayAll0, ha, hb, Bool.and_assoc]
  | tr n a b c ha hb hc => simp [Tm.pd, Tm.sok, PyData.canLay0, PyData.canLayAll0, ha, hb, hc, Bool.and_assoc]
theorem Tm.pdep (t : Tm) : t.pd.depth = t.dep := by
  induction t with
  | lf n => rfl
  | un n a ha => show max 0 (max a.pd.depth 0) + 1 = a.dep + 1; rw [ha]; omega
  | bi n a b ha hb => show max 0 (max a.pd.depth (max b.pd.depth 0)) + 1 = max a.dep b.dep + 1; rw [ha, hb]; omega
  | tr n a b c ha hb hc => show max 0 (max a.pd.depth (max b.pd.depth (max c.pd.depth 0))) + 1 = max a.dep (max b.dep c.dep) + 1; rw [ha, hb, hc]; omega
theorem num_sokA : ((List.range 1999).all fun k => PyData.strOk (toString ((k : Int) - 999))) = true := by decide +kernel
theorem num_sok {k : Nat} (h : k < 1999) : PyData.strOk (toString ((k : Int) - 999)) = true := List.all_eq_true.mp num_sokA k (List.mem_range.mpr h)
theorem sok_names : ∀ c ∈ (["x", "y", "z", "yes", "no", "add", "sub", "mul", "min", "max", "both", "any", "less", "alike", "neg", "not", "pick"] : List Str), PyData.strOk c = true := by decide +kernel
theorem Gn.sok {n : Nat} {s : Bool} {t : Tm} (h : Gn n s t) : t.sok = true := by
  induction h with
  | inp n c h => exact sok_names c (by simp only [List.mem_cons, List.not_mem_nil, or_false] at h; rcases h with rfl | rfl | rfl <;> simp)
  | num n k h => exact num_sok h
  | tv n c h => exact sok_names c (by simp only [List.mem_cons, List.not_mem_nil, or_false] at h; rcases h with rfl | rfl <;> simp)
  | neg _ i => simp only [Tm.sok, i, sok_names "neg" (by simp), Bool.and_self]
  | not _ i => simp only [Tm.sok, i, sok_names "not" (by simp), Bool.and_self]
  | pick _ _ _ i j k => simp only [Tm.sok, i, j, k, sok_names "pick" (by simp), Bool.and_self]
  | ar o h _ _ i j => simp only [Tm.sok, i, j, sok_names o (by simp only [List.mem_cons, List.not_mem_nil, or_false] at h; rcases h with rfl | rfl | rfl | rfl | rfl <;> simp), Bool.and_self]
  | lg o h _ _ i j => simp only [Tm.sok, i, j, sok_names o (by simp only [List.mem_cons, List.not_mem_nil, or_false] at h; rcases h with rfl | rfl <;> simp), Bool.and_self]
  | cm o h _ _ i j => simp only [Tm.sok, i, j, sok_names o (by simp only [List.mem_cons, List.not_mem_nil, or_false] at h; rcases h with rfl | rfl <;> simp), Bool.and_self]
/-- a list of terms against the empty one -/
theorem terms_empty {K : PySem.W.Frag} {H : Hp} : ∀ {ts : List Tm} {vs : List V}, Paired (TmAt H) ts vs → DpAll K H vs (ts.map Tm.pd)
  | _, _, .nil => .nil
  | _, _, .cons a b => .cons (Tm.dp _ a) (terms_empty b)
theorem shaped_list {ts : List Tm} (h : ∀ t ∈ ts, t.sok = true ∧ t.dep ≤ 60) : SeqAt.shaped (.list (ts.map Tm.pd)) = true := by
  have c : ∀ ts : List Tm, (∀ t ∈ ts, t.sok = true ∧ t.dep ≤ 60) → PyData.canLayAll0 (ts.map Tm.pd) = true ∧ PyData.depthAll (ts.map Tm.pd) ≤ 60 := fun ts => by
    induction ts with
    | nil => exact fun _ => ⟨by simp [PyData.canLayAll0], by simp [PyData.depthAll]⟩
    | cons t ts ih =>
      intro h
      obtain ⟨i1, i2⟩ := ih fun t ht => h t (List.mem_cons_of_mem _ ht)
      obtain ⟨h1, h2⟩ := h t List.mem_cons_self
      refine ⟨by simp only [List.map_cons, PyData.canLayAll0, Tm.can, h1, i1, Bool.and_self], ?_⟩
      show max t.pd.depth (PyData.depthAll (ts.map Tm.pd)) ≤ 60
      rw [Tm.pdep]
      omega
  obtain ⟨c1, c2⟩ := c ts h
  show (PyData.canLay0 (.list (ts.map Tm.pd)) && decide (PyData.depth (.list (ts.map Tm.pd)) ≤ 64)) = true
  rw [decide_eq_true (show PyData.depth (.list (ts.map Tm.pd)) ≤ 64 by show PyData.depthAll _ + 1 ≤ 64; omega)]
  simp only [PyData.canLay0, c1, Bool.and_self]
theorem eqv_empty (ds : List PyData) : PyData.eqv (.list ds) (.list []) = ds.isEmpty := by
  cases ds <;> simp [PyData.eqv, PyData.eqvAll]
end K08

set_option Elab.async false
set_option maxRecDepth 100000
set_option maxHeartbeats 8000000
set_option pp.maxSteps 1500
namespace K08
open PySem L2
/-! ### law -/
structure Lw (H G : Hp) (d wt : Addr) (ws : List V) : Prop where
  k : Kp H G []
  D : DrAt G d
  w : G wt = some (.tup ws)
theorem fresh1 {H H1 H2 : Hp} {d : Addr} (a : Kp H H1 []) (b : Kp H1 H2 [d]) (hd : H d = none) : Kp H H2 [] := a.fresh b fun x hx => by rw [List.mem_singleton.mp hx]; exact hd
theorem Lw.kp0 {H G G' : Hp} {d wt : Addr} {ws : List V} (L : Lw H G d wt ws) (k : Kp G G' []) : Lw H G' d wt ws := ⟨L.k.then k, L.D.kp0 k, k.tup0 L.w⟩
theorem Lw.kpd {H G G' : Hp} {d wt : Addr} {ws : List V} (L : Lw H G d wt ws) (k : Kp G G' [d]) (D' : DrAt G' d) (hd : H d = none) : Lw H G' d wt ws := ⟨fresh1 L.k k hd, D', k.tup L.w fun m => L.D.nt _ m _ L.w⟩
def spLaw (K : PySem.W.Frag) (Pn Pw Pa Ps Po Pg Pf : Addr) : Sp := fun vs H Q _ => ∃ (a : Addr) (ns : List Int), vs = [.ref a] ∧ SqL K H a (ns.map V.int) ∧ ns.length ≤ 63 ∧
  GxR.TabG H Pn ∧ GxR.TabG H Pw ∧ GxR.TabG H Pa ∧ GxR.TabG H Ps ∧ GxR.TabG H Po ∧ GxR.TabG H Pg ∧ GxR.TabG H Pf ∧ ∀ H', Q (.bl true) H'
theorem ne_self (v : V) : V.bl (!decide (v = v)) = V.bl false := by rw [decide_eq_true rfl]; rfl
theorem Alk.refl {H : Hp} {r : V} (h : LitV r) (n : Nat) : Alk H n r r := by
  induction n with
  | zero =>
    rcases h with ⟨i, rfl⟩ | ⟨b, rfl⟩
    · exact .inl ⟨i, rfl, rfl⟩
    · exact .inr (.inr (.inl ⟨b, rfl, rfl⟩))
  | succ n ih => exact .inl ih
theorem dp_lit {K : PySem.W.Frag} {H : Hp} {r : V} (h : LitV r) : ∃ d, Dp K H r d ∧ SeqAt.shaped d = true ∧ PyData.eqv d d = true := by
  rcases h with ⟨i, rfl⟩ | ⟨b, rfl⟩
  · exact ⟨.int i, .int i, rfl, by simp [PyData.eqv]⟩
  · exact ⟨.bool b, .bl b, rfl, by simp [PyData.eqv]⟩
/-- a leaf, or None -/
def LeafV (H : Hp) (o : Option Str) (v : V) : Prop := match o with
  | none => v = .non
  | some n => ∃ p, v = .ref p ∧ H p = some (.tup [.str n])
theorem LeafV.kp {H H' : Hp} {o : Option Str} {v : V} (h : LeafV H o v) (k : Kp H H' []) : LeafV H' o v := by
  cases o with
  | none => exact h
  | some n => obtain ⟨p, e, hp⟩ := h; exact ⟨p, e, k.tup0 hp⟩
theorem LeafV.alk {H : Hp} {o : Option Str} {u v : V} (h : LeafV H o u) (g : LeafV H o v) (n : Nat) : Alk H (n + 1) u v := by
  cases o with
  | none =>
    cases h
    cases g
    have : ∀ n, Alk H n .non .non := fun n => by
      induction n with
      | zero => exact .inr (.inl ⟨rfl, rfl⟩)
      | succ n ih => exact .inl ih
    exact this _
  | some s =>
    obtain ⟨p, rfl, hp⟩ := h
    obtain ⟨q, rfl, hq⟩ := g
    have : ∀ n, Alk H n (.str s) (.str s) := fun n => by
      induction n with
      | zero => exact .inr (.inr (.inr ⟨s, rfl, rfl⟩))
      | succ n ih => exact .inl ih
    exact .inr (.inr ⟨p, q, _, _, rfl, rfl, hp, hq, .cons (this n) .nil, (by show 1 ≤ 1000; decide)⟩)
theorem sl_upto {K : PySem.W.Frag} {H : Hp} {a : Addr} {xs : List V} {i : Int} {Q : VK} (m : Nat) (e : i = (m : Int)) (ha : H a = some (.tup xs)) (q : ∀ H' p, Kp H H' [] → H' p = some (.tup (xs.take m)) → Q (.ref p) H') : rSlA K (.ref a) none (some i) H Q := by
  have eh : HT.sIx xs.length xs.length (some i) = min m xs.length := by
    rw [e, HT.sIx_nat]
  refine ⟨a, _, rfl, SqT.of ha, fun z => ?_, fun _ p hp => ?_⟩
  · rw [eh] at z
    refine q H a (Kp.refl H) ?_
    rw [List.take_of_length_le (by omega)]
    exact ha
  · refine q _ p (Kp.new hp) ?_
    have e2 : cutV xs none (some i) = xs.take m := by
      unfold cutV
      rw [eh, HT.sIx_none, List.drop_zero, Nat.sub_zero, List.take_eq_take_iff]
      omega
    rw [e2, upd_same]
theorem numI (i : Int) : Numb (.int i) := .inl ⟨i, rfl⟩
theorem numB (b : Bool) : Numb (.bl b) := .inr (.inl ⟨b, rfl⟩)
theorem numN : Numb .non := .inr (.inr (.inl rfl))
theorem all2 {P : V → Prop} {a b : V} (ha : P a) (hb : P b) : ∀ x ∈ [a, b], P x := fun x hx => by
  simp only [List.mem_cons, List.not_mem_nil, or_false] at hx
  rcases hx with rfl | rfl <;> assumption
theorem all3 {P : V → Prop} {a b c : V} (ha : P a) (hb : P b) (hc : P c) : ∀ x ∈ [a, b, c], P x := fun x hx => by
  simp only [List.mem_cons, List.not_mem_nil, or_false] at hx
  rcases hx with rfl | rfl | rfl <;> assumption
theorem all4 {P : V → Prop} {a b c d : V} (ha : P a) (hb : P b) (hc : P c) (hd : P d) : ∀ x ∈ [a, b, c, d], P x := fun x hx => by
  simp only [List.mem_cons, List.not_mem_nil, or_false] at hx
  rcases hx with rfl | rfl | rfl | rfl <;> assumption
theorem fold_no {t : Tm} (h : ari t.nam ≠ some t.kids.length) : foldable t = false := by
  unfold foldable
  rw [decide_eq_false h, Bool.and_false]
theorem world_tup {H : Hp} {a : Addr} {xs : List V} (h : H a = some (.tup xs)) (n : ∀ x ∈ xs, Numb x) (b : (decide (xs.length = 3) && xs.all fun x => inR x (-1000000) 1000000) = false) : WorldV H (.ref a) false := .inr (.inr (.inr ⟨a, xs, rfl, h, n, b.symm⟩))
theorem paired_app {α β : Type} {R : α → β → Prop} : ∀ {xs xs' : List α} {ys ys' : List β}, Paired R xs ys → Paired R xs' ys' → Paired R (xs ++ xs') (ys ++ ys')
  | _, _, _, _, .nil, h => h
  | _, _, _, _, .cons a b, h => .cons a (paired_app b h)
section
variable {P : Program} {w : World} {K : PySem.W.Frag} {mg : Str → Option Value} {base : Heap}
theorem sc_law : FnScope ["script", "draws", "wide", "world", "turn", "term", "path", "part", "leaf", "due", "near", "one", "name", "two", "odd", "value"] ["script"] (defScope s_law) := ⟨rfl, rfl, rfl, by decide +kernel, rfl, by decide +kernel, by decide +kernel⟩
theorem ok_law {f Pn Pw Pa Ps Po Pg Pf S f1 f2 f3 f4 f5 f6 f7 f8 f9 f10 f11 f12 f13 f14 f15 f16 f17 f18 : Addr} {fd fd1 fd2 fd3 fd4 fd5 fd6 fd7 fd8 fd9 fd10 fd11 fd12 fd13 fd14 fd15 fd16 fd17 fd18 : FuncData} (F : Fun K "law" "law" s_law f fd) (T : Txt0 mg) (g_STANDARD : mg "STANDARD" = some (.ref S))
    (G__law_draws : FnOk P w K mg base CX0 1 f1 fd1 ["script"] (spDraws K)) (F__law_draws : Fun K "_law_draws" "_law_draws" s__law_draws f1 fd1) (b__law_draws : Binds K fd1 ["script"] []) (g__law_draws : mg "_law_draws" = some (.ref f1))
    (G__law_take : FnOk P w K mg base CX0 1 f2 fd2 ["draws", "bound"] (spTk)) (F__law_take : Fun K "_law_take" "_law_take" s__law_take f2 fd2) (b__law_take : Binds K fd2 ["draws", "bound"] []) (g__law_take : mg "_law_take" = some (.ref f2))
    (G__law_says : FnOk P w K mg base CX0 1 f3 fd3 ["told", "due"] (spSays)) (F__law_says : Fun K "_law_says" "_law_says" s__law_says f3 fd3) (b__law_says : Binds K fd3 ["told", "due"] []) (g__law_says : mg "_law_says" = some (.ref f3))
    (G_is_signature : FnOk P w K mg base CX0 6 f4 fd4 ["value"] (spSig S Pa Ps Po Pg)) (F_is_signature : Fun K "is_signature" "is_signature" s_is_signature f4 fd4) (b_is_signature : Binds K fd4 ["value"] []) (g_is_signature : mg "is_signature" = some (.ref f4))
    (G_is_world : FnOk P w K mg base CX0 3 f5 fd5 ["value"] (spWorld Pw)) (F_is_world : Fun K "is_world" "is_world" s_is_world f5 fd5) (b_is_world : Binds K fd5 ["value"] []) (g_is_world : mg "is_world" = some (.ref f5))
    (G__law_num : FnOk P w K mg base CX0 6 f6 fd6 ["draws", "deep"] (spG false 4)) (F__law_num : Fun K "_law_num" "_law_num" s__law_num f6 fd6) (b__law_num : Binds K fd6 ["draws", "deep"] []) (g__law_num : mg "_law_num" = some (.ref f6))
    (G__law_truth : FnOk P w K mg base CX0 6 f7 fd7 ["draws", "deep"] (spG true 4)) (F__law_truth : Fun K "_law_truth" "_law_truth" s__law_truth f7 fd7) (b__law_truth : Binds K fd7 ["draws", "deep"] []) (g__law_truth : mg "_law_truth" = some (.ref f7))
    (G_is_term : FnOk P w K mg base CX0 10 f8 fd8 ["signature", "value"] (spIsT Pn S 5)) (F_is_term : Fun K "is_term" "is_term" s_is_term f8 fd8) (b_is_term : Binds K fd8 ["signature", "value"] []) (g_is_term : mg "is_term" = some (.ref f8))
    (G__law_alike : FnOk P w K mg base CX0 4 f9 fd9 ["found", "due"] (spAlike 2)) (F__law_alike : Fun K "_law_alike" "_law_alike" s__law_alike f9 fd9) (b__law_alike : Binds K fd9 ["found", "due"] []) (g__law_alike : mg "_law_alike" = some (.ref f9))
    (G__law_told : FnOk P w K mg base CX0 10 f10 fd10 ["term", "world"] (spTold Pn Pw 5)) (F__law_told : Fun K "_law_told" "_law_told" s__law_told f10 fd10) (b__law_told : Binds K fd10 ["term", "world"] []) (g__law_told : mg "_law_told" = some (.ref f10))
    (G__law_value : FnOk P w K mg base CX0 5 f11 fd11 ["term", "world"] (spLV 5)) (F__law_value : Fun K "_law_value" "_law_value" s__law_value f11 fd11) (b__law_value : Binds K fd11 ["term", "world"] []) (g__law_value : mg "_law_value" = some (.ref f11))
    (G_paths_of : FnOk P w K mg base CX0 5 f12 fd12 ["term"] (spPaths 5)) (F_paths_of : Fun K "paths_of" "paths_of" s_paths_of f12 fd12) (b_paths_of : Binds K fd12 ["term"] []) (g_paths_of : mg "paths_of" = some (.ref f12))
    (G_at : FnOk P w K mg base (L2N.CX P w) 2 f13 fd13 ["term", "path"] (spAt)) (F_at : Fun K "at" "at" s_at f13 fd13) (b_at : Binds K fd13 ["term", "path"] []) (g_at : mg "at" = some (.ref f13))
    (G_put : FnOk P w K mg base (L2N.CX P w) 6 f14 fd14 ["term", "path", "other"] (spPut 5)) (F_put : Fun K "put" "put" s_put f14 fd14) (b_put : Binds K fd14 ["term", "path", "other"] []) (g_put : mg "put" = some (.ref f14))
    (G__law_leaf : FnOk P w K mg base CX0 1 f15 fd15 ["value"] (spLeaf)) (F__law_leaf : Fun K "_law_leaf" "_law_leaf" s__law_leaf f15 fd15) (b__law_leaf : Binds K fd15 ["value"] []) (g__law_leaf : mg "_law_leaf" = some (.ref f15))
    (G_folded : FnOk P w K mg base CX0 6 f16 fd16 ["term"] (spFo Pn Pf)) (F_folded : Fun K "folded" "folded" s_folded f16 fd16) (b_folded : Binds K fd16 ["term"] []) (g_folded : mg "folded" = some (.ref f16))
    (G_is_literal : FnOk P w K mg base CX0 4 f17 fd17 ["term"] (spIsLit Pn)) (F_is_literal : Fun K "is_literal" "is_literal" s_is_literal f17 fd17) (b_is_literal : Binds K fd17 ["term"] []) (g_is_literal : mg "is_literal" = some (.ref f17))
    (G_literal_of : FnOk P w K mg base CX0 3 f18 fd18 ["value"] (spLit)) (F_literal_of : Fun K "literal_of" "literal_of" s_literal_of f18 fd18) (b_literal_of : Binds K fd18 ["value"] []) (g_literal_of : mg "literal_of" = some (.ref f18)) :
    FnOk P w K mg base CX0 11 f fd ["script"] (spLaw K Pn Pw Pa Ps Po Pg Pf) := by
  refine F.ok sc_law (fun vs H Q E h => ?_) (fun cdv A outer s H vs Q E hr h => ?_)
  · obtain ⟨a, ns, rfl, _⟩ := h
    rfl
  obtain ⟨a, ns, rfl, hS, hlen, tn, tw, ta, ts, to, tg, tf, k⟩ := h
  have nd := sc_law.nd
  have hv := hr.units
  have hr1 := hr.mono (by decide : 1 ≤ 10)
  have hr2 := hr.mono (by decide : 2 ≤ 10)
  have hr3 := hr.mono (by decide : 3 ≤ 10)
  have hr4 := hr.mono (by decide : 4 ≤ 10)
  have hr5 := hr.mono (by decide : 5 ≤ 10)
  have hr6 := hr.mono (by decide : 6 ≤ 10)
  refine ⟨_, (pss_cons (ps_set (i := 1) nd rfl (.inr rfl) (pe_call G__law_draws hr1 (by rfl) g__law_draws F__law_draws.kp b__law_draws .nil pass0 (pa_cons (pv 0) pa_nil)))
    (pss_cons (ps_set (i := 2) nd rfl (.inr rfl) (pe_ix ix_list (pe_lst (pa_cons pe_int (pa_cons pe_int (pa_cons pe_int pa_nil)))) (pe_call G__law_take hr1 (by rfl) g__law_take F__law_take.kp b__law_take .nil pass0 (pa_cons (pv 1) (pa_cons pe_int pa_nil))) (fun _ _ => rfl)))
    (pss_cons (ps_set (i := 3) nd rfl (.inl rfl) (pe_callTy call_tuple_of (by rfl) T.B.tuple (by decide +kernel) (pa_cons (pe_lc (own := [("name", 12)]) (g := gName 12) (tt := tYes) rfl nd (pi_range1 (by rfl) T.B.range (pa_cons pe_int pa_nil)) (blkOk_by (N := ["script", "draws", "wide", "world", "turn", "term", "path", "part", "leaf", "due", "near", "one", "name", "two", "odd", "value"]) (sc := defScope s_law) (by decide +kernel)) (fun _ _ _ _ _ => (pg_name (i := 12) nd rfl (.inl rfl))) (fun _ _ _ _ _ => pts_nil) (fun _ _ _ _ _ => (pe_op op_add (pe_op op_sub (pe_call G__law_take hr1 (by rfl) g__law_take F__law_take.kp b__law_take .nil pass0 (pa_cons (pv 1) (pa_cons (pe_op op_sub (pe_op op_mul pe_int (pv 2)) pe_int) pa_nil))) (pv 2)) pe_int))) pa_nil)))
    (Evl.pss_cut (ps_if (PW.pt (pw_or (pt_not (pt_val (pe_call G__law_says hr1 (by rfl) g__law_says F__law_says.kp b__law_says .nil pass0 (pa_cons (pe_call G_is_signature hr6 (by rfl) g_is_signature F_is_signature.kp b_is_signature .nil pass0 (pa_cons (pe_gref (by rfl) g_STANDARD) pa_nil)) (pa_cons pe_bl pa_nil))))) (pw_or1 (pt_not (pt_val (pe_call G__law_says hr1 (by rfl) g__law_says F__law_says.kp b__law_says .nil pass0 (pa_cons (pe_call G_is_world hr3 (by rfl) g_is_world F_is_world.kp b_is_world .nil pass0 (pa_cons (pv 3) pa_nil)) (pa_cons pe_bl pa_nil)))))))) 
      (pss_one (ps_ret pe_bl)) pss_nil)
    (Evl.pss_cut (ps_for PassesOwn.never rfl (pi_range1 (by rfl) T.B.range (pa_cons pe_int pa_nil)) (pg_name (i := 4) nd rfl (.inl rfl)) 
      (Evl.pss_cut (ps_set (i := 5) nd rfl (.inl rfl) (pe_ifExp (pt_cmpR op_lt (pv 4) pe_int (nomark _)) (pe_call G__law_num hr6 (by rfl) g__law_num F__law_num.kp b__law_num .nil pass0 (pa_cons (pv 1) (pa_cons pe_int pa_nil))) (pe_call G__law_truth hr6 (by rfl) g__law_truth F__law_truth.kp b__law_truth .nil pass0 (pa_cons (pv 1) (pa_cons pe_int pa_nil)))))
      (Evl.pss_cut (ps_if (PW.pt (pw_or (pt_cmpR op_notBl (pe_call G_is_term hr (by rfl) g_is_term F_is_term.kp b_is_term .nil pass0 (pa_cons (pe_gref (by rfl) g_STANDARD) (pa_cons (pv 5) pa_nil))) pe_bl (nomark _)) (pw_or1 (pt_not (pt_val (pe_call G__law_alike hr4 (by rfl) g__law_alike F__law_alike.kp b__law_alike .nil pass0 (pa_cons (pe_call G__law_told hr (by rfl) g__law_told F__law_told.kp b__law_told .nil pass0 (pa_cons (pv 5) (pa_cons (pv 3) pa_nil))) (pa_cons (pe_call G__law_value hr5 (by rfl) g__law_value F__law_value.kp b__law_value .nil pass0 (pa_cons (pv 5) (pa_cons (pv 3) pa_nil))) pa_nil)))))))) 
        (pss_one (ps_ret pe_bl)) pss_nil)
      (pss_one (ps_for PassesOwn.never rfl (pi_tup (pe_slice sl_tupA (pe_call G_paths_of hr5 (by rfl) g_paths_of F_paths_of.kp b_paths_of .nil pass0 (pa_cons (pv 5) pa_nil)) po_none (po_some pe_int))) (pg_name (i := 6) nd rfl (.inl rfl)) 
        (pss_cons (ps_set (i := 7) nd rfl (.inl rfl) (pe_call G_at hr2 (by rfl) g_at F_at.kp b_at .nil passF (pa_cons (pv 5) (pa_cons (pv 6) pa_nil))))
        (Evl.pss_cut (ps_set (i := 8) nd rfl (.inl rfl) (pe_call G__law_leaf hr1 (by rfl) g__law_leaf F__law_leaf.kp b__law_leaf .nil pass0 (pa_cons (pe_call G__law_value hr5 (by rfl) g__law_value F__law_value.kp b__law_value .nil pass0 (pa_cons (pv 7) (pa_cons (pv 3) pa_nil))) pa_nil)))
        (Evl.pss_cut (ps_if (PW.pt (pw_and (pt_cmpR op_notN (pv 8) pe_non (nomark _)) (pw_and1 (pt_cmpR (op_neD hv) (pe_call G__law_told hr (by rfl) g__law_told F__law_told.kp b__law_told .nil pass0 (pa_cons (pe_call G_put hr6 (by rfl) g_put F_put.kp b_put .nil passF (pa_cons (pv 5) (pa_cons (pv 6) (pa_cons (pv 8) pa_nil)))) (pa_cons (pv 3) pa_nil))) (pe_call G__law_value hr5 (by rfl) g__law_value F__law_value.kp b__law_value .nil pass0 (pa_cons (pv 5) (pa_cons (pv 3) pa_nil))) (nomark _))))) 
          (pss_one (ps_ret pe_bl)) pss_nil)
        (Evl.pss_cut (ps_set (i := 9) nd rfl (.inl rfl) (pe_ifExp (PW.pt (pw_and (pt_cmpR op_gt (pe_callB call_len_seq (by rfl) T.B.len (by decide +kernel) (pa_cons (pv 7) pa_nil)) pe_int (nomark _)) (pw_and1 (pt_cmpR (op_eqD hv) (pe_lc (own := [("one", 11)]) (g := gName 11) rfl nd (pi_tup (pe_slice sl_tupA (pv 7) (po_some pe_int) po_none)) (blkOk_by (N := ["script", "draws", "wide", "world", "turn", "term", "path", "part", "leaf", "due", "near", "one", "name", "two", "odd", "value"]) (sc := defScope s_law) (by decide +kernel)) (fun _ _ _ _ _ => (pg_name (i := 11) nd rfl (.inl rfl))) (fun _ _ _ _ _ => (pts_one (PW.pt (pw_or (pt_cmpR op_gt (pe_callB (GK.lenK K) (by rfl) T.B.len (by decide +kernel) (pa_cons (pv 11) pa_nil)) pe_int (nomark _)) (pw_or1 (pt_cmpR (GK.inK K) (pe_ix (GK.ixTK K) (pv 11) pe_int (fun _ _ => rfl)) (pe_lst (pa_cons pe_str (pa_cons pe_str (pa_cons pe_str pa_nil)))) rfl)))))) (fun _ _ _ _ _ => (pv 11))) (pe_lst pa_nil) (nomark _))))) (pe_call G__law_leaf hr1 (by rfl) g__law_leaf F__law_leaf.kp b__law_leaf .nil pass0 (pa_cons (pe_call G__law_value hr5 (by rfl) g__law_value F__law_value.kp b__law_value .nil pass0 (pa_cons (pv 7) (pa_cons (pe_tup (pa_cons pe_int (pa_cons pe_int (pa_cons pe_int pa_nil)))) pa_nil))) pa_nil)) pe_non))
        (pss_one (ps_if (PW.pt (pw_or (pt_not (pt_val (pe_call G__law_alike hr4 (by rfl) g__law_alike F__law_alike.kp b__law_alike .nil pass0 (pa_cons (pe_call G_folded hr6 (by rfl) g_folded F_folded.kp b_folded .nil pass0 (pa_cons (pv 7) pa_nil)) (pa_cons (pv 9) pa_nil))))) (pw_or1 (pt_not (pt_val (pe_call G__law_says hr1 (by rfl) g__law_says F__law_says.kp b__law_says .nil pass0 (pa_cons (pe_call G_is_literal hr4 (by rfl) g_is_literal F_is_literal.kp b_is_literal .nil pass0 (pa_cons (pv 7) pa_nil)) (pa_cons (pe_and (pe_cmpR op_eq (pe_callB call_len_seq (by rfl) T.B.len (by decide +kernel) (pa_cons (pv 7) pa_nil)) pe_int (nomark _)) (pe_one (pe_cmpR op_notIn_seq (pe_ix ix_tup (pv 7) pe_int (fun _ _ => rfl)) (pe_lst (pa_cons pe_str (pa_cons pe_str (pa_cons pe_str pa_nil)))) rfl))) pa_nil)))))))) 
          (pss_one (ps_ret pe_bl)) pss_nil)))))))))))
    (Evl.pss_cut (ps_set (i := 10) nd rfl (.inl rfl) (pe_op op_sub (pe_call G__law_take hr1 (by rfl) g__law_take F__law_take.kp b__law_take .nil pass0 (pa_cons (pv 1) (pa_cons pe_int pa_nil))) pe_int))
    (pss_cons (ps_set (i := 11) nd rfl (.inl rfl) (pe_tup (pa_cons (pe_callTy call_str_int (by rfl) T.B.str (by decide +kernel) (pa_cons (pe_op op_sub (pe_call G__law_take hr1 (by rfl) g__law_take F__law_take.kp b__law_take .nil pass0 (pa_cons (pv 1) (pa_cons pe_int pa_nil))) pe_int) pa_nil)) pa_nil)))
    (Evl.pss_cut (ps_for PassesOwn.never rfl (pi_list (pe_lst (pa_cons pe_str (pa_cons pe_str (pa_cons pe_str (pa_cons pe_str (pa_cons pe_str (pa_cons pe_str (pa_cons pe_str pa_nil))))))))) (pg_name (i := 12) nd rfl (.inl rfl)) 
      (Evl.pss_cut (ps_set (i := 13) nd rfl (.inl rfl) (pe_ifExp (pt_cmpR op_ne (pv 12) pe_str (nomark _)) (pe_tup (pa_cons pe_str pa_nil)) (pv 11)))
      (pss_one (ps_if (pt_not (pt_val (pe_call G__law_alike hr4 (by rfl) g__law_alike F__law_alike.kp b__law_alike .nil pass0 (pa_cons (pe_call G_folded hr6 (by rfl) g_folded F_folded.kp b_folded .nil pass0 (pa_cons (pe_tup (pa_cons (pv 12) (pa_cons (pv 11) (pa_cons (pv 13) pa_nil)))) pa_nil)) (pa_cons (pe_call G__law_leaf hr1 (by rfl) g__law_leaf F__law_leaf.kp b__law_leaf .nil pass0 (pa_cons (pe_call G__law_value hr5 (by rfl) g__law_value F__law_value.kp b__law_value .nil pass0 (pa_cons (pe_tup (pa_cons (pv 12) (pa_cons (pv 11) (pa_cons (pv 13) pa_nil)))) (pa_cons (pe_tup (pa_cons pe_int (pa_cons pe_int (pa_cons pe_int pa_nil)))) pa_nil))) pa_nil)) pa_nil))))) 
        (pss_one (ps_ret pe_bl)) pss_nil))))
    (Evl.pss_cut (ps_if (pt_not (pt_val (pe_call G__law_alike hr4 (by rfl) g__law_alike F__law_alike.kp b__law_alike .nil pass0 (pa_cons (pe_lst (pa_cons (pe_call G_literal_of hr3 (by rfl) g_literal_of F_literal_of.kp b_literal_of .nil pass0 (pa_cons (pv 10) pa_nil)) (pa_cons (pe_call G_literal_of hr3 (by rfl) g_literal_of F_literal_of.kp b_literal_of .nil pass0 (pa_cons pe_bl pa_nil)) (pa_cons (pe_call G_literal_of hr3 (by rfl) g_literal_of F_literal_of.kp b_literal_of .nil pass0 (pa_cons pe_bl pa_nil)) pa_nil)))) (pa_cons (pe_lst (pa_cons (pe_call G__law_leaf hr1 (by rfl) g__law_leaf F__law_leaf.kp b__law_leaf .nil pass0 (pa_cons (pv 10) pa_nil)) (pa_cons (pe_tup (pa_cons pe_str pa_nil)) (pa_cons (pe_tup (pa_cons pe_str pa_nil)) pa_nil)))) pa_nil))))) 
      (pss_one (ps_ret pe_bl)) pss_nil)
    (Evl.pss_cut (ps_if (PW.pt (pw_or (pt_cmpR op_notN (pe_call G_folded hr6 (by rfl) g_folded F_folded.kp b_folded .nil pass0 (pa_cons (pe_tup (pa_cons pe_str (pa_cons (pv 11) pa_nil))) pa_nil)) pe_non (nomark _)) (pw_or (pt_cmpR op_notN (pe_call G_folded hr6 (by rfl) g_folded F_folded.kp b_folded .nil pass0 (pa_cons (pe_tup (pa_cons pe_str (pa_cons (pv 11) pa_nil))) pa_nil)) pe_non (nomark _)) (pw_or (pt_cmpR op_notN (pe_call G_folded hr6 (by rfl) g_folded F_folded.kp b_folded .nil pass0 (pa_cons (pe_tup (pa_cons pe_str (pa_cons (pv 11) (pa_cons (pv 11) pa_nil)))) pa_nil)) pe_non (nomark _)) (pw_or1 (pt_cmpR op_notN (pe_call G_folded hr6 (by rfl) g_folded F_folded.kp b_folded .nil pass0 (pa_cons (pe_tup (pa_cons pe_str pa_nil)) pa_nil)) pe_non (nomark _))))))) 
      (pss_one (ps_ret pe_bl)) pss_nil)
    (Evl.pss_cut (ps_set (i := 14) nd rfl (.inl rfl) (pe_lst (pa_cons pe_non (pa_cons (pe_callTy call_list_of (by rfl) T.B.list (by decide +kernel) (pa_cons (pv 3) pa_nil)) (pa_cons (pe_slice sl_tupA (pv 3) po_none (po_some pe_int)) (pa_cons (pe_op op_catA (pv 3) (pe_tup (pa_cons pe_int pa_nil))) (pa_cons (pe_tup (pa_cons pe_int (pa_cons pe_int (pa_cons pe_int pa_nil)))) (pa_cons (pe_tup (pa_cons pe_int (pa_cons (pe_un un_neg pe_int) (pa_cons pe_int pa_nil)))) (pa_cons (pe_tup (pa_cons pe_bl (pa_cons pe_int (pa_cons pe_int pa_nil)))) (pa_cons (pe_tup (pa_cons pe_int (pa_cons pe_non (pa_cons pe_int pa_nil)))) (pa_cons pe_int pa_nil)))))))))))
    (pss_one (ps_ret (pe_cmpR (op_eqD hv) (pe_lc (own := [("value", 15)]) (g := gName 15) rfl nd (pi_list (pv 14)) (blkOk_by (N := ["script", "draws", "wide", "world", "turn", "term", "path", "part", "leaf", "due", "near", "one", "name", "two", "odd", "value"]) (sc := defScope s_law) (by decide +kernel)) (fun _ _ _ _ _ => (pg_name (i := 15) nd rfl (.inl rfl))) (fun _ _ _ _ _ => (pts_one (PW.pt (pw_or (pt_not (pt_val (pe_call G__law_says hr1 (by rfl) g__law_says F__law_says.kp b__law_says .nil pass0 (pa_cons (pe_call G_is_world hr3 (by rfl) g_is_world F_is_world.kp b_is_world .nil pass0 (pa_cons (pv 15) pa_nil)) (pa_cons pe_bl pa_nil))))) (pw_or1 (pt_cmpR (GK.neDK K hv) (pe_call G__law_told hr (by rfl) g__law_told F__law_told.kp b__law_told .nil pass0 (pa_cons (pe_tup (pa_cons pe_str pa_nil)) (pa_cons (pv 15) pa_nil))) pe_str (nomark _))))))) (fun _ _ _ _ _ => (pv 15))) (pe_lst pa_nil) (nomark _))))))))))))))), ?_⟩
  refine ⟨_, rfl, a, ns, rfl, hS, hlen, fun H1 d ms s1 hdn e1 lm => ?_⟩
  have k1 := Kp.same s1
  have D1 : DrAt H1 d := ⟨ms, e1, lm⟩
  clear s1 e1 lm
  -- wide
  refine ⟨(by show 3 ≤ sizeLine; decide), fun l hl => ?_⟩
  have k2 : Kp H1 (upd H1 l (.lst [.int 3, .int 1000, .int 1000001])) [] := Kp.new hl
  have l2 : upd H1 l (.lst [.int 3, .int 1000, .int 1000001]) l = some (.lst [.int 3, .int 1000, .int 1000001]) := upd_same
  have D2 := D1.kp0 k2
  have ld : l ≠ d := D1.ne hl
  generalize upd H1 l (.lst [.int 3, .int 1000, .int 1000001]) = H2 at k2 l2 D2 ⊢
  refine ⟨_, rfl, d, 3, rfl, D2, by decide, fun y H3 y0 y1 k3 D3 => ?_⟩
  have l3 := k3.lst l2 (nm1 ld)
  obtain ⟨b, hb, b0⟩ : ∃ b : Int, atI [V.int 3, V.int 1000, V.int 1000001] y = some (.int b) ∧ (b = 3 ∨ b = 1000 ∨ b = 1000001) := by
    have : y = 0 ∨ y = 1 ∨ y = 2 := by omega
    rcases this with rfl | rfl | rfl
    · exact ⟨3, at_of (j := 0) rfl rfl, .inl rfl⟩
    · exact ⟨1000, at_of (j := 1) rfl rfl, .inr (.inl rfl)⟩
    · exact ⟨1000001, at_of (j := 2) rfl rfl, .inr (.inr rfl)⟩
  refine ⟨l, _, _, _, rfl, rfl, SqL.of l3, hb, ?_⟩
  have k13 : Kp H H3 [] := fresh1 (k1.then k2) k3 hdn
  clear l2 l3 hl ld k2 k3 D2
  -- world
  refine ⟨3, rfl, by decide, by decide, fun D hD => ?_⟩
  have dD : D ≠ d := D3.ne hD
  refine lc_range (n := 3) (fun i H' => Kp H3 H' [d] ∧ DrAt H' d ∧ ∃ zs : List Int, H' D = some (.lst (zs.map V.int)) ∧ zs.length = i ∧ ∀ z ∈ zs, z.natAbs ≤ 1000000) ⟨(Kp.new hD).up (fun _ h => nomatch h) D3.nb, D3.kp0 (Kp.new hD), [], upd_same, rfl, fun _ h => nomatch h⟩ (fun i H' hi ⟨k4, D4, zs, hD4, hz, hz2⟩ => ?_) (fun H4 ⟨k4, D4, zs, hD4, hz, hz2⟩ => ?_)
  · refine ⟨rfl, _, rfl, _, rfl, _, _, rfl, rfl, .inl ⟨by decide, by decide⟩, _, _, rfl, rfl, d, _, rfl, D4, by omega, fun z H5 z0 z1 k5 D5 => ?_⟩
    have hD5 := k5.lst hD4 (nm1 dD)
    refine ⟨_, rfl, _, _, rfl, rfl, _, _, rfl, rfl, _, hD5, ?_, ?_, ?_, zs ++ [z - b + 1], ?_, ?_, ?_⟩
    · rw [List.length_map, hz]
      exact Nat.lt_of_lt_of_le hi (by decide)
    · exact (k4.both k5).trans (Kp.wl hD5) (fun _ h => h) (fun x hx => .inr (by rw [List.mem_singleton.mp hx]; exact hD)) D3.nb
    · exact D5.kp (Kp.wl hD5) (nm1 dD.symm)
    · rw [upd_same, List.map_append]
      rfl
    · rw [List.length_append, hz]
      rfl
    · intro x hx
      rcases List.mem_append.mp hx with hx | hx
      · exact hz2 x hx
      · rw [List.mem_singleton.mp hx]
        rcases b0 with rfl | rfl | rfl <;> omega
  refine ⟨D, _, rfl, .inl ⟨SqL.of hD4, fun wt hwt => ?_⟩⟩
  have w3 : W3 (zs.map V.int) ∧ ∀ x ∈ zs.map V.int, inR x (-1000000) 1000000 = true := by
    match zs, hz, hz2 with
    | [x, y, z], _, h =>
      have hx := h x (by simp)
      have hy := h y (by simp)
      have hz := h z (by simp)
      refine ⟨⟨x, y, z, rfl, by omega, by omega, by omega⟩, fun v hv => ?_⟩
      simp only [List.map_cons, List.map_nil, List.mem_cons, List.not_mem_nil, or_false] at hv
      rcases hv with rfl | rfl | rfl <;> (show (decide _ && decide _) = true) <;> rw [decide_eq_true (by omega), decide_eq_true (by omega)] <;> rfl
  obtain ⟨w3, wr⟩ := w3
  have k5 : Kp H4 (upd H4 wt (.tup (zs.map V.int))) [] := Kp.new hwt
  have w5 : upd H4 wt (.tup (zs.map V.int)) wt = some (.tup (zs.map V.int)) := upd_same
  have D5 := D4.kp0 k5
  generalize upd H4 wt (.tup (zs.map V.int)) = H5 at k5 w5 D5 ⊢
  generalize zs.map V.int = ws at w3 w5 wr
  have L5 : Lw H H5 d wt ws := ⟨(fresh1 k13 k4 hdn).then k5, D5, w5⟩
  clear k13 k4 k5 D3 D4 hD4 hD dD hwt D1 k1 D5 w5
  have good : ∀ {G : Hp}, Lw H G d wt ws → WorldV G (.ref wt) true := fun L => by
    obtain ⟨x, y, z, rfl, _⟩ := w3
    refine .inr (.inr (.inr ⟨wt, _, rfl, L.w, fun v hv => ?_, ?_⟩))
    · simp only [List.mem_cons, List.not_mem_nil, or_false] at hv
      rcases hv with rfl | rfl | rfl <;> exact .inl ⟨_, rfl⟩
    · rw [List.all_eq_true.mpr wr]
      rfl
  -- the signature, the world
  refine ⟨fun σ' G => σ' = [some (.ref a), some (.ref d), some (.int b), some (.ref wt), none, none, none, none, none, none, none, none, none, none, none, none] ∧ Lw H G d wt ws, ?_, ?_⟩
  · refine ⟨rfl, L5.k.tabG ta, L5.k.tabG ts, L5.k.tabG to, L5.k.tabG tg, fun H6 k6 => ?_⟩
    refine ⟨true, true, rfl, true, rfl, iteF ?_⟩
    have L6 := L5.kp0 k6
    refine ⟨_, rfl, .ref wt, true, rfl, good L6, L6.k.tabG tw, fun H7 k7 => ?_⟩
    exact ⟨true, true, rfl, true, rfl, iteF ⟨rfl, L6.kp0 k7⟩⟩
  rintro σ' H6 ⟨rfl, L6⟩
  clear L5
  -- for turn in range(4)
  refine ⟨fun σ' G => (∃ u4 u5 u6 u7 u8 u9 : Option V, σ' = [some (.ref a), some (.ref d), some (.int b), some (.ref wt), u4, u5, u6, u7, u8, u9, none, none, none, none, none, none]) ∧ Lw H G d wt ws, ⟨4, rfl, by decide, by decide, for_range (n := 4) (fun i σ G => (∃ u4 u5 u6 u7 u8 u9 : Option V, σ = [some (.ref a), some (.ref d), some (.int b), some (.ref wt), u4, u5, u6, u7, u8, u9, none, none, none, none, none, none]) ∧ Lw H G d wt ws) ⟨⟨_, _, _, _, _, _, rfl⟩, L6⟩ ?_ (fun σ G h => h)⟩, ?_⟩
  · rintro i σ G0 hi ⟨⟨u4, u5, u6, u7, u8, u9, rfl⟩, L0⟩
    -- term
    refine ⟨fun σ' G => ∃ v t s, σ' = [some (.ref a), some (.ref d), some (.int b), some (.ref wt), some (.int (0 + (i : Int))), some v, u6, u7, u8, u9, none, none, none, none, none, none] ∧ Lw H G d wt ws ∧ TmAt G t v ∧ Gn 4 s t, ?_, ?_⟩
    · refine ⟨_, rfl, _, _, rfl, rfl, _, rfl, ite2 (fun _ => ?_) (fun _ => ?_)⟩
      · exact ⟨_, rfl, d, rfl, L0.D, fun G1 v t kg D' ta ga => ⟨v, t, false, rfl, L0.kpd kg D' hdn, ta, ga⟩⟩
      · exact ⟨_, rfl, d, rfl, L0.D, fun G1 v t kg D' ta ga => ⟨v, t, true, rfl, L0.kpd kg D' hdn, ta, ga⟩⟩
    rintro σ' G1 ⟨v, t, s, rfl, L1, t1, gt⟩
    clear L0 L6
    have dep : t.dep ≤ 5 := gt.dep
    have siz : t.size * 2 + 1 ≤ 243 := gt.size
    obtain ⟨r, hvl, hvs⟩ := gt.val w3 (by decide)
    have hlit := hvs.lit
    -- is_term, told, value
    refine ⟨fun σ' G => σ' = [some (.ref a), some (.ref d), some (.int b), some (.ref wt), some (.int (0 + (i : Int))), some v, u6, u7, u8, u9, none, none, none, none, none, none] ∧ Lw H G d wt ws ∧ TmAt G t v, ?_, ?_⟩
    · refine ⟨_, rfl, v, t, srtOf s, rfl, t1, dep, gt.ws, by omega, L1.k.tabG tn, fun G2 k2 => ⟨true, true, rfl, rfl, false, rfl, iteF ?_⟩⟩
      have L2 := L1.kp0 k2
      have t2 := t1.kp0 k2
      refine ⟨_, rfl, _, rfl, v, .ref wt, t, true, rfl, t2, dep, good L2, L2.k.tabG tn, L2.k.tabG tw, (fun z => nomatch z), fun _ => ⟨wt, ws, r, rfl, L2.w, hvl, fun G3 k3 => ?_⟩⟩
      have L3 := L2.kp0 k3
      have t3 := t2.kp0 k3
      refine ⟨_, rfl, _, rfl, v, t, wt, ws, r, rfl, t3, dep, L3.w, hvl, fun G4 k4 => ?_⟩
      exact ⟨r, r, rfl, Alk.refl hlit 2, fun G5 k5 => ⟨true, rfl, iteF ⟨rfl, (L3.kp0 k4).kp0 k5, (t3.kp0 k4).kp0 k5⟩⟩⟩
    rintro σ' G2 ⟨rfl, L2, t2⟩
    clear L1 t1
    -- for path in paths_of(term)[:4]
    refine ⟨_, rfl, v, t, rfl, t2, dep, by omega, fun G3 q3 rs k3 h3 len3 p3 => ?_⟩
    have L3 := L2.kp0 k3
    have t3 := t2.kp0 k3
    refine ⟨_, rfl, sl_upto (K := K) 4 rfl h3 fun G4 q4 k4 h4 => ?_⟩
    have L4 := L3.kp0 k4
    have t4 := t3.kp0 k4
    have p4 : ∀ (j : Nat) (x : V), ((rs.map V.ref).take 4)[j]? = some x → ∃ r p u, x = .ref r ∧ G4 r = some (.tup (PathV p)) ∧ At t p u := fun j x hx => by
      have hm := List.mem_of_mem_take (List.mem_of_getElem? hx)
      obtain ⟨r, hr, rfl⟩ := List.mem_map.mp hm
      obtain ⟨p, u, hp, ha⟩ := p3 r hr
      exact ⟨r, p, u, rfl, k4.tup0 hp, ha⟩
    generalize (rs.map V.ref).take 4 = ps at h4 p4
    clear p3 h3 len3 L2 t2 L3 t3 k3 k4
    refine ⟨q4, rfl, ⟨_, SqT.of h4⟩, for_tup (K := K) (a := q4) (xs := ps) (fun j σ G => (∃ u6 u7 u8 u9 : Option V, σ = [some (.ref a), some (.ref d), some (.int b), some (.ref wt), some (.int (0 + (i : Int))), some v, u6, u7, u8, u9, none, none, none, none, none, none]) ∧ Kp G4 G []) ⟨⟨_, _, _, _, rfl⟩, Kp.refl _⟩ (fun j σ G _ h => SqT.of (h.2.tup0 h4)) ?_ ?_⟩
    · rintro j x σ G5 hx ⟨⟨w6, w7, w8, w9, rfl⟩, k5⟩
      obtain ⟨r1, p, u, rfl, hr1', hau⟩ := p4 j x hx
      have hp5 := k5.tup0 hr1'
      have t5 := t4.kp0 k5
      have L5 := L4.kp0 k5
      have plen := hau.len
      obtain ⟨s', gu⟩ := gt.at hau
      have depu : u.dep ≤ 5 := gu.dep
      obtain ⟨ru, hvu, hput⟩ := hvl.part hau
      -- part
      refine ⟨_, rfl, _, rfl, v, t, u, r1, p, rfl, t5, hp5, hau, fun G6 xv k6 tu => ?_⟩
      have L6 := L5.kp0 k6
      have t6 := t5.kp0 k6
      have hp6 := k6.tup0 hp5
      have k46 := k5.then k6
      clear L5 t5 hp5
      -- leaf
      have hru : LitV ru := by
        obtain ⟨r', h1, h2⟩ := gu.val w3 (by decide)
        rw [hvu.det h1]
        exact h2.lit
      refine ⟨fun σ' G => ∃ lv, σ' = [some (.ref a), some (.ref d), some (.int b), some (.ref wt), some (.int (0 + (i : Int))), some v, some (.ref r1), some xv, some lv, w9, none, none, none, none, none, none] ∧ Kp G6 G [] ∧ LeafV G (litOf ru) lv, ?_, ?_⟩
      · refine ⟨_, rfl, _, rfl, xv, u, wt, ws, ru, rfl, tu, depu, L6.w, hvu, fun G7 k7 => ⟨ru, rfl, hru, fun en => ⟨_, rfl, k7, by rw [en]; rfl⟩, fun n en G8 p8 k8 h8 => ⟨_, rfl, k7.then k8, by rw [en]; exact ⟨p8, rfl, h8⟩⟩⟩⟩
      rintro σ' G7 ⟨lv, rfl, k7, hlv⟩
      -- put
      refine ⟨fun σ' G => σ' = [some (.ref a), some (.ref d), some (.int b), some (.ref wt), some (.int (0 + (i : Int))), some v, some (.ref r1), some xv, some lv, w9, none, none, none, none, none, none] ∧ Kp G6 G [], ?_, ?_⟩
      · have L7 := L6.kp0 k7
        have t7 := t6.kp0 k7
        have hp7 := k7.tup0 hp6
        cases hl : litOf ru with
        | none =>
          rw [hl] at hlv
          cases hlv
          exact ⟨_, rfl, rfl, false, rfl, iteF (iteF ⟨rfl, k7⟩)⟩
        | some n =>
          rw [hl] at hlv
          obtain ⟨pl, rfl, hpl⟩ := hlv
          refine ⟨_, rfl, rfl, true, rfl, iteT ?_⟩
          have hpv : Vl ws (putT t p (.lf n)) r := hput _ (lit_val hru hl)
          have hpd : (putT t p (.lf n)).dep ≤ 5 := Nat.le_trans (putT_dep rfl hau) dep
          refine ⟨_, rfl, _, rfl, _, rfl, v, .ref pl, t, u, .lf n, r1, p, rfl, t7, hp7, by omega, hau, ⟨pl, rfl, hpl⟩, fun G8 zv k8 tz => ?_⟩
          have L8 := L7.kp0 k8
          have t8 := t7.kp0 k8
          refine ⟨_, rfl, zv, .ref wt, _, true, rfl, tz, hpd, good L8, L8.k.tabG tn, L8.k.tabG tw, (fun z => nomatch z), fun _ => ⟨wt, ws, r, rfl, L8.w, hpv, fun G9 k9 => ?_⟩⟩
          have L9 := L8.kp0 k9
          have t9 := t8.kp0 k9
          refine ⟨_, rfl, _, rfl, v, t, wt, ws, r, rfl, t9, dep, L9.w, hvl, fun G10 k10 => ?_⟩
          obtain ⟨dd, dp, sh, ev⟩ := dp_lit (K := K) (H := G10) hlit
          exact ⟨dd, dd, dp, dp, sh, sh, false, by rw [ev]; rfl, iteF ⟨rfl, ((k7.then k8).then k9).then k10⟩⟩
      rintro σ' G8 ⟨rfl, k8⟩
      -- due
      refine ⟨fun σ' G => ∃ dv, σ' = [some (.ref a), some (.ref d), some (.int b), some (.ref wt), some (.int (0 + (i : Int))), some v, some (.ref r1), some xv, some lv, some dv, none, none, none, none, none, none] ∧ Kp G6 G [] ∧ ∀ r0, Vl ws0 u r0 → LeafV G (if foldable u = true then litOf r0 else none) dv, ?_, ?_⟩
      · have L8 := L6.kp0 k8
        have tu8 := tu.kp0 k8
        have gf := gu.fold
        obtain ⟨px, xs, rfl, hpx, hk⟩ := tu8.out
        have ek : xs.length = u.kids.length := (Paired.len hk).symm
        refine ⟨_, rfl, px, _, rfl, .inr (SqT.of hpx), _, _, rfl, rfl, _, rfl, ?_⟩
        by_cases h0 : u.kids = []
        · rw [decide_eq_false (show ¬ (((V.str u.nam :: xs).length : Nat) : Int) > 1 by rw [List.length_cons, ek, h0]; decide)]
          refine iteF (iteF ⟨_, rfl, k8, fun r0 _ => ?_⟩)
          rw [gf, h0]
          rfl
        rw [decide_eq_true (show (((V.str u.nam :: xs).length : Nat) : Int) > 1 by rw [List.length_cons, ek]; have := List.length_pos_iff.mpr h0; omega)]
        refine iteT ?_
        refine ⟨_, rfl, _, rfl, sl_tail (SqT.of hpx) fun qa hqa => ?_⟩
        have ka : Kp G8 (upd G8 qa (.tup xs)) [] := Kp.new hqa
        have hq1 : upd G8 qa (.tup xs) qa = some (.tup xs) := upd_same
        generalize upd G8 qa (.tup xs) = G9 at ka hq1 ⊢
        have hk9 := kids_kp ka hk
        refine ⟨qa, rfl, ⟨_, SqT.of hq1⟩, fun D hD => ?_⟩
        refine lc_tup (K := K) (a := qa) (xs := xs) (fun j G => Kp G9 G [] ∧ ∃ acc, G D = some (.lst acc) ∧ Paired (TmAt G) ((u.kids.take j).filter fun k => !(K08.plain k)) acc) ⟨Kp.new hD, [], upd_same, .nil⟩ (fun j G _ h => SqT.of (h.1.tup0 hq1)) (fun j y G hy ⟨kb, acc, hacc, hpa⟩ => ?_) (fun G ⟨kb, acc, hacc, hpa⟩ => ?_)
        · have hj : j < u.kids.length := by rw [← ek]; exact (List.getElem?_eq_some_iff.mp hy).1
          obtain ⟨kd, hkd⟩ : ∃ kd, u.kids[j]? = some kd := ⟨_, List.getElem?_eq_getElem hj⟩
          obtain ⟨y', hy', tk⟩ := Paired.get hk9 j kd hkd
          rw [hy] at hy'
          cases hy'
          have etk : (u.kids.take (j + 1)).filter (fun k => !(K08.plain k)) = (u.kids.take j).filter (fun k => !(K08.plain k)) ++ (if K08.plain kd = true then [] else [kd]) := by
            rw [List.take_succ, hkd, List.filter_append]
            congr 1
            cases hq : K08.plain kd <;> simp [hq]
          have lacc : acc.length ≤ 3 := by
            rw [← Paired.len hpa]
            have := List.length_filter_le (fun k => !(K08.plain k)) (u.kids.take j)
            rw [List.length_take] at this
            have := u.kids_le
            omega
          have tkG := tk.kp0 kb
          have yes : ∀ G', Kp G G' [] → K08.plain kd = false → ∃ acc', G' D = some (.lst acc') ∧ acc'.length < sizeLine ∧ (Kp G9 (upd G' D (.lst (acc' ++ [y]))) [] ∧ ∃ acc'', upd G' D (.lst (acc' ++ [y])) D = some (.lst acc'') ∧ Paired (TmAt (upd G' D (.lst (acc' ++ [y])))) ((u.kids.take (j + 1)).filter fun k => !(K08.plain k)) acc'') := fun G' kc hn => by
            have hD' := kc.lst0 hacc
            have nD : ∀ m ∈ [D], ∀ xs, G' m ≠ some (.tup xs) := fun m hm xs e => by rw [List.mem_singleton.mp hm, hD'] at e; cases e
            have kw : Kp G' (upd G' D (.lst (acc ++ [y]))) [D] := Kp.wl hD'
            refine ⟨acc, hD', Nat.lt_of_le_of_lt lacc (by decide), (kb.then kc).fresh kw fun m hm => by rw [List.mem_singleton.mp hm]; exact hD, _, upd_same, ?_⟩
            rw [etk, hn, if_neg (by decide)]
            exact paired_app (mapR (fun t v h => TmAt.kp kw nD t (h.kp0 kc)) hpa) (.cons (TmAt.kp kw nD kd (tkG.kp0 kc)) .nil)
          have no : ∀ G', Kp G G' [] → K08.plain kd = true → (Kp G9 G' [] ∧ ∃ acc'', G' D = some (.lst acc'') ∧ Paired (TmAt G') ((u.kids.take (j + 1)).filter fun k => !(K08.plain k)) acc'') := fun G' kc hn => by
            refine ⟨kb.then kc, acc, kc.lst0 hacc, ?_⟩
            rw [etk, hn, if_pos rfl, List.append_nil]
            exact mapR (fun t v h => h.kp0 kc) hpa
          obtain ⟨py, ys, rfl, hpy, hky⟩ := tkG.out
          have eky : ys.length = kd.kids.length := (Paired.len hky).symm
          refine ⟨rfl, _, rfl, py, _, rfl, .inr (SqT.of hpy), _, _, rfl, rfl, _, rfl, ?_⟩
          by_cases h1 : kd.kids = []
          · rw [decide_eq_false (show ¬ (((V.str kd.nam :: ys).length : Nat) : Int) > 1 by rw [List.length_cons, eky, h1]; decide)]
            refine iteF ⟨_, rfl, py, _, _, _, rfl, rfl, SqT.of hpy, at_of (j := 0) rfl rfl, (by show 3 ≤ sizeLine; decide), fun lx hlx => ?_⟩
            have kx : Kp G (upd G lx (.lst [.str "x", .str "y", .str "z"])) [] := Kp.new hlx
            refine ⟨lx, _, rfl, .inl (SqL.of upd_same), rfl, rfl, ?_⟩
            have epl : K08.plain kd = !(inV (.str kd.nam) [.str "x", .str "y", .str "z"]) := by
              unfold K08.plain
              rw [h1]
              rfl
            cases hin : inV (.str kd.nam) [.str "x", .str "y", .str "z"] with
            | true => exact ⟨true, rfl, iteT ⟨_, rfl, yes _ kx (by rw [epl, hin]; rfl)⟩⟩
            | false => exact ⟨false, rfl, iteF (no _ kx (by rw [epl, hin]; rfl))⟩
          · rw [decide_eq_true (show (((V.str kd.nam :: ys).length : Nat) : Int) > 1 by rw [List.length_cons, eky]; have := List.length_pos_iff.mpr h1; omega)]
            refine iteT ⟨_, rfl, yes _ (Kp.refl _) ?_⟩
            unfold K08.plain
            cases hh : kd.kids with
            | nil => exact absurd hh h1
            | cons _ _ => rfl
        · rw [ek, List.take_length] at hpa
          refine ⟨Nat.zero_le _, fun e1 he1 => ?_⟩
          have kc : Kp G (upd G e1 (.lst [])) [] := Kp.new he1
          have hpa' := mapR (fun t v h => TmAt.kp0 kc h) hpa
          have ksum := ((k8.then ka).then kb).then kc
          have hacc' := kc.lst0 hacc
          refine ⟨_, .list [], .lst (SqL.of hacc') (terms_empty hpa'), .lst (SqL.of upd_same) .nil, shaped_list fun t ht => ?_, rfl, ?_⟩
          · obtain ⟨s2, g2⟩ := gu.kids t (List.mem_filter.mp ht).1
            have : t.dep ≤ 5 := g2.dep
            exact ⟨g2.sok, by omega⟩
          rw [eqv_empty]
          obtain ⟨r0, hv0, hs0⟩ := gu.val w0 (by decide)
          have dv0 : ∀ r', Vl ws0 u r' → r' = r0 := fun r' h => h.det hv0
          have ne : u.kids.isEmpty = false := by
            cases hh : u.kids with
            | nil => exact absurd hh h0
            | cons _ _ => rfl
          have efl : (List.map Tm.pd (u.kids.filter fun k => !(K08.plain k))).isEmpty = foldable u := by
            rw [gf, ne, Bool.not_false, Bool.true_and, List.isEmpty_map, Bool.eq_iff_iff, List.isEmpty_iff, List.filter_eq_nil_iff, List.all_eq_true]
            constructor
            · intro h k hk
              have := h k hk
              simpa using this
            · intro h k hk
              simpa using h k hk
          rw [efl]
          refine ⟨_, rfl, ?_⟩
          cases hf : foldable u with
          | false => exact iteF ⟨_, rfl, ksum, fun r0 _ => by rw [if_neg (by decide)]; rfl⟩
          | true =>
            refine iteT ⟨_, rfl, (by show 3 ≤ sizeLine; decide), fun wz hwz => ?_⟩
            have kz : Kp _ (upd _ wz (.tup ws0)) [] := Kp.new hwz
            have kz2 := ksum.then kz
            refine ⟨.ref px, u, wz, ws0, r0, rfl, tu.kp0 kz2, depu, upd_same, hv0, fun Ga ka' => ⟨r0, rfl, hs0.lit, fun en => ⟨_, rfl, kz2.then ka', fun r1 hr1 => ?_⟩, fun n en Gb pb kb' hpb => ⟨_, rfl, (kz2.then ka').then kb', fun r1 hr1 => ?_⟩⟩⟩
            · rw [if_pos rfl, dv0 _ hr1, en]
              rfl
            · rw [if_pos rfl, dv0 _ hr1, en]
              exact ⟨pb, rfl, hpb⟩
      rintro σ' G9 ⟨dv, rfl, k9, hdv⟩
      -- folded, is_literal
      have L9 := L6.kp0 k9
      have tu9 := tu.kp0 k9
      obtain ⟨r0, hv0, hs0⟩ := gu.val w0 (by decide)
      have hd9 := hdv r0 hv0
      have kno : ∀ k ∈ u.kids, okN k.nam = true := fun k hk => let ⟨_, g⟩ := gu.kids k hk; g.okn
      -- the answer of folded
      refine ⟨_, rfl, xv, u, rfl, tu9, kno, L9.k.tabG tn, L9.k.tabG tf, fun hf Ga ka => ?_, fun hf => ⟨r0, hv0, hs0.lit, fun en Ga ka => ?_, fun n en Ga pa ka hpa => ?_⟩⟩
      · have hfv : LeafV Ga (if foldable u = true then litOf r0 else none) (.non) := by rw [hf]; rfl
        have hdx := hd9.kp ka
        refine ⟨_, rfl, _, dv, rfl, LeafV.alk hfv hdx 1, fun Gb kb => ⟨true, rfl, iteF ?_⟩⟩
        have kab := ka.then kb
        refine ⟨_, rfl, xv, u, rfl, tu9.kp0 kab, gu.okn, (L9.kp0 kab).k.tabG tn, fun Gc kc => ?_⟩
        have kac := kab.then kc
        have k4c := (k46.then k9).then kac
        obtain ⟨px, xs, rfl, hpx, hk⟩ := (tu9.kp0 kac).out
        have ek : xs.length = u.kids.length := (Paired.len hk).symm
        have epl : isLit u = (u.kids.isEmpty && !(inV (.str u.nam) [.str "x", .str "y", .str "z"])) := gu.plain.symm
        refine ⟨_, rfl, px, _, rfl, .inr (SqT.of hpx), rfl, ?_⟩
        by_cases h0 : u.kids = []
        · refine ⟨true, congrArg V.bl (decide_eq_true (by rw [List.length_cons, ek, h0]; rfl)), ?_⟩
          refine ⟨_, rfl, px, _, _, _, rfl, rfl, SqT.of hpx, at_of (j := 0) rfl rfl, (by show 3 ≤ sizeLine; decide), fun lx hlx => ?_⟩
          have kl : Kp Gc (upd Gc lx (.lst [.str "x", .str "y", .str "z"])) [] := Kp.new hlx
          refine ⟨lx, _, rfl, .inl (SqL.of upd_same), rfl, rfl, ?_⟩
          refine ⟨isLit u, !(inV (.str u.nam) [.str "x", .str "y", .str "z"]), rfl, true, congrArg V.bl (decide_eq_true (by rw [epl, h0]; rfl)), iteF ⟨⟨_, _, _, _, rfl⟩, k4c.then kl⟩⟩
        · refine ⟨false, congrArg V.bl (decide_eq_false fun z => by have := V.int.inj z; rw [List.length_cons, ek] at this; have := List.length_pos_iff.mpr h0; omega), ?_⟩
          have ne : u.kids.isEmpty = false := by
            cases hh : u.kids with
            | nil => exact absurd hh h0
            | cons _ _ => rfl
          exact ⟨isLit u, false, rfl, true, congrArg V.bl (decide_eq_true (by rw [epl, ne]; rfl)), iteF ⟨⟨_, _, _, _, rfl⟩, k4c⟩⟩
      · have hfv : LeafV Ga (if foldable u = true then litOf r0 else none) (.non) := by rw [hf, if_pos rfl, en]; rfl
        have hdx := hd9.kp ka
        refine ⟨_, rfl, _, dv, rfl, LeafV.alk hfv hdx 1, fun Gb kb => ⟨true, rfl, iteF ?_⟩⟩
        have kab := ka.then kb
        refine ⟨_, rfl, xv, u, rfl, tu9.kp0 kab, gu.okn, (L9.kp0 kab).k.tabG tn, fun Gc kc => ?_⟩
        have kac := kab.then kc
        have k4c := (k46.then k9).then kac
        obtain ⟨px, xs, rfl, hpx, hk⟩ := (tu9.kp0 kac).out
        have ek : xs.length = u.kids.length := (Paired.len hk).symm
        have epl : isLit u = (u.kids.isEmpty && !(inV (.str u.nam) [.str "x", .str "y", .str "z"])) := gu.plain.symm
        refine ⟨_, rfl, px, _, rfl, .inr (SqT.of hpx), rfl, ?_⟩
        by_cases h0 : u.kids = []
        · refine ⟨true, congrArg V.bl (decide_eq_true (by rw [List.length_cons, ek, h0]; rfl)), ?_⟩
          refine ⟨_, rfl, px, _, _, _, rfl, rfl, SqT.of hpx, at_of (j := 0) rfl rfl, (by show 3 ≤ sizeLine; decide), fun lx hlx => ?_⟩
          have kl : Kp Gc (upd Gc lx (.lst [.str "x", .str "y", .str "z"])) [] := Kp.new hlx
          refine ⟨lx, _, rfl, .inl (SqL.of upd_same), rfl, rfl, ?_⟩
          refine ⟨isLit u, !(inV (.str u.nam) [.str "x", .str "y", .str "z"]), rfl, true, congrArg V.bl (decide_eq_true (by rw [epl, h0]; rfl)), iteF ⟨⟨_, _, _, _, rfl⟩, k4c.then kl⟩⟩
        · refine ⟨false, congrArg V.bl (decide_eq_false fun z => by have := V.int.inj z; rw [List.length_cons, ek] at this; have := List.length_pos_iff.mpr h0; omega), ?_⟩
          have ne : u.kids.isEmpty = false := by
            cases hh : u.kids with
            | nil => exact absurd hh h0
            | cons _ _ => rfl
          exact ⟨isLit u, false, rfl, true, congrArg V.bl (decide_eq_true (by rw [epl, ne]; rfl)), iteF ⟨⟨_, _, _, _, rfl⟩, k4c⟩⟩
      · have hfv : LeafV Ga (if foldable u = true then litOf r0 else none) (.ref pa) := by rw [hf, if_pos rfl, en]; exact ⟨pa, rfl, hpa⟩
        have hdx := hd9.kp ka
        refine ⟨_, rfl, _, dv, rfl, LeafV.alk hfv hdx 1, fun Gb kb => ⟨true, rfl, iteF ?_⟩⟩
        have kab := ka.then kb
        refine ⟨_, rfl, xv, u, rfl, tu9.kp0 kab, gu.okn, (L9.kp0 kab).k.tabG tn, fun Gc kc => ?_⟩
        have kac := kab.then kc
        have k4c := (k46.then k9).then kac
        obtain ⟨px, xs, rfl, hpx, hk⟩ := (tu9.kp0 kac).out
        have ek : xs.length = u.kids.length := (Paired.len hk).symm
        have epl : isLit u = (u.kids.isEmpty && !(inV (.str u.nam) [.str "x", .str "y", .str "z"])) := gu.plain.symm
        refine ⟨_, rfl, px, _, rfl, .inr (SqT.of hpx), rfl, ?_⟩
        by_cases h0 : u.kids = []
        · refine ⟨true, congrArg V.bl (decide_eq_true (by rw [List.length_cons, ek, h0]; rfl)), ?_⟩
          refine ⟨_, rfl, px, _, _, _, rfl, rfl, SqT.of hpx, at_of (j := 0) rfl rfl, (by show 3 ≤ sizeLine; decide), fun lx hlx => ?_⟩
          have kl : Kp Gc (upd Gc lx (.lst [.str "x", .str "y", .str "z"])) [] := Kp.new hlx
          refine ⟨lx, _, rfl, .inl (SqL.of upd_same), rfl, rfl, ?_⟩
          refine ⟨isLit u, !(inV (.str u.nam) [.str "x", .str "y", .str "z"]), rfl, true, congrArg V.bl (decide_eq_true (by rw [epl, h0]; rfl)), iteF ⟨⟨_, _, _, _, rfl⟩, k4c.then kl⟩⟩
        · refine ⟨false, congrArg V.bl (decide_eq_false fun z => by have := V.int.inj z; rw [List.length_cons, ek] at this; have := List.length_pos_iff.mpr h0; omega), ?_⟩
          have ne : u.kids.isEmpty = false := by
            cases hh : u.kids with
            | nil => exact absurd hh h0
            | cons _ _ => rfl
          exact ⟨isLit u, false, rfl, true, congrArg V.bl (decide_eq_true (by rw [epl, ne]; rfl)), iteF ⟨⟨_, _, _, _, rfl⟩, k4c⟩⟩
    · rintro σ G5 ⟨⟨w6, w7, w8, w9, rfl⟩, k5⟩
      exact ⟨⟨_, _, _, _, _, _, rfl⟩, L4.kp0 k5⟩
  rintro σ' G0 ⟨⟨u4, u5, u6, u7, u8, u9, rfl⟩, L0⟩
  clear L6
  -- near
  refine ⟨fun σ' G => ∃ near : Int, σ' = [some (.ref a), some (.ref d), some (.int b), some (.ref wt), u4, u5, u6, u7, u8, u9, some (.int near), none, none, none, none, none] ∧ Lw H G d wt ws, ?_, ?_⟩
  · exact ⟨_, rfl, d, _, rfl, L0.D, by decide, fun z G1 z0 z1 k1 D1 => ⟨_, _, rfl, rfl, _, rfl, L0.kpd k1 D1 hdn⟩⟩
  rintro σ' G1 ⟨near, rfl, L1⟩
  clear L0
  -- one
  refine ⟨_, rfl, d, _, rfl, L1.D, by decide, fun z G2 z0 z1 k2 D2 => ?_⟩
  have L2 := L1.kpd k2 D2 hdn
  clear L1 k2 D2
  obtain ⟨kz, ez⟩ := Int.eq_ofNat_of_zero_le z0
  have hkz : kz < 1999 := by omega
  refine ⟨_, _, rfl, rfl, _, rfl, Nat.lt_of_le_of_lt (Nat.log2_le_self _) (by omega), (by show 1 ≤ sizeLine; decide), fun po hpo => ?_⟩
  have k3 := Kp.new (o := .tup [.str (toString (z - 999))]) hpo
  have o3 : upd G2 po (.tup [.str (toString (z - 999))]) po = some (.tup [.str (toString (z - 999))]) := upd_same
  have L3 := L2.kp0 k3
  show tSeq _ _ _ _ (upd G2 po (.tup [.str (toString (z - 999))]))
  generalize upd G2 po (.tup [.str (toString (z - 999))]) = G3 at k3 o3 L3 ⊢
  have eo : z - 999 = (kz : Int) - 999 := by rw [ez]
  rw [eo] at o3
  have g1 : ∀ n, Gn n false (.lf (toString ((kz : Int) - 999))) := fun n => .num n kz hkz
  generalize hone : (.lf (toString ((kz : Int) - 999)) : Tm) = one at g1
  have to3 : TmAt G3 one (.ref po) := by rw [← hone]; exact ⟨po, rfl, o3⟩
  clear L2 k3
  -- for name in ..
  refine ⟨fun σ' G => (∃ u12 u13 : Option V, σ' = [some (.ref a), some (.ref d), some (.int b), some (.ref wt), u4, u5, u6, u7, u8, u9, some (.int near), some (.ref po), u12, u13, none, none]) ∧ Kp G3 G [], ?_, ?_⟩
  · refine ⟨(by show 7 ≤ sizeLine; decide), fun ln hln => ?_⟩
    have kn : Kp G3 (upd G3 ln (.lst ((["add", "sub", "mul", "min", "max", "less", "alike"] : List Str).map V.str))) [] := Kp.new hln
    have en : upd G3 ln (.lst ((["add", "sub", "mul", "min", "max", "less", "alike"] : List Str).map V.str)) ln = some (.lst ((["add", "sub", "mul", "min", "max", "less", "alike"] : List Str).map V.str)) := upd_same
    show ∃ x, V.ref ln = V.ref x ∧ _
    have eE : (upd G3 ln (HO.lst [V.str "add", V.str "sub", V.str "mul", V.str "min", V.str "max", V.str "less", V.str "alike"])) = upd G3 ln (.lst ((["add", "sub", "mul", "min", "max", "less", "alike"] : List Str).map V.str)) := rfl
    rw [eE]
    generalize upd G3 ln (.lst ((["add", "sub", "mul", "min", "max", "less", "alike"] : List Str).map V.str)) = Gn0 at kn en ⊢
    refine ⟨ln, rfl, ⟨_, SqL.of en⟩, for_list (K := K) (a := ln) (xs := (["add", "sub", "mul", "min", "max", "less", "alike"] : List Str).map V.str) (fun j σ G => (∃ u12 u13 : Option V, σ = [some (.ref a), some (.ref d), some (.int b), some (.ref wt), u4, u5, u6, u7, u8, u9, some (.int near), some (.ref po), u12, u13, none, none]) ∧ Kp Gn0 G []) ⟨⟨_, _, rfl⟩, Kp.refl _⟩ (fun j σ G _ h => SqL.of (h.2.lst0 en)) ?_ ?_⟩
    · rintro j x σ G4 hx ⟨⟨u12, u13, rfl⟩, k4⟩
      obtain ⟨nm, hnm, rfl⟩ : ∃ nm, nm ∈ (["add", "sub", "mul", "min", "max", "less", "alike"] : List Str) ∧ x = .str nm := by
        obtain ⟨y, hy, e⟩ := List.mem_map.mp (List.mem_of_getElem? hx)
        exact ⟨y, hy, e.symm⟩
      have to4 := (to3.kp0 kn).kp0 k4
      -- two
      refine ⟨fun σ' G => ∃ twv two, σ' = [some (.ref a), some (.ref d), some (.int b), some (.ref wt), u4, u5, u6, u7, u8, u9, some (.int near), some (.ref po), some (.str nm), some twv, none, none] ∧ TmAt G two twv ∧ (Gn 0 false two ∧ K08.plain two = true) ∧ Kp G4 G [], ?_, ?_⟩
      · have p17 : (toString (((1016 : Nat) : Int) - 999) : Str) = "17" := by decide +kernel
        have g17 : Gn 0 false (.lf "17") := by rw [← p17]; exact .num 0 1016 (by decide)
        refine ⟨_, rfl, rfl, _, rfl, ?_⟩
        by_cases ea : nm = "alike"
        · subst ea
          rw [decide_eq_true rfl]
          refine iteF ⟨_, rfl, _, one, rfl, to4, ⟨g1 0, ?_⟩, Kp.refl _⟩
          rw [← hone]
          show (true && !(inV (.str (toString ((kz : Int) - 999))) [.str "x", .str "y", .str "z"])) = true
          rw [(nu_facts hkz).2.2.1]
          rfl
        · rw [decide_eq_false (fun z => ea (V.str.inj z))]
          exact iteT ⟨(by show 1 ≤ sizeLine; decide), fun p2 hp2 => ⟨_, .lf "17", rfl, ⟨p2, rfl, upd_same⟩, ⟨g17, by decide +kernel⟩, Kp.new hp2⟩⟩
      rintro σ' G5 ⟨twv, two, rfl, tw5, ⟨g2, pl2⟩, k45⟩
      have k5 := k4.then k45
      have to5 := to4.kp0 k45
      have L5 := ((L3.kp0 kn).kp0 k4).kp0 k45
      have pl1 : K08.plain one = true := by
        rw [← hone]
        show (true && !(inV (.str (toString ((kz : Int) - 999))) [.str "x", .str "y", .str "z"])) = true
        rw [(nu_facts hkz).2.2.1]
        rfl
      obtain ⟨s, gt⟩ : ∃ s, Gn 1 s (.bi nm one two) := by
        simp only [List.mem_cons, List.not_mem_nil, or_false] at hnm
        rcases hnm with rfl | rfl | rfl | rfl | rfl | rfl | rfl
        · exact ⟨_, .ar _ (by simp) (g1 0) g2⟩
        · exact ⟨_, .ar _ (by simp) (g1 0) g2⟩
        · exact ⟨_, .ar _ (by simp) (g1 0) g2⟩
        · exact ⟨_, .ar _ (by simp) (g1 0) g2⟩
        · exact ⟨_, .ar _ (by simp) (g1 0) g2⟩
        · exact ⟨_, .cm _ (by simp) (g1 0) g2⟩
        · exact ⟨_, .cm _ (by simp) (g1 0) g2⟩
      have hfo : foldable (.bi nm one two) = true := by
        rw [gt.fold]
        show (true && ([one, two].all K08.plain)) = true
        simp [pl1, pl2]
      obtain ⟨r0, hv0, hs0⟩ := gt.val w0 (by decide)
      have kno : ∀ k ∈ (Tm.bi nm one two).kids, okN k.nam = true := fun k hk => let ⟨_, g⟩ := gt.kids k hk; g.okn
      -- folded
      refine ⟨_, rfl, _, rfl, _, rfl, (by show 3 ≤ sizeLine; decide), fun q hq => ?_⟩
      have kq := Kp.new (o := .tup [.str nm, .ref po, twv]) hq
      have tq : TmAt (upd G5 q (.tup [.str nm, .ref po, twv])) (.bi nm one two) (.ref q) := ⟨q, _, _, rfl, upd_same, to5.kp0 kq, tw5.kp0 kq⟩
      have Lq := L5.kp0 kq
      generalize upd G5 q (.tup [.str nm, .ref po, twv]) = Gq at kq tq Lq ⊢
      refine ⟨.ref q, .bi nm one two, rfl, tq, kno, Lq.k.tabG tn, Lq.k.tabG tf, (fun z => nomatch hfo.symm.trans z), fun _ => ⟨r0, hv0, hs0.lit, fun en Gf kf => ?_, fun n en Gf pf kf hpf => ?_⟩⟩
      · have hfv : LeafV Gf (litOf r0) (.non) := by rw [en]; exact rfl
        refine ⟨_, rfl, _, rfl, _, rfl, (by show 3 ≤ sizeLine; decide), fun q2 hq2 => ?_⟩
        have kq2 := Kp.new (o := .tup [.str nm, .ref po, twv]) hq2
        have tq2 : TmAt (upd Gf q2 (.tup [.str nm, .ref po, twv])) (.bi nm one two) (.ref q2) := ⟨q2, _, _, rfl, upd_same, ((to5.kp0 kq).kp0 kf).kp0 kq2, ((tw5.kp0 kq).kp0 kf).kp0 kq2⟩
        have hfv := hfv.kp kq2
        have kA := ((k5.then kq).then kf).then kq2
        generalize upd Gf q2 (.tup [.str nm, .ref po, twv]) = Ga at kq2 tq2 hfv kA ⊢
        refine ⟨(by show 3 ≤ sizeLine; decide), fun wz hwz => ?_⟩
        have kz := Kp.new (o := .tup ws0) hwz
        have kB := kA.then kz
        have hfv := hfv.kp kz
        refine ⟨.ref q2, .bi nm one two, wz, ws0, r0, rfl, tq2.kp0 kz, Nat.le_trans gt.dep (by decide), upd_same, hv0, fun Gb kb => ⟨r0, rfl, hs0.lit, fun en' => ?_, fun n' en' Gc pc kc hpc => ?_⟩⟩
        · exact ⟨_, _, rfl, LeafV.alk (hfv.kp kb) (by rw [en']; rfl) 1, fun Gd kd => ⟨true, rfl, iteF ⟨⟨_, _, rfl⟩, (kB.then kb).then kd⟩⟩⟩
        · exact ⟨_, _, rfl, LeafV.alk ((hfv.kp kb).kp kc) (by rw [en']; exact ⟨pc, rfl, hpc⟩) 1, fun Gd kd => ⟨true, rfl, iteF ⟨⟨_, _, rfl⟩, ((kB.then kb).then kc).then kd⟩⟩⟩
      · have hfv : LeafV Gf (litOf r0) (.ref pf) := by rw [en]; exact ⟨pf, rfl, hpf⟩
        refine ⟨_, rfl, _, rfl, _, rfl, (by show 3 ≤ sizeLine; decide), fun q2 hq2 => ?_⟩
        have kq2 := Kp.new (o := .tup [.str nm, .ref po, twv]) hq2
        have tq2 : TmAt (upd Gf q2 (.tup [.str nm, .ref po, twv])) (.bi nm one two) (.ref q2) := ⟨q2, _, _, rfl, upd_same, ((to5.kp0 kq).kp0 kf).kp0 kq2, ((tw5.kp0 kq).kp0 kf).kp0 kq2⟩
        have hfv := hfv.kp kq2
        have kA := ((k5.then kq).then kf).then kq2
        generalize upd Gf q2 (.tup [.str nm, .ref po, twv]) = Ga at kq2 tq2 hfv kA ⊢
        refine ⟨(by show 3 ≤ sizeLine; decide), fun wz hwz => ?_⟩
        have kz := Kp.new (o := .tup ws0) hwz
        have kB := kA.then kz
        have hfv := hfv.kp kz
        refine ⟨.ref q2, .bi nm one two, wz, ws0, r0, rfl, tq2.kp0 kz, Nat.le_trans gt.dep (by decide), upd_same, hv0, fun Gb kb => ⟨r0, rfl, hs0.lit, fun en' => ?_, fun n' en' Gc pc kc hpc => ?_⟩⟩
        · exact ⟨_, _, rfl, LeafV.alk (hfv.kp kb) (by rw [en']; rfl) 1, fun Gd kd => ⟨true, rfl, iteF ⟨⟨_, _, rfl⟩, (kB.then kb).then kd⟩⟩⟩
        · exact ⟨_, _, rfl, LeafV.alk ((hfv.kp kb).kp kc) (by rw [en']; exact ⟨pc, rfl, hpc⟩) 1, fun Gd kd => ⟨true, rfl, iteF ⟨⟨_, _, rfl⟩, ((kB.then kb).then kc).then kd⟩⟩⟩
    · rintro σ G ⟨⟨u12, u13, rfl⟩, kk⟩
      exact ⟨⟨_, _, rfl⟩, kn.then kk⟩
  rintro σ' G4 ⟨⟨u12, u13, rfl⟩, k4⟩
  have L4 := L3.kp0 k4
  have to4 := to3.kp0 k4
  clear L3 o3 k4
  -- literal_of
  refine ⟨fun σ' G => σ' = [some (.ref a), some (.ref d), some (.int b), some (.ref wt), u4, u5, u6, u7, u8, u9, some (.int near), some (.ref po), u12, u13, none, none] ∧ Kp G4 G [], ?_, ?_⟩
  · have ly : litOf (.bl true) = some "yes" := rfl
    have ln : litOf (.bl false) = some "no" := rfl
    refine ⟨_, rfl, .int near, rfl, .inl ⟨_, rfl⟩, fun en G5 k5 => ?_, fun n en G5 p5 k5 h5 => ?_⟩
    · have hv1 : LeafV G5 (litOf (.int near)) (.non) := by rw [en]; exact rfl
      refine ⟨.bl true, rfl, .inr ⟨_, rfl⟩, (fun z => nomatch z), fun n2 e2 G6 p6 k6 h6 => ?_⟩
      cases e2
      have hv1 := hv1.kp k6
      refine ⟨.bl false, rfl, .inr ⟨_, rfl⟩, (fun z => nomatch z), fun n3 e3 G7 p7 k7 h7 => ?_⟩
      cases e3
      have hv1 := hv1.kp k7
      have h6 := k7.tup0 h6
      refine ⟨(by show 3 ≤ sizeLine; decide), fun l1 hl1 => ?_⟩
      have k8 := Kp.new (o := .lst [.non, .ref p6, .ref p7]) hl1
      have e8 : upd G7 l1 (.lst [.non, .ref p6, .ref p7]) l1 = some (.lst [.non, .ref p6, .ref p7]) := upd_same
      have hv1 := hv1.kp k8
      have h6 := k8.tup0 h6
      have h7 := k8.tup0 h7
      have k48 := ((k5.then k6).then k7).then k8
      show tCons _ _ _ (upd G7 l1 (.lst [.non, .ref p6, .ref p7])) _
      generalize upd G7 l1 (.lst [.non, .ref p6, .ref p7]) = G8 at k8 e8 hv1 h6 h7 k48 ⊢
      clear k5 k6 k7 k8
      refine ⟨_, rfl, .int near, rfl, .inl ⟨_, rfl⟩, fun en2 => ?_, fun n4 en2 G9 p9 k9 h9 => ?_⟩
      · have hv2 : LeafV G8 (litOf (.int near)) (.non) := by rw [en2]; exact rfl
        refine ⟨(by show 1 ≤ sizeLine; decide), fun py hpy => ?_⟩
        have kA := Kp.new (o := .tup [.str "yes"]) hpy
        have hy : upd G8 py (.tup [.str "yes"]) py = some (.tup [.str "yes"]) := upd_same
        refine ⟨(by show 1 ≤ sizeLine; decide), fun pn hpn => ?_⟩
        have kB := Kp.new (o := .tup [.str "no"]) hpn
        have hn : upd _ pn (.tup [.str "no"]) pn = some (.tup [.str "no"]) := upd_same (H := upd G8 py (.tup [.str "yes"]))
        refine ⟨(by show 3 ≤ sizeLine; decide), fun l2 hl2 => ?_⟩
        have kC := Kp.new (o := .lst [.non, .ref py, .ref pn]) hl2
        have kAC := (kA.then kB).then kC
        refine ⟨.ref l1, .ref l2, rfl, .inr (.inl ⟨l1, l2, _, _, rfl, rfl, kAC.lst0 e8, upd_same, .cons (LeafV.alk (hv1.kp kAC) (hv2.kp kAC) 0) (.cons (LeafV.alk (o := some "yes") ⟨p6, rfl, kAC.tup0 h6⟩ ⟨py, rfl, (kB.then kC).tup0 hy⟩ 0) (.cons (LeafV.alk (o := some "no") ⟨p7, rfl, kAC.tup0 h7⟩ ⟨pn, rfl, kC.tup0 hn⟩ 0) .nil)), (by show 3 ≤ 1000; decide)⟩), fun Gd kd => ⟨true, rfl, iteF ⟨rfl, (k48.then kAC).then kd⟩⟩⟩
      · have hv2 : LeafV G9 (litOf (.int near)) (.ref p9) := by rw [en2]; exact ⟨p9, rfl, h9⟩
        have hv1 := hv1.kp k9
        have h6 := k9.tup0 h6
        have h7 := k9.tup0 h7
        have e8 := k9.lst0 e8
        have k48 := k48.then k9
        refine ⟨(by show 1 ≤ sizeLine; decide), fun py hpy => ?_⟩
        have kA := Kp.new (o := .tup [.str "yes"]) hpy
        have hy : upd G9 py (.tup [.str "yes"]) py = some (.tup [.str "yes"]) := upd_same
        refine ⟨(by show 1 ≤ sizeLine; decide), fun pn hpn => ?_⟩
        have kB := Kp.new (o := .tup [.str "no"]) hpn
        have hn : upd _ pn (.tup [.str "no"]) pn = some (.tup [.str "no"]) := upd_same (H := upd G9 py (.tup [.str "yes"]))
        refine ⟨(by show 3 ≤ sizeLine; decide), fun l2 hl2 => ?_⟩
        have kC := Kp.new (o := .lst [.ref p9, .ref py, .ref pn]) hl2
        have kAC := (kA.then kB).then kC
        refine ⟨.ref l1, .ref l2, rfl, .inr (.inl ⟨l1, l2, _, _, rfl, rfl, kAC.lst0 e8, upd_same, .cons (LeafV.alk (hv1.kp kAC) (hv2.kp kAC) 0) (.cons (LeafV.alk (o := some "yes") ⟨p6, rfl, kAC.tup0 h6⟩ ⟨py, rfl, (kB.then kC).tup0 hy⟩ 0) (.cons (LeafV.alk (o := some "no") ⟨p7, rfl, kAC.tup0 h7⟩ ⟨pn, rfl, kC.tup0 hn⟩ 0) .nil)), (by show 3 ≤ 1000; decide)⟩), fun Gd kd => ⟨true, rfl, iteF ⟨rfl, (k48.then kAC).then kd⟩⟩⟩
    · have hv1 : LeafV G5 (litOf (.int near)) (.ref p5) := by rw [en]; exact ⟨p5, rfl, h5⟩
      refine ⟨.bl true, rfl, .inr ⟨_, rfl⟩, (fun z => nomatch z), fun n2 e2 G6 p6 k6 h6 => ?_⟩
      cases e2
      have hv1 := hv1.kp k6
      refine ⟨.bl false, rfl, .inr ⟨_, rfl⟩, (fun z => nomatch z), fun n3 e3 G7 p7 k7 h7 => ?_⟩
      cases e3
      have hv1 := hv1.kp k7
      have h6 := k7.tup0 h6
      refine ⟨(by show 3 ≤ sizeLine; decide), fun l1 hl1 => ?_⟩
      have k8 := Kp.new (o := .lst [.ref p5, .ref p6, .ref p7]) hl1
      have e8 : upd G7 l1 (.lst [.ref p5, .ref p6, .ref p7]) l1 = some (.lst [.ref p5, .ref p6, .ref p7]) := upd_same
      have hv1 := hv1.kp k8
      have h6 := k8.tup0 h6
      have h7 := k8.tup0 h7
      have k48 := ((k5.then k6).then k7).then k8
      show tCons _ _ _ (upd G7 l1 (.lst [.ref p5, .ref p6, .ref p7])) _
      generalize upd G7 l1 (.lst [.ref p5, .ref p6, .ref p7]) = G8 at k8 e8 hv1 h6 h7 k48 ⊢
      clear k5 k6 k7 k8
      refine ⟨_, rfl, .int near, rfl, .inl ⟨_, rfl⟩, fun en2 => ?_, fun n4 en2 G9 p9 k9 h9 => ?_⟩
      · have hv2 : LeafV G8 (litOf (.int near)) (.non) := by rw [en2]; exact rfl
        refine ⟨(by show 1 ≤ sizeLine; decide), fun py hpy => ?_⟩
        have kA := Kp.new (o := .tup [.str "yes"]) hpy
        have hy : upd G8 py (.tup [.str "yes"]) py = some (.tup [.str "yes"]) := upd_same
        refine ⟨(by show 1 ≤ sizeLine; decide), fun pn hpn => ?_⟩
        have kB := Kp.new (o := .tup [.str "no"]) hpn
        have hn : upd _ pn (.tup [.str "no"]) pn = some (.tup [.str "no"]) := upd_same (H := upd G8 py (.tup [.str "yes"]))
        refine ⟨(by show 3 ≤ sizeLine; decide), fun l2 hl2 => ?_⟩
        have kC := Kp.new (o := .lst [.non, .ref py, .ref pn]) hl2
        have kAC := (kA.then kB).then kC
        refine ⟨.ref l1, .ref l2, rfl, .inr (.inl ⟨l1, l2, _, _, rfl, rfl, kAC.lst0 e8, upd_same, .cons (LeafV.alk (hv1.kp kAC) (hv2.kp kAC) 0) (.cons (LeafV.alk (o := some "yes") ⟨p6, rfl, kAC.tup0 h6⟩ ⟨py, rfl, (kB.then kC).tup0 hy⟩ 0) (.cons (LeafV.alk (o := some "no") ⟨p7, rfl, kAC.tup0 h7⟩ ⟨pn, rfl, kC.tup0 hn⟩ 0) .nil)), (by show 3 ≤ 1000; decide)⟩), fun Gd kd => ⟨true, rfl, iteF ⟨rfl, (k48.then kAC).then kd⟩⟩⟩
      · have hv2 : LeafV G9 (litOf (.int near)) (.ref p9) := by rw [en2]; exact ⟨p9, rfl, h9⟩
        have hv1 := hv1.kp k9
        have h6 := k9.tup0 h6
        have h7 := k9.tup0 h7
        have e8 := k9.lst0 e8
        have k48 := k48.then k9
        refine ⟨(by show 1 ≤ sizeLine; decide), fun py hpy => ?_⟩
        have kA := Kp.new (o := .tup [.str "yes"]) hpy
        have hy : upd G9 py (.tup [.str "yes"]) py = some (.tup [.str "yes"]) := upd_same
        refine ⟨(by show 1 ≤ sizeLine; decide), fun pn hpn => ?_⟩
        have kB := Kp.new (o := .tup [.str "no"]) hpn
        have hn : upd _ pn (.tup [.str "no"]) pn = some (.tup [.str "no"]) := upd_same (H := upd G9 py (.tup [.str "yes"]))
        refine ⟨(by show 3 ≤ sizeLine; decide), fun l2 hl2 => ?_⟩
        have kC := Kp.new (o := .lst [.ref p9, .ref py, .ref pn]) hl2
        have kAC := (kA.then kB).then kC
        refine ⟨.ref l1, .ref l2, rfl, .inr (.inl ⟨l1, l2, _, _, rfl, rfl, kAC.lst0 e8, upd_same, .cons (LeafV.alk (hv1.kp kAC) (hv2.kp kAC) 0) (.cons (LeafV.alk (o := some "yes") ⟨p6, rfl, kAC.tup0 h6⟩ ⟨py, rfl, (kB.then kC).tup0 hy⟩ 0) (.cons (LeafV.alk (o := some "no") ⟨p7, rfl, kAC.tup0 h7⟩ ⟨pn, rfl, kC.tup0 hn⟩ 0) .nil)), (by show 3 ≤ 1000; decide)⟩), fun Gd kd => ⟨true, rfl, iteF ⟨rfl, (k48.then kAC).then kd⟩⟩⟩
  rintro σ' G5 ⟨rfl, k5⟩
  have L5 := L4.kp0 k5
  have to5 := to4.kp0 k5
  clear L4 to4 k5
  -- what does not fold
  refine ⟨fun σ' G => σ' = [some (.ref a), some (.ref d), some (.int b), some (.ref wt), u4, u5, u6, u7, u8, u9, some (.int near), some (.ref po), u12, u13, none, none] ∧ Kp G5 G [], ?_, ?_⟩
  · have L0' := L5
    have to0 := to5
    have kk0 := Kp.refl G5
    refine ⟨_, rfl, (by show 2 ≤ sizeLine; decide), fun q0 hq0 => ?_⟩
    have fo0 : foldable (.un "zz" one) = false := fold_no (show ari "zz" ≠ some 1 by decide +kernel)
    have kq0 := Kp.new (o := .tup [.str "zz", .ref po]) hq0
    have Lq0 := L0'.kp0 kq0
    refine ⟨.ref q0, .un "zz" one, rfl, ⟨q0, _, rfl, upd_same, to0.kp0 (Kp.new hq0)⟩, (fun k hk => by rw [List.mem_singleton.mp (show k ∈ [one] from hk)]; exact (g1 0).okn), Lq0.k.tabG tn, Lq0.k.tabG tf, (fun _ Gf kf => ⟨rfl, false, rfl, iteF ?_⟩), fun z => nomatch fo0.symm.trans z⟩
    have L1' := Lq0.kp0 kf
    have to1 := (to0.kp0 kq0).kp0 kf
    have kk1 := (kk0.then kq0).then kf
    refine ⟨_, rfl, (by show 2 ≤ sizeLine; decide), fun q1 hq1 => ?_⟩
    have fo1 : foldable (.un "add" one) = false := fold_no (show ari "add" ≠ some 1 by decide +kernel)
    have kq1 := Kp.new (o := .tup [.str "add", .ref po]) hq1
    have Lq1 := L1'.kp0 kq1
    refine ⟨.ref q1, .un "add" one, rfl, ⟨q1, _, rfl, upd_same, to1.kp0 (Kp.new hq1)⟩, (fun k hk => by rw [List.mem_singleton.mp (show k ∈ [one] from hk)]; exact (g1 0).okn), Lq1.k.tabG tn, Lq1.k.tabG tf, (fun _ Gf kf => ⟨rfl, false, rfl, iteF ?_⟩), fun z => nomatch fo1.symm.trans z⟩
    have L2' := Lq1.kp0 kf
    have to2 := (to1.kp0 kq1).kp0 kf
    have kk2 := (kk1.then kq1).then kf
    refine ⟨_, rfl, _, rfl, (by show 3 ≤ sizeLine; decide), fun q2 hq2 => ?_⟩
    have fo2 : foldable (.bi "f" one one) = false := fold_no (show ari "f" ≠ some 2 by decide +kernel)
    have kq2 := Kp.new (o := .tup [.str "f", .ref po, .ref po]) hq2
    have Lq2 := L2'.kp0 kq2
    refine ⟨.ref q2, .bi "f" one one, rfl, ⟨q2, _, _, rfl, upd_same, to2.kp0 (Kp.new hq2), to2.kp0 (Kp.new hq2)⟩, (fun k hk => by have hk : k ∈ [one, one] := hk; simp only [List.mem_cons, List.not_mem_nil, or_false, or_self] at hk; rw [hk]; exact (g1 0).okn), Lq2.k.tabG tn, Lq2.k.tabG tf, (fun _ Gf kf => ⟨rfl, false, rfl, iteF ?_⟩), fun z => nomatch fo2.symm.trans z⟩
    have L3' := Lq2.kp0 kf
    have to3 := (to2.kp0 kq2).kp0 kf
    have kk3 := (kk2.then kq2).then kf
    refine ⟨(by show 1 ≤ sizeLine; decide), fun q3 hq3 => ?_⟩
    have fo3 : foldable (.lf "yes") = false := rfl
    have kq3 := Kp.new (o := .tup [.str "yes"]) hq3
    have Lq3 := L3'.kp0 kq3
    refine ⟨.ref q3, .lf "yes", rfl, ⟨q3, rfl, upd_same⟩, (fun k hk => nomatch (show k ∈ [] from hk)), Lq3.k.tabG tn, Lq3.k.tabG tf, (fun _ Gf kf => ⟨rfl, false, rfl, iteF ⟨rfl, (kk3.then kq3).then kf⟩⟩), fun z => nomatch fo3.symm.trans z⟩
  rintro σ' G6 ⟨rfl, k6⟩
  have L6 := L5.kp0 k6
  clear L5 to5 k6
  obtain ⟨xa, xb, xc, rfl, _⟩ := w3
  -- odd
  refine ⟨fun σ' G => ∃ (lo : Addr) (os : List V), σ' = [some (.ref a), some (.ref d), some (.int b), some (.ref wt), u4, u5, u6, u7, u8, u9, some (.int near), some (.ref po), u12, u13, some (.ref lo), none] ∧ G lo = some (.lst os) ∧ (∀ x ∈ os, WorldV G x false) ∧ Kp G6 G [], ?_, ?_⟩
  · have w6 := L6.w
    refine ⟨_, rfl, wt, _, rfl, .inr (SqT.of w6), fun l1 hl1 => ?_⟩
    have k1 := Kp.new (o := .lst [.int xa, .int xb, .int xc]) hl1
    have W1 : WorldV (upd G6 l1 (.lst [.int xa, .int xb, .int xc])) (.ref l1) false := .inr (.inr (.inl ⟨l1, _, rfl, upd_same, rfl⟩))
    have w7 := k1.tup0 w6
    generalize upd G6 l1 (.lst [.int xa, .int xb, .int xc]) = A1 at k1 W1 w7 ⊢
    refine ⟨_, rfl, _, rfl, sl_head (K := K) 2 rfl (SqT.of w7) (by show 2 < 3; decide) (zs := [.int xa, .int xb]) rfl fun p2 hp2 => ?_⟩
    have k2 := Kp.new (o := .tup [.int xa, .int xb]) hp2
    have W2 : WorldV (upd A1 p2 (.tup [.int xa, .int xb])) (.ref p2) false := world_tup upd_same (all2 (numI _) (numI _)) rfl
    have W1 := W1.kp k2
    have w8 := k2.tup0 w7
    have k02 := k1.then k2
    generalize upd A1 p2 (.tup [.int xa, .int xb]) = A2 at k2 W1 W2 w8 k02 ⊢
    refine ⟨_, rfl, (by show 1 ≤ sizeLine; decide), fun p3 hp3 => ?_⟩
    have k3 := Kp.new (o := .tup [.int 0]) hp3
    have e3 : upd A2 p3 (.tup [.int 0]) p3 = some (.tup [.int 0]) := upd_same
    have W1 := W1.kp k3
    have W2 := W2.kp k3
    have w9 := k3.tup0 w8
    have k03 := k02.then k3
    generalize upd A2 p3 (.tup [.int 0]) = A3 at k3 e3 W1 W2 w9 k03 ⊢
    refine ⟨wt, p3, _, _, rfl, rfl, SqT.of w9, SqT.of e3, (by show 4 ≤ sizeLine; decide), (fun z => nomatch z), (fun _ z => nomatch z), fun _ _ p4 hp4 => ?_⟩
    have k4 := Kp.new (o := .tup ([.int xa, .int xb, .int xc] ++ [.int 0])) hp4
    have W4 : WorldV (upd A3 p4 (.tup ([.int xa, .int xb, .int xc] ++ [.int 0]))) (.ref p4) false := world_tup upd_same (all4 (numI _) (numI _) (numI _) (numI _)) rfl
    have W1 := W1.kp k4
    have W2 := W2.kp k4
    have k04 := k03.then k4
    generalize upd A3 p4 (.tup ([.int xa, .int xb, .int xc] ++ [.int 0])) = A4 at k4 W1 W2 W4 k04 ⊢
    refine ⟨(by show 3 ≤ sizeLine; decide), fun p5 hp5 => ?_⟩
    have k5 := Kp.new (o := .tup [.int 1000001, .int 0, .int 0]) hp5
    have W5 : WorldV (upd A4 p5 (.tup [.int 1000001, .int 0, .int 0])) (.ref p5) false := world_tup upd_same (all3 (numI _) (numI _) (numI _)) rfl
    have W1 := W1.kp k5
    have W2 := W2.kp k5
    have W4 := W4.kp k5
    have k05 := k04.then k5
    generalize upd A4 p5 (.tup [.int 1000001, .int 0, .int 0]) = A5 at k5 W1 W2 W4 W5 k05 ⊢
    refine ⟨_, rfl, (by show 3 ≤ sizeLine; decide), fun p6 hp6 => ?_⟩
    have k6 := Kp.new (o := .tup [.int 0, .int (-1000001), .int 0]) hp6
    have W6 : WorldV (upd A5 p6 (.tup [.int 0, .int (-1000001), .int 0])) (.ref p6) false := world_tup upd_same (all3 (numI _) (numI _) (numI _)) rfl
    have W1 := W1.kp k6
    have W2 := W2.kp k6
    have W4 := W4.kp k6
    have W5 := W5.kp k6
    have k06 := k05.then k6
    show tCons _ _ _ (upd A5 p6 (.tup [.int 0, .int (-1000001), .int 0])) _
    generalize upd A5 p6 (.tup [.int 0, .int (-1000001), .int 0]) = A6 at k6 W1 W2 W4 W5 W6 k06 ⊢
    refine ⟨(by show 3 ≤ sizeLine; decide), fun p7 hp7 => ?_⟩
    have k7 := Kp.new (o := .tup [.bl true, .int 0, .int 0]) hp7
    have W7 : WorldV (upd A6 p7 (.tup [.bl true, .int 0, .int 0])) (.ref p7) false := world_tup upd_same (all3 (numB _) (numI _) (numI _)) rfl
    have W1 := W1.kp k7
    have W2 := W2.kp k7
    have W4 := W4.kp k7
    have W5 := W5.kp k7
    have W6 := W6.kp k7
    have k07 := k06.then k7
    generalize upd A6 p7 (.tup [.bl true, .int 0, .int 0]) = A7 at k7 W1 W2 W4 W5 W6 W7 k07 ⊢
    refine ⟨(by show 3 ≤ sizeLine; decide), fun p8 hp8 => ?_⟩
    have k8 := Kp.new (o := .tup [.int 0, .non, .int 0]) hp8
    have W8 : WorldV (upd A7 p8 (.tup [.int 0, .non, .int 0])) (.ref p8) false := world_tup upd_same (all3 (numI _) numN (numI _)) rfl
    have W1 := W1.kp k8
    have W2 := W2.kp k8
    have W4 := W4.kp k8
    have W5 := W5.kp k8
    have W6 := W6.kp k8
    have W7 := W7.kp k8
    have k08 := k07.then k8
    generalize upd A7 p8 (.tup [.int 0, .non, .int 0]) = A8 at k8 W1 W2 W4 W5 W6 W7 W8 k08 ⊢
    refine ⟨(by show 9 ≤ sizeLine; decide), fun lo hlo => ?_⟩
    have k9 := Kp.new (o := .lst [.non, .ref l1, .ref p2, .ref p4, .ref p5, .ref p6, .ref p7, .ref p8, .int 5]) hlo
    refine ⟨lo, _, rfl, upd_same, fun x hx => ?_, k08.then k9⟩
    simp only [List.mem_cons, List.not_mem_nil, or_false] at hx
    rcases hx with rfl | rfl | rfl | rfl | rfl | rfl | rfl | rfl | rfl
    · exact .inl ⟨rfl, rfl⟩
    · exact W1.kp k9
    · exact W2.kp k9
    · exact W4.kp k9
    · exact W5.kp k9
    · exact W6.kp k9
    · exact W7.kp k9
    · exact W8.kp k9
    · exact .inr (.inl ⟨_, rfl, rfl⟩)
  rintro σ' G7 ⟨lo, os, rfl, ho, hw, k7⟩
  have L7 := L6.kp0 k7
  clear L6 k7
  refine ⟨_, rfl, lo, rfl, ⟨_, SqL.of ho⟩, fun D hD => ?_⟩
  refine lc_list (K := K) (a := lo) (xs := os) (fun i G => Kp G7 G [] ∧ G D = some (.lst [])) ⟨Kp.new hD, upd_same⟩ (fun i G _ h => SqL.of (h.1.lst0 ho)) (fun i x G hx ⟨k8, hD8⟩ => ?_) (fun G ⟨k8, hD8⟩ => ?_)
  · have L8 := L7.kp0 k8
    have wx := (hw x (List.mem_of_getElem? hx)).kp k8
    refine ⟨rfl, _, rfl, x, false, rfl, wx, L8.k.tabG tw, fun G9 k9 => ⟨false, false, rfl, true, rfl, iteF ?_⟩⟩
    have L9 := L8.kp0 k9
    refine ⟨(by show 1 ≤ sizeLine; decide), fun q hq => ?_⟩
    have kq := Kp.new (o := .tup [.str "x"]) hq
    have Lq := L9.kp0 kq
    refine ⟨_, rfl, .ref q, x, .lf "x", false, rfl, ⟨q, rfl, upd_same⟩, by decide, (wx.kp k9).kp kq, Lq.k.tabG tn, Lq.k.tabG tw, (fun _ Ga ka => ?_), fun z => nomatch z⟩
    refine ⟨.str "form", .str "form", .str _, .str _, by decide +kernel, by decide +kernel, false, congrArg V.bl (by simp [PyData.eqv]), iteF ⟨((k8.then k9).then kq).then ka, ((k9.then kq).then ka).lst0 hD8⟩⟩
  · refine ⟨Nat.zero_le _, fun e1 he1 => ?_⟩
    exact ⟨.list [], .list [], .lst (SqL.of ((Kp.new he1).lst0 hD8)) .nil, .lst (SqL.of upd_same) .nil, rfl, rfl, k _⟩
end
end K08

set_option Elab.async false
set_option maxRecDepth 100000
set_option maxHeartbeats 8000000
set_option pp.maxSteps 300
namespace K08
open PySem L2
theorem kit_self {K : PySem.W.Frag} {t : Value} : PySem.W.kitOne K t t = some true := by
  unfold PySem.W.kitOne
  rw [if_pos (beq_self_eq_true t)]
theorem kit_cls {K : PySem.W.Frag} {N S : Addr} {b : Bool} (h2 : PySem.W.isClsIn K S = true) (h3 : PySem.W.typeIn K (.ref S) = some (.type "type")) (h4 : PySem.W.subIn K (.ref N) (.ref S) = some b) (ne : ¬ (Value.ref N == Value.ref S) = true) : PySem.W.kitOne K (.ref N) (.ref S) = some b := by
  have h2' : (PySem.W.clsIn K S).isSome = true := h2
  have e2 : ((PySem.W.clsIn K S).isSome && PySem.W.typeIn K (.ref S) == some (.type "type")) = true := by rw [h2', h3] <;> rfl
  unfold PySem.W.kitOne
  rw [if_neg ne]
  show (if ((PySem.W.clsIn K S).isSome && PySem.W.typeIn K (.ref S) == some (.type "type")) = true then PySem.W.subIn K (.ref N) (.ref S) else none) = some b
  rw [if_pos e2]
  exact h4
theorem kit_ne {K : PySem.W.Frag} {N S : Addr} (h2 : PySem.W.isClsIn K S = true) (h3 : PySem.W.typeIn K (.ref S) = some (.type "type")) (h4 : PySem.W.subIn K (.ref N) (.ref S) = some false) (h5 : PySem.W.subIn K (.ref N) (.ref N) = some true) : PySem.W.kitOne K (.ref N) (.ref S) = some false :=
  kit_cls h2 h3 h4 fun q => by
    have e : N = S := Value.ref.inj (beq_iff_eq.mp q)
    rw [← e, h5] at h4
    cases h4
theorem kit_tt {K : PySem.W.Frag} {N S : Addr} (h2 : PySem.W.isClsIn K S = true) (h3 : PySem.W.typeIn K (.ref S) = some (.type "type")) (h4 : PySem.W.subIn K (.ref N) (.ref S) = some true) : PySem.W.kitOne K (.ref N) (.ref S) = some true := by
  by_cases q : (Value.ref N == Value.ref S) = true
  · unfold PySem.W.kitOne
    rw [if_pos q]
  · exact kit_cls h2 h3 h4 q
theorem sqt {K : PySem.W.Frag} {a : Addr} {d : Option Addr} {its : Array Value} {n : Nat} {sl : Array (Option Value)} {xs : List V} (l : K.lookup a = some ⟨.type "tuple", d, .seq its n, sl⟩) (hz : its.size ≤ sizeLine) (r : Vals xs its.toList) (H : Hp) : SqT K H a xs :=
  .inr ⟨_, its, n, l, rfl, rfl, hz, r⟩
theorem sql_kp {K : PySem.W.Frag} {H : Hp} {a : Addr} {xs : List V} (h : SqL K H a xs) (H' : Hp) (k : Kp H H' []) : SqL K H' a xs := by
  rcases h with (h | ⟨o, h⟩) | h
  · exact .inl (.inl (k.lst0 h))
  · exact .inl (.inr ⟨o, k.keep a _ h (fun _ e => nomatch e) (by simp)⟩)
  · exact .inr h
theorem tabB {base : Heap} {mg : Str → Option Value} {c p : Addr} (h : LamX.TabB base mg c p) : GxR.TabB base mg c p := ⟨h.code, h.bm, h.gP⟩
theorem tabG {H : Hp} {p : Addr} (h : H p = some (.tbl #[])) : GxR.TabG H p := ⟨#[], h, trivial⟩
/-! ### what the top has left, the head -/
theorem all_mk {l : PySem.W.OpenLaw} {w : World} {K : PySem.W.Frag} {h : Heap} {mg : Str → Option Value} {fa fNu fSo xcSo pSo fOn xcOn pOn fNl fNb xcNb pNb fOp xcOp pOp fSg xcSg pSg fKi fWl xcWl pWl fWo fVo fVi fLo fIl fFo xcFo pFo fSw fIt fPa fAt fPu fLd fLt fLa fLs fLw fLq fLn fLr fLv fLf fL ST SI o0 o1 o2 o3 o4 o5 o6 o7 o8 o9 o10 o11 o12 o13 o14 o15 o16 q0 q1 q2 q3 q4 q5 q6 q7 q8 q9 q10 q11 q12 q13 q14 q15 q16 Ee Eo Em En Er Et : Addr} (X : K.In h) (G : h.Ns mainGlobals mg) (hfa : mg "law" = some (.ref fa))
    {odNu anNu odSo anSo oeSo odOn anOn oeOn odNl anNl odNb anNb oeNb odOp anOp oeOp odSg anSg oeSg odKi anKi odWl anWl oeWl odWo anWo odVo anVo odVi anVi odLo anLo odIl anIl odFo anFo oeFo odSw anSw odIt anIt odPa anPa odAt anAt odPu anPu odLd anLd odLt anLt odLa anLa odLs anLs odLw anLw odLq anLq odLn anLn odLr anLr odLv anLv odLf anLf odL anL dST do0 dq0 do1 dq1 do2 dq2 do3 dq3 do4 dq4 do5 dq5 do6 dq6 do7 dq7 do8 dq8 do9 dq9 do10 dq10 do11 dq11 do12 dq12 do13 dq13 do14 dq14 do15 dq15 do16 dq16 : Option Addr} {slNu slSo seSo slOn seOn slNl slNb seNb slOp seOp slSg seSg slKi slWl seWl slWo slVo slVi slLo slIl slFo seFo slSw slIt slPa slAt slPu slLd slLt slLa slLs slLw slLq slLn slLr slLv slLf slL sST so0 sq0 so1 sq1 so2 sq2 so3 sq3 so4 sq4 so5 sq5 so6 sq6 so7 sq7 so8 sq8 so9 sq9 so10 sq10 so11 sq11 so12 sq12 so13 sq13 so14 sq14 so15 sq15 so16 sq16 sSI : Array (Option Value)} {ocNu kVNu dcNu pmNu ctNu cdNu ocSo kVSo dcSo pmSo ctSo ocOn kVOn dcOn pmOn ctOn ocNl kVNl dcNl pmNl ctNl cdNl ocNb kVNb dcNb pmNb ctNb ocOp kVOp dcOp pmOp ctOp ocSg kVSg dcSg pmSg ctSg ocKi kVKi dcKi pmKi ctKi cdKi ocWl kVWl dcWl pmWl ctWl ocWo kVWo dcWo pmWo ctWo cdWo ocVo kVVo dcVo pmVo ctVo cdVo ocVi kVVi dcVi pmVi ctVi cdVi ocLo kVLo dcLo pmLo ctLo cdLo ocIl kVIl dcIl pmIl ctIl cdIl ocFo kVFo dcFo pmFo ctFo ocSw kVSw dcSw pmSw ctSw cdSw ocIt kVIt dcIt pmIt ctIt cdIt ocPa kVPa dcPa pmPa ctPa cdPa ocAt kVAt dcAt pmAt ctAt cdAt ocPu kVPu dcPu pmPu ctPu cdPu ocLd kVLd dcLd pmLd ctLd cdLd ocLt kVLt dcLt pmLt ctLt cdLt ocLa kVLa dcLa pmLa ctLa cdLa ocLs kVLs dcLs pmLs ctLs cdLs ocLw kVLw dcLw pmLw ctLw cdLw ocLq kVLq dcLq pmLq ctLq cdLq ocLn kVLn dcLn pmLn ctLn cdLn ocLr kVLr dcLr pmLr ctLr cdLr ocLv kVLv dcLv pmLv ctLv cdLv ocLf kVLf dcLf pmLf ctLf cdLf ocL kVL dcL pmL ctL cdL : Value} {veSo veOn veNb veOp veSg veWl veFo : Array Value} {nST no0 nq0 no1 nq1 no2 nq2 no3 nq3 no4 nq4 no5 nq5 no6 nq6 no7 nq7 no8 nq8 no9 nq9 no10 nq10 no11 nq11 no12 nq12 no13 nq13 no14 nq14 no15 nq15 no16 nq16 nSI : Nat} {ti0 ti1 ti2 ti3 ti4 ti5 ti6 ts0 ts1 ts2 to0_0 to0_2 tq0_0 tq0_1 to1_0 to1_2 tq1_0 tq1_1 to2_0 to2_2 tq2_0 tq2_1 to3_0 to3_2 tq3_0 tq3_1 to4_0 to4_2 tq4_0 tq4_1 to5_0 to5_2 tq5_0 tq5_1 to6_0 to6_2 tq6_0 tq6_1 to7_0 to7_2 tq7_0 tq7_1 to8_0 to8_2 tq8_0 to9_0 to9_2 to10_0 to10_2 tq10_0 to11_0 to11_2 tq11_0 tq11_1 tq11_2 to12_0 to12_2 tq12_0 tq12_1 to13_0 to13_2 to14_0 to14_2 to15_0 to15_2 to16_0 to16_2 tSI_0 tSI_1 tSI_2 : Tok}
    (aNu : PySem.W.nsIn K mainGlobals "is_number" = some (some (.ref fNu)))
    (lNu : K.lookup fNu = some ⟨ocNu, odNu, .func (PySem.W.fnOf "is_number" "is_number" (defArgs s_is_number) (defBody s_is_number) (defScope s_is_number) .none kVNu dcNu pmNu anNu cdNu ctNu), slNu⟩)
    (cNu : PySem.W.codeIn K cdNu "is_number" = true)
    (kNu : PySem.W.keepIn K (.ref fNu) = true)
    (aSo : PySem.W.nsIn K mainGlobals "is_sort" = some (some (.ref fSo)))
    (lSo : K.lookup fSo = some ⟨ocSo, odSo, .func (PySem.W.fnOf "is_sort" "is_sort" (defArgs s_is_sort) (defBody s_is_sort) (defScope s_is_sort) .none kVSo dcSo pmSo anSo (.ref xcSo) ctSo), slSo⟩)
    (cSo : PySem.W.codeIn K (.ref xcSo) "is_sort" = true)
    (kSo : PySem.W.keepIn K (.ref fSo) = true)
    (wSo : K.lookup xcSo = some ⟨.type "code", oeSo, .fields veSo, seSo⟩)
    (vSo : (veSo[11]? : Option Value) = some (.ref pSo))
    (zSo : K.lookup pSo = none)
    (tSo : PySem.W.CodeHd h xcSo pSo ∧ h.get? pSo = some { cls := .none, data := .fields #[] })
    (aOn : PySem.W.nsIn K mainGlobals "is_operation_name" = some (some (.ref fOn)))
    (lOn : K.lookup fOn = some ⟨ocOn, odOn, .func (PySem.W.fnOf "is_operation_name" "is_operation_name" (defArgs s_is_operation_name) (defBody s_is_operation_name) (defScope s_is_operation_name) .none kVOn dcOn pmOn anOn (.ref xcOn) ctOn), slOn⟩)
    (cOn : PySem.W.codeIn K (.ref xcOn) "is_operation_name" = true)
    (kOn : PySem.W.keepIn K (.ref fOn) = true)
    (wOn : K.lookup xcOn = some ⟨.type "code", oeOn, .fields veOn, seOn⟩)
    (vOn : (veOn[11]? : Option Value) = some (.ref pOn))
    (zOn : K.lookup pOn = none)
    (tOn : PySem.W.CodeHd h xcOn pOn ∧ h.get? pOn = some { cls := .none, data := .fields #[] })
    (aNl : PySem.W.nsIn K mainGlobals "numeral_of" = some (some (.ref fNl)))
    (lNl : K.lookup fNl = some ⟨ocNl, odNl, .func (PySem.W.fnOf "numeral_of" "numeral_of" (defArgs s_numeral_of) (defBody s_numeral_of) (defScope s_numeral_of) .none kVNl dcNl pmNl anNl cdNl ctNl), slNl⟩)
    (cNl : PySem.W.codeIn K cdNl "numeral_of" = true)
    (kNl : PySem.W.keepIn K (.ref fNl) = true)
    (aNb : PySem.W.nsIn K mainGlobals "number_of" = some (some (.ref fNb)))
    (lNb : K.lookup fNb = some ⟨ocNb, odNb, .func (PySem.W.fnOf "number_of" "number_of" (defArgs s_number_of) (defBody s_number_of) (defScope s_number_of) .none kVNb dcNb pmNb anNb (.ref xcNb) ctNb), slNb⟩)
    (cNb : PySem.W.codeIn K (.ref xcNb) "number_of" = true)
    (kNb : PySem.W.keepIn K (.ref fNb) = true)
    (wNb : K.lookup xcNb = some ⟨.type "code", oeNb, .fields veNb, seNb⟩)
    (vNb : (veNb[11]? : Option Value) = some (.ref pNb))
    (zNb : K.lookup pNb = none)
    (tNb : PySem.W.CodeHd h xcNb pNb ∧ h.get? pNb = some { cls := .none, data := .fields #[] })
    (aOp : PySem.W.nsIn K mainGlobals "is_operation" = some (some (.ref fOp)))
    (lOp : K.lookup fOp = some ⟨ocOp, odOp, .func (PySem.W.fnOf "is_operation" "is_operation" (defArgs s_is_operation) (defBody s_is_operation) (defScope s_is_operation) .none kVOp dcOp pmOp anOp (.ref xcOp) ctOp), slOp⟩)
    (cOp : PySem.W.codeIn K (.ref xcOp) "is_operation" = true)
    (kOp : PySem.W.keepIn K (.ref fOp) = true)
    (wOp : K.lookup xcOp = some ⟨.type "code", oeOp, .fields veOp, seOp⟩)
    (vOp : (veOp[11]? : Option Value) = some (.ref pOp))
    (zOp : K.lookup pOp = none)
    (tOp : PySem.W.CodeHd h xcOp pOp ∧ h.get? pOp = some { cls := .none, data := .fields #[] })
    (aSg : PySem.W.nsIn K mainGlobals "is_signature" = some (some (.ref fSg)))
    (lSg : K.lookup fSg = some ⟨ocSg, odSg, .func (PySem.W.fnOf "is_signature" "is_signature" (defArgs s_is_signature) (defBody s_is_signature) (defScope s_is_signature) .none kVSg dcSg pmSg anSg (.ref xcSg) ctSg), slSg⟩)
    (cSg : PySem.W.codeIn K (.ref xcSg) "is_signature" = true)
    (kSg : PySem.W.keepIn K (.ref fSg) = true)
    (wSg : K.lookup xcSg = some ⟨.type "code", oeSg, .fields veSg, seSg⟩)
    (vSg : (veSg[11]? : Option Value) = some (.ref pSg))
    (zSg : K.lookup pSg = none)
    (tSg : PySem.W.CodeHd h xcSg pSg ∧ h.get? pSg = some { cls := .none, data := .fields #[] })
    (aKi : PySem.W.nsIn K mainGlobals "kind_of" = some (some (.ref fKi)))
    (lKi : K.lookup fKi = some ⟨ocKi, odKi, .func (PySem.W.fnOf "kind_of" "kind_of" (defArgs s_kind_of) (defBody s_kind_of) (defScope s_kind_of) .none kVKi dcKi pmKi anKi cdKi ctKi), slKi⟩)
    (cKi : PySem.W.codeIn K cdKi "kind_of" = true)
    (kKi : PySem.W.keepIn K (.ref fKi) = true)
    (aWl : PySem.W.nsIn K mainGlobals "is_world" = some (some (.ref fWl)))
    (lWl : K.lookup fWl = some ⟨ocWl, odWl, .func (PySem.W.fnOf "is_world" "is_world" (defArgs s_is_world) (defBody s_is_world) (defScope s_is_world) .none kVWl dcWl pmWl anWl (.ref xcWl) ctWl), slWl⟩)
    (cWl : PySem.W.codeIn K (.ref xcWl) "is_world" = true)
    (kWl : PySem.W.keepIn K (.ref fWl) = true)
    (wWl : K.lookup xcWl = some ⟨.type "code", oeWl, .fields veWl, seWl⟩)
    (vWl : (veWl[11]? : Option Value) = some (.ref pWl))
    (zWl : K.lookup pWl = none)
    (tWl : PySem.W.CodeHd h xcWl pWl ∧ h.get? pWl = some { cls := .none, data := .fields #[] })
    (aWo : PySem.W.nsIn K mainGlobals "worked" = some (some (.ref fWo)))
    (lWo : K.lookup fWo = some ⟨ocWo, odWo, .func (PySem.W.fnOf "worked" "worked" (defArgs s_worked) (defBody s_worked) (defScope s_worked) .none kVWo dcWo pmWo anWo cdWo ctWo), slWo⟩)
    (cWo : PySem.W.codeIn K cdWo "worked" = true)
    (kWo : PySem.W.keepIn K (.ref fWo) = true)
    (aVo : PySem.W.nsIn K mainGlobals "value_of" = some (some (.ref fVo)))
    (lVo : K.lookup fVo = some ⟨ocVo, odVo, .func (PySem.W.fnOf "value_of" "value_of" (defArgs s_value_of) (defBody s_value_of) (defScope s_value_of) .none kVVo dcVo pmVo anVo cdVo ctVo), slVo⟩)
    (cVo : PySem.W.codeIn K cdVo "value_of" = true)
    (kVo : PySem.W.keepIn K (.ref fVo) = true)
    (aVi : PySem.W.nsIn K mainGlobals "value_in" = some (some (.ref fVi)))
    (lVi : K.lookup fVi = some ⟨ocVi, odVi, .func (PySem.W.fnOf "value_in" "value_in" (defArgs s_value_in) (defBody s_value_in) (defScope s_value_in) .none kVVi dcVi pmVi anVi cdVi ctVi), slVi⟩)
    (cVi : PySem.W.codeIn K cdVi "value_in" = true)
    (kVi : PySem.W.keepIn K (.ref fVi) = true)
    (aLo : PySem.W.nsIn K mainGlobals "literal_of" = some (some (.ref fLo)))
    (lLo : K.lookup fLo = some ⟨ocLo, odLo, .func (PySem.W.fnOf "literal_of" "literal_of" (defArgs s_literal_of) (defBody s_literal_of) (defScope s_literal_of) .none kVLo dcLo pmLo anLo cdLo ctLo), slLo⟩)
    (cLo : PySem.W.codeIn K cdLo "literal_of" = true)
    (kLo : PySem.W.keepIn K (.ref fLo) = true)
    (aIl : PySem.W.nsIn K mainGlobals "is_literal" = some (some (.ref fIl)))
    (lIl : K.lookup fIl = some ⟨ocIl, odIl, .func (PySem.W.fnOf "is_literal" "is_literal" (defArgs s_is_literal) (defBody s_is_literal) (defScope s_is_literal) .none kVIl dcIl pmIl anIl cdIl ctIl), slIl⟩)
    (cIl : PySem.W.codeIn K cdIl "is_literal" = true)
    (kIl : PySem.W.keepIn K (.ref fIl) = true)
    (aFo : PySem.W.nsIn K mainGlobals "folded" = some (some (.ref fFo)))
    (lFo : K.lookup fFo = some ⟨ocFo, odFo, .func (PySem.W.fnOf "folded" "folded" (defArgs s_folded) (defBody s_folded) (defScope s_folded) .none kVFo dcFo pmFo anFo (.ref xcFo) ctFo), slFo⟩)
    (cFo : PySem.W.codeIn K (.ref xcFo) "folded" = true)
    (kFo : PySem.W.keepIn K (.ref fFo) = true)
    (wFo : K.lookup xcFo = some ⟨.type "code", oeFo, .fields veFo, seFo⟩)
    (vFo : (veFo[11]? : Option Value) = some (.ref pFo))
    (zFo : K.lookup pFo = none)
    (tFo : PySem.W.CodeHd h xcFo pFo ∧ h.get? pFo = some { cls := .none, data := .fields #[] })
    (aSw : PySem.W.nsIn K mainGlobals "sort_within" = some (some (.ref fSw)))
    (lSw : K.lookup fSw = some ⟨ocSw, odSw, .func (PySem.W.fnOf "sort_within" "sort_within" (defArgs s_sort_within) (defBody s_sort_within) (defScope s_sort_within) .none kVSw dcSw pmSw anSw cdSw ctSw), slSw⟩)
    (cSw : PySem.W.codeIn K cdSw "sort_within" = true)
    (kSw : PySem.W.keepIn K (.ref fSw) = true)
    (aIt : PySem.W.nsIn K mainGlobals "is_term" = some (some (.ref fIt)))
    (lIt : K.lookup fIt = some ⟨ocIt, odIt, .func (PySem.W.fnOf "is_term" "is_term" (defArgs s_is_term) (defBody s_is_term) (defScope s_is_term) .none kVIt dcIt pmIt anIt cdIt ctIt), slIt⟩)
    (cIt : PySem.W.codeIn K cdIt "is_term" = true)
    (kIt : PySem.W.keepIn K (.ref fIt) = true)
    (aPa : PySem.W.nsIn K mainGlobals "paths_of" = some (some (.ref fPa)))
    (lPa : K.lookup fPa = some ⟨ocPa, odPa, .func (PySem.W.fnOf "paths_of" "paths_of" (defArgs s_paths_of) (defBody s_paths_of) (defScope s_paths_of) .none kVPa dcPa pmPa anPa cdPa ctPa), slPa⟩)
    (cPa : PySem.W.codeIn K cdPa "paths_of" = true)
    (kPa : PySem.W.keepIn K (.ref fPa) = true)
    (aAt : PySem.W.nsIn K mainGlobals "at" = some (some (.ref fAt)))
    (lAt : K.lookup fAt = some ⟨ocAt, odAt, .func (PySem.W.fnOf "at" "at" (defArgs s_at) (defBody s_at) (defScope s_at) .none kVAt dcAt pmAt anAt cdAt ctAt), slAt⟩)
    (cAt : PySem.W.codeIn K cdAt "at" = true)
    (kAt : PySem.W.keepIn K (.ref fAt) = true)
    (aPu : PySem.W.nsIn K mainGlobals "put" = some (some (.ref fPu)))
    (lPu : K.lookup fPu = some ⟨ocPu, odPu, .func (PySem.W.fnOf "put" "put" (defArgs s_put) (defBody s_put) (defScope s_put) .none kVPu dcPu pmPu anPu cdPu ctPu), slPu⟩)
    (cPu : PySem.W.codeIn K cdPu "put" = true)
    (kPu : PySem.W.keepIn K (.ref fPu) = true)
    (aLd : PySem.W.nsIn K mainGlobals "_law_draws" = some (some (.ref fLd)))
    (lLd : K.lookup fLd = some ⟨ocLd, odLd, .func (PySem.W.fnOf "_law_draws" "_law_draws" (defArgs s__law_draws) (defBody s__law_draws) (defScope s__law_draws) .none kVLd dcLd pmLd anLd cdLd ctLd), slLd⟩)
    (cLd : PySem.W.codeIn K cdLd "_law_draws" = true)
    (kLd : PySem.W.keepIn K (.ref fLd) = true)
    (aLt : PySem.W.nsIn K mainGlobals "_law_take" = some (some (.ref fLt)))
    (lLt : K.lookup fLt = some ⟨ocLt, odLt, .func (PySem.W.fnOf "_law_take" "_law_take" (defArgs s__law_take) (defBody s__law_take) (defScope s__law_take) .none kVLt dcLt pmLt anLt cdLt ctLt), slLt⟩)
    (cLt : PySem.W.codeIn K cdLt "_law_take" = true)
    (kLt : PySem.W.keepIn K (.ref fLt) = true)
    (aLa : PySem.W.nsIn K mainGlobals "_law_alike" = some (some (.ref fLa)))
    (lLa : K.lookup fLa = some ⟨ocLa, odLa, .func (PySem.W.fnOf "_law_alike" "_law_alike" (defArgs s__law_alike) (defBody s__law_alike) (defScope s__law_alike) .none kVLa dcLa pmLa anLa cdLa ctLa), slLa⟩)
    (cLa : PySem.W.codeIn K cdLa "_law_alike" = true)
    (kLa : PySem.W.keepIn K (.ref fLa) = true)
    (aLs : PySem.W.nsIn K mainGlobals "_law_says" = some (some (.ref fLs)))
    (lLs : K.lookup fLs = some ⟨ocLs, odLs, .func (PySem.W.fnOf "_law_says" "_law_says" (defArgs s__law_says) (defBody s__law_says) (defScope s__law_says) .none kVLs dcLs pmLs anLs cdLs ctLs), slLs⟩)
    (cLs : PySem.W.codeIn K cdLs "_law_says" = true)
    (kLs : PySem.W.keepIn K (.ref fLs) = true)
    (aLw : PySem.W.nsIn K mainGlobals "_law_word" = some (some (.ref fLw)))
    (lLw : K.lookup fLw = some ⟨ocLw, odLw, .func (PySem.W.fnOf "_law_word" "_law_word" (defArgs s__law_word) (defBody s__law_word) (defScope s__law_word) .none kVLw dcLw pmLw anLw cdLw ctLw), slLw⟩)
    (cLw : PySem.W.codeIn K cdLw "_law_word" = true)
    (kLw : PySem.W.keepIn K (.ref fLw) = true)
    (aLq : PySem.W.nsIn K mainGlobals "_law_told" = some (some (.ref fLq)))
    (lLq : K.lookup fLq = some ⟨ocLq, odLq, .func (PySem.W.fnOf "_law_told" "_law_told" (defArgs s__law_told) (defBody s__law_told) (defScope s__law_told) .none kVLq dcLq pmLq anLq cdLq ctLq), slLq⟩)
    (cLq : PySem.W.codeIn K cdLq "_law_told" = true)
    (kLq : PySem.W.keepIn K (.ref fLq) = true)
    (aLn : PySem.W.nsIn K mainGlobals "_law_num" = some (some (.ref fLn)))
    (lLn : K.lookup fLn = some ⟨ocLn, odLn, .func (PySem.W.fnOf "_law_num" "_law_num" (defArgs s__law_num) (defBody s__law_num) (defScope s__law_num) .none kVLn dcLn pmLn anLn cdLn ctLn), slLn⟩)
    (cLn : PySem.W.codeIn K cdLn "_law_num" = true)
    (kLn : PySem.W.keepIn K (.ref fLn) = true)
    (aLr : PySem.W.nsIn K mainGlobals "_law_truth" = some (some (.ref fLr)))
    (lLr : K.lookup fLr = some ⟨ocLr, odLr, .func (PySem.W.fnOf "_law_truth" "_law_truth" (defArgs s__law_truth) (defBody s__law_truth) (defScope s__law_truth) .none kVLr dcLr pmLr anLr cdLr ctLr), slLr⟩)
    (cLr : PySem.W.codeIn K cdLr "_law_truth" = true)
    (kLr : PySem.W.keepIn K (.ref fLr) = true)
    (aLv : PySem.W.nsIn K mainGlobals "_law_value" = some (some (.ref fLv)))
    (lLv : K.lookup fLv = some ⟨ocLv, odLv, .func (PySem.W.fnOf "_law_value" "_law_value" (defArgs s__law_value) (defBody s__law_value) (defScope s__law_value) .none kVLv dcLv pmLv anLv cdLv ctLv), slLv⟩)
    (cLv : PySem.W.codeIn K cdLv "_law_value" = true)
    (kLv : PySem.W.keepIn K (.ref fLv) = true)
    (aLf : PySem.W.nsIn K mainGlobals "_law_leaf" = some (some (.ref fLf)))
    (lLf : K.lookup fLf = some ⟨ocLf, odLf, .func (PySem.W.fnOf "_law_leaf" "_law_leaf" (defArgs s__law_leaf) (defBody s__law_leaf) (defScope s__law_leaf) .none kVLf dcLf pmLf anLf cdLf ctLf), slLf⟩)
    (cLf : PySem.W.codeIn K cdLf "_law_leaf" = true)
    (kLf : PySem.W.keepIn K (.ref fLf) = true)
    (aL : PySem.W.nsIn K mainGlobals "law" = some (some (.ref fL)))
    (lL : K.lookup fL = some ⟨ocL, odL, .func (PySem.W.fnOf "law" "law" (defArgs s_law) (defBody s_law) (defScope s_law) .none kVL dcL pmL anL cdL ctL), slL⟩)
    (cL : PySem.W.codeIn K cdL "law" = true)
    (kL : PySem.W.keepIn K (.ref fL) = true)
    (zabs : PySem.W.nsIn K mainGlobals "abs" = some none)
    (zint : PySem.W.nsIn K mainGlobals "int" = some none)
    (zrange : PySem.W.nsIn K mainGlobals "range" = some none)
    (zlen : PySem.W.nsIn K mainGlobals "len" = some none)
    (zlist : PySem.W.nsIn K mainGlobals "list" = some none)
    (zreversed : PySem.W.nsIn K mainGlobals "reversed" = some none)
    (zisinstance : PySem.W.nsIn K mainGlobals "isinstance" = some none)
    (zbool : PySem.W.nsIn K mainGlobals "bool" = some none)
    (zstr : PySem.W.nsIn K mainGlobals "str" = some none)
    (ztuple : PySem.W.nsIn K mainGlobals "tuple" = some none)
    (zmin : PySem.W.nsIn K mainGlobals "min" = some none)
    (zmax : PySem.W.nsIn K mainGlobals "max" = some none)
    (zall : PySem.W.nsIn K mainGlobals "all" = some none)
    (zzip : PySem.W.nsIn K mainGlobals "zip" = some none)
    (zenumerate : PySem.W.nsIn K mainGlobals "enumerate" = some none)
    (gi0 : PySem.W.nsIn K mainGlobals "MOST_OPERATIONS" = some (some (.int 20 ti0)))
    (gi1 : PySem.W.nsIn K mainGlobals "MOST_PLACES" = some (some (.int 3 ti1)))
    (gi2 : PySem.W.nsIn K mainGlobals "MOST_NAME" = some (some (.int 8 ti2)))
    (gi3 : PySem.W.nsIn K mainGlobals "MOST_SORT" = some (some (.int 5 ti3)))
    (gi4 : PySem.W.nsIn K mainGlobals "MOST_NUMERAL" = some (some (.int 999 ti4)))
    (gi5 : PySem.W.nsIn K mainGlobals "MOST_INPUT" = some (some (.int 1000000 ti5)))
    (gi6 : PySem.W.nsIn K mainGlobals "MOST_SIZE" = some (some (.int 200 ti6)))
    (gs0 : PySem.W.nsIn K mainGlobals "NUMBERS" = some (some (.str "num" ts0)))
    (gs1 : PySem.W.nsIn K mainGlobals "LETTERS" = some (some (.str "abcdefghijklmnopqrstuvwxyz" ts1)))
    (gs2 : PySem.W.nsIn K mainGlobals "FIGURES" = some (some (.str "0123456789" ts2)))
    (aST : PySem.W.nsIn K mainGlobals "STANDARD" = some (some (.ref ST)))
    (aSI : PySem.W.nsIn K mainGlobals "INPUTS" = some (some (.ref SI)))
    (lST : K.lookup ST = some ⟨.type "tuple", dST, .seq #[.ref o0, .ref o1, .ref o2, .ref o3, .ref o4, .ref o5, .ref o6, .ref o7, .ref o8, .ref o9, .ref o10, .ref o11, .ref o12, .ref o13, .ref o14, .ref o15, .ref o16] nST, sST⟩)
    (lo0 : K.lookup o0 = some ⟨.type "tuple", do0, .seq #[.str "add" to0_0, .ref q0, .str "num" to0_2] no0, so0⟩)
    (lq0 : K.lookup q0 = some ⟨.type "tuple", dq0, .seq #[.str "num" tq0_0, .str "num" tq0_1] nq0, sq0⟩)
    (lo1 : K.lookup o1 = some ⟨.type "tuple", do1, .seq #[.str "alike" to1_0, .ref q1, .str "truth" to1_2] no1, so1⟩)
    (lq1 : K.lookup q1 = some ⟨.type "tuple", dq1, .seq #[.str "num" tq1_0, .str "num" tq1_1] nq1, sq1⟩)
    (lo2 : K.lookup o2 = some ⟨.type "tuple", do2, .seq #[.str "any" to2_0, .ref q2, .str "truth" to2_2] no2, so2⟩)
    (lq2 : K.lookup q2 = some ⟨.type "tuple", dq2, .seq #[.str "truth" tq2_0, .str "truth" tq2_1] nq2, sq2⟩)
    (lo3 : K.lookup o3 = some ⟨.type "tuple", do3, .seq #[.str "both" to3_0, .ref q3, .str "truth" to3_2] no3, so3⟩)
    (lq3 : K.lookup q3 = some ⟨.type "tuple", dq3, .seq #[.str "truth" tq3_0, .str "truth" tq3_1] nq3, sq3⟩)
    (lo4 : K.lookup o4 = some ⟨.type "tuple", do4, .seq #[.str "less" to4_0, .ref q4, .str "truth" to4_2] no4, so4⟩)
    (lq4 : K.lookup q4 = some ⟨.type "tuple", dq4, .seq #[.str "num" tq4_0, .str "num" tq4_1] nq4, sq4⟩)
    (lo5 : K.lookup o5 = some ⟨.type "tuple", do5, .seq #[.str "max" to5_0, .ref q5, .str "num" to5_2] no5, so5⟩)
    (lq5 : K.lookup q5 = some ⟨.type "tuple", dq5, .seq #[.str "num" tq5_0, .str "num" tq5_1] nq5, sq5⟩)
    (lo6 : K.lookup o6 = some ⟨.type "tuple", do6, .seq #[.str "min" to6_0, .ref q6, .str "num" to6_2] no6, so6⟩)
    (lq6 : K.lookup q6 = some ⟨.type "tuple", dq6, .seq #[.str "num" tq6_0, .str "num" tq6_1] nq6, sq6⟩)
    (lo7 : K.lookup o7 = some ⟨.type "tuple", do7, .seq #[.str "mul" to7_0, .ref q7, .str "num" to7_2] no7, so7⟩)
    (lq7 : K.lookup q7 = some ⟨.type "tuple", dq7, .seq #[.str "num" tq7_0, .str "num" tq7_1] nq7, sq7⟩)
    (lo8 : K.lookup o8 = some ⟨.type "tuple", do8, .seq #[.str "neg" to8_0, .ref q8, .str "num" to8_2] no8, so8⟩)
    (lq8 : K.lookup q8 = some ⟨.type "tuple", dq8, .seq #[.str "num" tq8_0] nq8, sq8⟩)
    (lo9 : K.lookup o9 = some ⟨.type "tuple", do9, .seq #[.str "no" to9_0, .ref q9, .str "truth" to9_2] no9, so9⟩)
    (lq9 : K.lookup q9 = some ⟨.type "tuple", dq9, .seq #[] nq9, sq9⟩)
    (lo10 : K.lookup o10 = some ⟨.type "tuple", do10, .seq #[.str "not" to10_0, .ref q10, .str "truth" to10_2] no10, so10⟩)
    (lq10 : K.lookup q10 = some ⟨.type "tuple", dq10, .seq #[.str "truth" tq10_0] nq10, sq10⟩)
    (lo11 : K.lookup o11 = some ⟨.type "tuple", do11, .seq #[.str "pick" to11_0, .ref q11, .str "num" to11_2] no11, so11⟩)
    (lq11 : K.lookup q11 = some ⟨.type "tuple", dq11, .seq #[.str "truth" tq11_0, .str "num" tq11_1, .str "num" tq11_2] nq11, sq11⟩)
    (lo12 : K.lookup o12 = some ⟨.type "tuple", do12, .seq #[.str "sub" to12_0, .ref q12, .str "num" to12_2] no12, so12⟩)
    (lq12 : K.lookup q12 = some ⟨.type "tuple", dq12, .seq #[.str "num" tq12_0, .str "num" tq12_1] nq12, sq12⟩)
    (lo13 : K.lookup o13 = some ⟨.type "tuple", do13, .seq #[.str "x" to13_0, .ref q13, .str "num" to13_2] no13, so13⟩)
    (lq13 : K.lookup q13 = some ⟨.type "tuple", dq13, .seq #[] nq13, sq13⟩)
    (lo14 : K.lookup o14 = some ⟨.type "tuple", do14, .seq #[.str "y" to14_0, .ref q14, .str "num" to14_2] no14, so14⟩)
    (lq14 : K.lookup q14 = some ⟨.type "tuple", dq14, .seq #[] nq14, sq14⟩)
    (lo15 : K.lookup o15 = some ⟨.type "tuple", do15, .seq #[.str "yes" to15_0, .ref q15, .str "truth" to15_2] no15, so15⟩)
    (lq15 : K.lookup q15 = some ⟨.type "tuple", dq15, .seq #[] nq15, sq15⟩)
    (lo16 : K.lookup o16 = some ⟨.type "tuple", do16, .seq #[.str "z" to16_0, .ref q16, .str "num" to16_2] no16, so16⟩)
    (lq16 : K.lookup q16 = some ⟨.type "tuple", dq16, .seq #[] nq16, sq16⟩)
    (lSI : K.lookup SI = some ⟨.type "tuple", none, .seq #[.str "x" tSI_0, .str "y" tSI_1, .str "z" tSI_2] nSI, sSI⟩)
    (aEe : PySem.W.nsIn K mainGlobals "EqualError" = some (some (.ref Ee)))
    (aEo : PySem.W.nsIn K mainGlobals "OutOfRange" = some (some (.ref Eo)))
    (aEm : PySem.W.nsIn K mainGlobals "Malformed" = some (some (.ref Em)))
    (aEn : PySem.W.nsIn K mainGlobals "NotThere" = some (some (.ref En)))
    (aEr : PySem.W.nsIn K mainGlobals "Refused" = some (some (.ref Er)))
    (aEt : PySem.W.nsIn K mainGlobals "TooMuch" = some (some (.ref Et)))
    (isEe : PySem.W.isClsIn K Ee = true)
    (tyEe : PySem.W.typeIn K (.ref Ee) = some (.type "type"))
    (isEo : PySem.W.isClsIn K Eo = true)
    (tyEo : PySem.W.typeIn K (.ref Eo) = some (.type "type"))
    (isEm : PySem.W.isClsIn K Em = true)
    (tyEm : PySem.W.typeIn K (.ref Em) = some (.type "type"))
    (isEn : PySem.W.isClsIn K En = true)
    (tyEn : PySem.W.typeIn K (.ref En) = some (.type "type"))
    (isEr : PySem.W.isClsIn K Er = true)
    (tyEr : PySem.W.typeIn K (.ref Er) = some (.type "type"))
    (isEt : PySem.W.isClsIn K Et = true)
    (tyEt : PySem.W.typeIn K (.ref Et) = some (.type "type"))
    (bEe : PySem.W.subIn K (.ref Ee) (.type "BaseException") = some true)
    (dEe : PySem.W.hasDictIn K Ee = true)
    (kpEm : PySem.W.keepIn K (.ref Em) = true)
    (qEm : PySem.W.excIn K Em [.type "ValueError", .type "Exception", .type "BaseException", .type "object"] "ValueError.__new__" = true)
    (bEm : PySem.W.subIn K (.ref Em) (.type "BaseException") = some true)
    (uEm : PySem.W.subIn K (.ref Em) (.ref Em) = some true)
    (sEmEe : PySem.W.subIn K (.ref Em) (.ref Ee) = some true)
    (sEmEo : PySem.W.subIn K (.ref Em) (.ref Eo) = some false)
    (sEmEn : PySem.W.subIn K (.ref Em) (.ref En) = some false)
    (sEmEr : PySem.W.subIn K (.ref Em) (.ref Er) = some false)
    (sEmEt : PySem.W.subIn K (.ref Em) (.ref Et) = some false)
    (x0Em : PySem.W.findIn K (.ref Em) "__getattribute__" = some (some (.builtin "BaseException.__getattribute__")))
    (x1Em : PySem.W.findIn K (.ref Em) "__getattr__" = some none)
    (x2Em : PySem.W.hasDictIn K Em = true)
    (x3Em : PySem.W.findIn K (.ref Em) "__class__" = some (some (.builtin "object.__class__")))
    (x6Em : PySem.W.mroIn K Em (.type "object") = some true)
    (kpEn : PySem.W.keepIn K (.ref En) = true)
    (qEn : PySem.W.excIn K En [.type "ValueError", .type "Exception", .type "BaseException", .type "object"] "ValueError.__new__" = true)
    (bEn : PySem.W.subIn K (.ref En) (.type "BaseException") = some true)
    (uEn : PySem.W.subIn K (.ref En) (.ref En) = some true)
    (sEnEe : PySem.W.subIn K (.ref En) (.ref Ee) = some true)
    (sEnEo : PySem.W.subIn K (.ref En) (.ref Eo) = some false)
    (sEnEm : PySem.W.subIn K (.ref En) (.ref Em) = some false)
    (sEnEr : PySem.W.subIn K (.ref En) (.ref Er) = some false)
    (sEnEt : PySem.W.subIn K (.ref En) (.ref Et) = some false)
    (x0En : PySem.W.findIn K (.ref En) "__getattribute__" = some (some (.builtin "BaseException.__getattribute__")))
    (x1En : PySem.W.findIn K (.ref En) "__getattr__" = some none)
    (x2En : PySem.W.hasDictIn K En = true)
    (x3En : PySem.W.findIn K (.ref En) "__class__" = some (some (.builtin "object.__class__")))
    (x6En : PySem.W.mroIn K En (.type "object") = some true)
    (x4 : PySem.W.specialIn K (.builtin "object.__class__") "__get__" = some (some (.builtin "getset_descriptor.__get__")))
    (x5 : PySem.W.takesIn K (.builtin "object.__class__") = some true)
    : LamX.LawAtS l w K CX0 11 63 "script" mg fa h := by
  have e := hfa.symm.trans (PySem.W.mg_of X G aL)
  cases e
  have FNu := fun_mk (st := s_is_number) lNu cNu kNu
  have FSo : FunC K "is_sort" "is_sort" s_is_sort fSo _ xcSo := ⟨⟨_, _, _, _, _, _, _, _, rfl, lSo, cSo⟩, kSo⟩
  have FOn : FunC K "is_operation_name" "is_operation_name" s_is_operation_name fOn _ xcOn := ⟨⟨_, _, _, _, _, _, _, _, rfl, lOn, cOn⟩, kOn⟩
  have FNl := fun_mk (st := s_numeral_of) lNl cNl kNl
  have FNb : FunC K "number_of" "number_of" s_number_of fNb _ xcNb := ⟨⟨_, _, _, _, _, _, _, _, rfl, lNb, cNb⟩, kNb⟩
  have FOp : FunC K "is_operation" "is_operation" s_is_operation fOp _ xcOp := ⟨⟨_, _, _, _, _, _, _, _, rfl, lOp, cOp⟩, kOp⟩
  have FSg : FunC K "is_signature" "is_signature" s_is_signature fSg _ xcSg := ⟨⟨_, _, _, _, _, _, _, _, rfl, lSg, cSg⟩, kSg⟩
  have FKi := fun_mk (st := s_kind_of) lKi cKi kKi
  have FWl : FunC K "is_world" "is_world" s_is_world fWl _ xcWl := ⟨⟨_, _, _, _, _, _, _, _, rfl, lWl, cWl⟩, kWl⟩
  have FWo := fun_mk (st := s_worked) lWo cWo kWo
  have FVo := fun_mk (st := s_value_of) lVo cVo kVo
  have FVi := fun_mk (st := s_value_in) lVi cVi kVi
  have FLo := fun_mk (st := s_literal_of) lLo cLo kLo
  have FIl := fun_mk (st := s_is_literal) lIl cIl kIl
  have FFo : FunC K "folded" "folded" s_folded fFo _ xcFo := ⟨⟨_, _, _, _, _, _, _, _, rfl, lFo, cFo⟩, kFo⟩
  have FSw := fun_mk (st := s_sort_within) lSw cSw kSw
  have FIt := fun_mk (st := s_is_term) lIt cIt kIt
  have FPa := fun_mk (st := s_paths_of) lPa cPa kPa
  have FAt := fun_mk (st := s_at) lAt cAt kAt
  have FPu := fun_mk (st := s_put) lPu cPu kPu
  have FLd := fun_mk (st := s__law_draws) lLd cLd kLd
  have FLt := fun_mk (st := s__law_take) lLt cLt kLt
  have FLa := fun_mk (st := s__law_alike) lLa cLa kLa
  have FLs := fun_mk (st := s__law_says) lLs cLs kLs
  have FLw := fun_mk (st := s__law_word) lLw cLw kLw
  have FLq := fun_mk (st := s__law_told) lLq cLq kLq
  have FLn := fun_mk (st := s__law_num) lLn cLn kLn
  have FLr := fun_mk (st := s__law_truth) lLr cLr kLr
  have FLv := fun_mk (st := s__law_value) lLv cLv kLv
  have FLf := fun_mk (st := s__law_leaf) lLf cLf kLf
  have FL := fun_mk (st := s_law) lL cL kL
  have bNu := FNu.binds (ps := ["value", "least", "most"]) fun _ _ _ _ _ _ us hl => match us, hl with | [_, _, _], _ => rfl
  have bSo := FSo.fun.binds (ps := ["value"]) fun _ _ _ _ _ _ us hl => match us, hl with | [_], _ => rfl
  have bOn := FOn.fun.binds (ps := ["value"]) fun _ _ _ _ _ _ us hl => match us, hl with | [_], _ => rfl
  have bNl := FNl.binds (ps := ["number"]) fun _ _ _ _ _ _ us hl => match us, hl with | [_], _ => rfl
  have bNb := FNb.fun.binds (ps := ["name"]) fun _ _ _ _ _ _ us hl => match us, hl with | [_], _ => rfl
  have bOp := FOp.fun.binds (ps := ["value"]) fun _ _ _ _ _ _ us hl => match us, hl with | [_], _ => rfl
  have bSg := FSg.fun.binds (ps := ["value"]) fun _ _ _ _ _ _ us hl => match us, hl with | [_], _ => rfl
  have bKi := FKi.binds (ps := ["signature", "name"]) fun _ _ _ _ _ _ us hl => match us, hl with | [_, _], _ => rfl
  have bWl := FWl.fun.binds (ps := ["value"]) fun _ _ _ _ _ _ us hl => match us, hl with | [_], _ => rfl
  have bWo := FWo.binds (ps := ["name", "values"]) fun _ _ _ _ _ _ us hl => match us, hl with | [_, _], _ => rfl
  have bVo := FVo.binds (ps := ["term", "world"]) fun _ _ _ _ _ _ us hl => match us, hl with | [_, _], _ => rfl
  have bVi := FVi.binds (ps := ["term", "world"]) fun _ _ _ _ _ _ us hl => match us, hl with | [_, _], _ => rfl
  have bLo := FLo.binds (ps := ["value"]) fun _ _ _ _ _ _ us hl => match us, hl with | [_], _ => rfl
  have bIl := FIl.binds (ps := ["term"]) fun _ _ _ _ _ _ us hl => match us, hl with | [_], _ => rfl
  have bFo := FFo.fun.binds (ps := ["term"]) fun _ _ _ _ _ _ us hl => match us, hl with | [_], _ => rfl
  have bSw := FSw.binds (ps := ["signature", "value", "left"]) fun _ _ _ _ _ _ us hl => match us, hl with | [_, _, _], _ => rfl
  have bIt := FIt.binds (ps := ["signature", "value"]) fun _ _ _ _ _ _ us hl => match us, hl with | [_, _], _ => rfl
  have bPa := FPa.binds (ps := ["term"]) fun _ _ _ _ _ _ us hl => match us, hl with | [_], _ => rfl
  have bAt := FAt.binds (ps := ["term", "path"]) fun _ _ _ _ _ _ us hl => match us, hl with | [_, _], _ => rfl
  have bPu := FPu.binds (ps := ["term", "path", "other"]) fun _ _ _ _ _ _ us hl => match us, hl with | [_, _, _], _ => rfl
  have bLd := FLd.binds (ps := ["script"]) fun _ _ _ _ _ _ us hl => match us, hl with | [_], _ => rfl
  have bLt := FLt.binds (ps := ["draws", "bound"]) fun _ _ _ _ _ _ us hl => match us, hl with | [_, _], _ => rfl
  have bLa := FLa.binds (ps := ["found", "due"]) fun _ _ _ _ _ _ us hl => match us, hl with | [_, _], _ => rfl
  have bLs := FLs.binds (ps := ["told", "due"]) fun _ _ _ _ _ _ us hl => match us, hl with | [_, _], _ => rfl
  have bLw := FLw.binds (ps := ["e"]) fun _ _ _ _ _ _ us hl => match us, hl with | [_], _ => rfl
  have bLq := FLq.binds (ps := ["term", "world"]) fun _ _ _ _ _ _ us hl => match us, hl with | [_, _], _ => rfl
  have bLn := FLn.binds (ps := ["draws", "deep"]) fun _ _ _ _ _ _ us hl => match us, hl with | [_, _], _ => rfl
  have bLr := FLr.binds (ps := ["draws", "deep"]) fun _ _ _ _ _ _ us hl => match us, hl with | [_, _], _ => rfl
  have bLv := FLv.binds (ps := ["term", "world"]) fun _ _ _ _ _ _ us hl => match us, hl with | [_, _], _ => rfl
  have bLf := FLf.binds (ps := ["value"]) fun _ _ _ _ _ _ us hl => match us, hl with | [_], _ => rfl
  have z : ∀ {x : Str}, PySem.W.nsIn K mainGlobals x = some none → mg x = none := fun e => PySem.W.mg_none_of X G e
  have T0 : Txt0 mg := ⟨⟨z zabs, z zint, z zrange, z zlen, z zlist, z zreversed, z zisinstance, z zbool, z zstr, z ztuple, z zmin, z zmax, z zall, z zzip, z zenumerate, ⟨_, PySem.W.mg_of X G gi0⟩, ⟨_, PySem.W.mg_of X G gi1⟩, ⟨_, PySem.W.mg_of X G gi2⟩, ⟨_, PySem.W.mg_of X G gi3⟩, ⟨_, PySem.W.mg_of X G gi4⟩, ⟨_, PySem.W.mg_of X G gi5⟩, ⟨_, PySem.W.mg_of X G gi6⟩, ⟨_, PySem.W.mg_of X G gs0⟩, ⟨_, PySem.W.mg_of X G gs1⟩, ⟨_, PySem.W.mg_of X G gs2⟩⟩⟩
  have T : Txt K mg Em En := ⟨T0, (PySem.W.mg_of X G aEm), kpEm, qEm, bEm, tyEm, (PySem.W.mg_of X G aEn), kpEn, qEn, bEn, tyEn⟩
  have TS : Std K mg ST := ⟨(PySem.W.mg_of X G aST), [o0, o1, o2, o3, o4, o5, o6, o7, o8, o9, o10, o11, o12, o13, o14, o15, o16], ⟨sqt lST (by show 17 ≤ sizeLine; decide) (.cons rfl (.cons rfl (.cons rfl (.cons rfl (.cons rfl (.cons rfl (.cons rfl (.cons rfl (.cons rfl (.cons rfl (.cons rfl (.cons rfl (.cons rfl (.cons rfl (.cons rfl (.cons rfl (.cons rfl .nil))))))))))))))))), _, lST, rfl⟩,
    (.cons ⟨q0, ⟨sqt lo0 (by show 3 ≤ sizeLine; decide) (.cons ⟨_, rfl⟩ (.cons rfl (.cons ⟨_, rfl⟩ .nil))), _, lo0, rfl⟩, ⟨sqt lq0 (by show 2 ≤ sizeLine; decide) (.cons ⟨_, rfl⟩ (.cons ⟨_, rfl⟩ .nil)), _, lq0, rfl⟩⟩
    (.cons ⟨q1, ⟨sqt lo1 (by show 3 ≤ sizeLine; decide) (.cons ⟨_, rfl⟩ (.cons rfl (.cons ⟨_, rfl⟩ .nil))), _, lo1, rfl⟩, ⟨sqt lq1 (by show 2 ≤ sizeLine; decide) (.cons ⟨_, rfl⟩ (.cons ⟨_, rfl⟩ .nil)), _, lq1, rfl⟩⟩
    (.cons ⟨q2, ⟨sqt lo2 (by show 3 ≤ sizeLine; decide) (.cons ⟨_, rfl⟩ (.cons rfl (.cons ⟨_, rfl⟩ .nil))), _, lo2, rfl⟩, ⟨sqt lq2 (by show 2 ≤ sizeLine; decide) (.cons ⟨_, rfl⟩ (.cons ⟨_, rfl⟩ .nil)), _, lq2, rfl⟩⟩
    (.cons ⟨q3, ⟨sqt lo3 (by show 3 ≤ sizeLine; decide) (.cons ⟨_, rfl⟩ (.cons rfl (.cons ⟨_, rfl⟩ .nil))), _, lo3, rfl⟩, ⟨sqt lq3 (by show 2 ≤ sizeLine; decide) (.cons ⟨_, rfl⟩ (.cons ⟨_, rfl⟩ .nil)), _, lq3, rfl⟩⟩
    (.cons ⟨q4, ⟨sqt lo4 (by show 3 ≤ sizeLine; decide) (.cons ⟨_, rfl⟩ (.cons rfl (.cons ⟨_, rfl⟩ .nil))), _, lo4, rfl⟩, ⟨sqt lq4 (by show 2 ≤ sizeLine; decide) (.cons ⟨_, rfl⟩ (.cons ⟨_, rfl⟩ .nil)), _, lq4, rfl⟩⟩
    (.cons ⟨q5, ⟨sqt lo5 (by show 3 ≤ sizeLine; decide) (.cons ⟨_, rfl⟩ (.cons rfl (.cons ⟨_, rfl⟩ .nil))), _, lo5, rfl⟩, ⟨sqt lq5 (by show 2 ≤ sizeLine; decide) (.cons ⟨_, rfl⟩ (.cons ⟨_, rfl⟩ .nil)), _, lq5, rfl⟩⟩
    (.cons ⟨q6, ⟨sqt lo6 (by show 3 ≤ sizeLine; decide) (.cons ⟨_, rfl⟩ (.cons rfl (.cons ⟨_, rfl⟩ .nil))), _, lo6, rfl⟩, ⟨sqt lq6 (by show 2 ≤ sizeLine; decide) (.cons ⟨_, rfl⟩ (.cons ⟨_, rfl⟩ .nil)), _, lq6, rfl⟩⟩
    (.cons ⟨q7, ⟨sqt lo7 (by show 3 ≤ sizeLine; decide) (.cons ⟨_, rfl⟩ (.cons rfl (.cons ⟨_, rfl⟩ .nil))), _, lo7, rfl⟩, ⟨sqt lq7 (by show 2 ≤ sizeLine; decide) (.cons ⟨_, rfl⟩ (.cons ⟨_, rfl⟩ .nil)), _, lq7, rfl⟩⟩
    (.cons ⟨q8, ⟨sqt lo8 (by show 3 ≤ sizeLine; decide) (.cons ⟨_, rfl⟩ (.cons rfl (.cons ⟨_, rfl⟩ .nil))), _, lo8, rfl⟩, ⟨sqt lq8 (by show 1 ≤ sizeLine; decide) (.cons ⟨_, rfl⟩ .nil), _, lq8, rfl⟩⟩
    (.cons ⟨q9, ⟨sqt lo9 (by show 3 ≤ sizeLine; decide) (.cons ⟨_, rfl⟩ (.cons rfl (.cons ⟨_, rfl⟩ .nil))), _, lo9, rfl⟩, ⟨sqt lq9 (by show 0 ≤ sizeLine; decide) .nil, _, lq9, rfl⟩⟩
    (.cons ⟨q10, ⟨sqt lo10 (by show 3 ≤ sizeLine; decide) (.cons ⟨_, rfl⟩ (.cons rfl (.cons ⟨_, rfl⟩ .nil))), _, lo10, rfl⟩, ⟨sqt lq10 (by show 1 ≤ sizeLine; decide) (.cons ⟨_, rfl⟩ .nil), _, lq10, rfl⟩⟩
    (.cons ⟨q11, ⟨sqt lo11 (by show 3 ≤ sizeLine; decide) (.cons ⟨_, rfl⟩ (.cons rfl (.cons ⟨_, rfl⟩ .nil))), _, lo11, rfl⟩, ⟨sqt lq11 (by show 3 ≤ sizeLine; decide) (.cons ⟨_, rfl⟩ (.cons ⟨_, rfl⟩ (.cons ⟨_, rfl⟩ .nil))), _, lq11, rfl⟩⟩
    (.cons ⟨q12, ⟨sqt lo12 (by show 3 ≤ sizeLine; decide) (.cons ⟨_, rfl⟩ (.cons rfl (.cons ⟨_, rfl⟩ .nil))), _, lo12, rfl⟩, ⟨sqt lq12 (by show 2 ≤ sizeLine; decide) (.cons ⟨_, rfl⟩ (.cons ⟨_, rfl⟩ .nil)), _, lq12, rfl⟩⟩
    (.cons ⟨q13, ⟨sqt lo13 (by show 3 ≤ sizeLine; decide) (.cons ⟨_, rfl⟩ (.cons rfl (.cons ⟨_, rfl⟩ .nil))), _, lo13, rfl⟩, ⟨sqt lq13 (by show 0 ≤ sizeLine; decide) .nil, _, lq13, rfl⟩⟩
    (.cons ⟨q14, ⟨sqt lo14 (by show 3 ≤ sizeLine; decide) (.cons ⟨_, rfl⟩ (.cons rfl (.cons ⟨_, rfl⟩ .nil))), _, lo14, rfl⟩, ⟨sqt lq14 (by show 0 ≤ sizeLine; decide) .nil, _, lq14, rfl⟩⟩
    (.cons ⟨q15, ⟨sqt lo15 (by show 3 ≤ sizeLine; decide) (.cons ⟨_, rfl⟩ (.cons rfl (.cons ⟨_, rfl⟩ .nil))), _, lo15, rfl⟩, ⟨sqt lq15 (by show 0 ≤ sizeLine; decide) .nil, _, lq15, rfl⟩⟩
    (.cons ⟨q16, ⟨sqt lo16 (by show 3 ≤ sizeLine; decide) (.cons ⟨_, rfl⟩ (.cons rfl (.cons ⟨_, rfl⟩ .nil))), _, lo16, rfl⟩, ⟨sqt lq16 (by show 0 ≤ sizeLine; decide) .nil, _, lq16, rfl⟩⟩
    .nil)))))))))))))))))⟩
  have TI : Inp K mg SI := ⟨(PySem.W.mg_of X G aSI), sqt lSI (by show 3 ≤ sizeLine; decide) (.cons ⟨_, rfl⟩ (.cons ⟨_, rfl⟩ (.cons ⟨_, rfl⟩ .nil))), _, lSI, rfl, rfl⟩
  have R : Ers K mg Ee Eo Em En Er Et := ⟨(PySem.W.mg_of X G aEe), (PySem.W.mg_of X G aEo), (PySem.W.mg_of X G aEm), (PySem.W.mg_of X G aEn), (PySem.W.mg_of X G aEr), (PySem.W.mg_of X G aEt), (kit_ne isEo tyEo sEmEo uEm), kit_self, (kit_ne isEn tyEn sEmEn uEm), (kit_ne isEr tyEr sEmEr uEm), (kit_ne isEt tyEt sEmEt uEm), ⟨x0Em, x1Em, bEm, x2Em, x3Em, x4, x5, x6Em⟩, PySem.W.exm_ref bEe dEe tyEe sEmEe⟩
  refine ⟨PySem.W.fnOf "law" "law" (defArgs s_law) (defBody s_law) (defScope s_law) .none kVL dcL pmL anL cdL ctL, [(xcSo, pSo), (xcOn, pOn), (xcNb, pNb), (xcOp, pOp), (xcSg, pSg), (xcWl, pWl), (xcFo, pFo)], spLaw K pNb pWl pOn pSo pOp pSg pFo, ?_, ?_, ?_, fun s v => .of_eq rfl, fun H a ns hl _ hT hS => ⟨a, ns, rfl, hS, hl, tabG (hT _ (.tail _ (.tail _ (.head _)))), tabG (hT _ (.tail _ (.tail _ (.tail _ (.tail _ (.tail _ (.head _))))))), tabG (hT _ (.tail _ (.head _))), tabG (hT _ (.head _)), tabG (hT _ (.tail _ (.tail _ (.tail _ (.head _))))), tabG (hT _ (.tail _ (.tail _ (.tail _ (.tail _ (.head _)))))), tabG (hT _ (.tail _ (.tail _ (.tail _ (.tail _ (.tail _ (.tail _ (.head _)))))))), fun _ => rfl⟩, fun base0 _ _ hB => ?_⟩
  · exact List.forall_mem_cons.mpr ⟨tSo.2, List.forall_mem_cons.mpr ⟨tOn.2, List.forall_mem_cons.mpr ⟨tNb.2, List.forall_mem_cons.mpr ⟨tOp.2, List.forall_mem_cons.mpr ⟨tSg.2, List.forall_mem_cons.mpr ⟨tWl.2, List.forall_mem_cons.mpr ⟨tFo.2, fun _ h => nomatch h⟩⟩⟩⟩⟩⟩⟩
  · exact List.forall_mem_cons.mpr ⟨zSo, List.forall_mem_cons.mpr ⟨zOn, List.forall_mem_cons.mpr ⟨zNb, List.forall_mem_cons.mpr ⟨zOp, List.forall_mem_cons.mpr ⟨zSg, List.forall_mem_cons.mpr ⟨zWl, List.forall_mem_cons.mpr ⟨zFo, fun _ h => nomatch h⟩⟩⟩⟩⟩⟩⟩
  · exact List.forall_mem_cons.mpr ⟨tSo.1, List.forall_mem_cons.mpr ⟨tOn.1, List.forall_mem_cons.mpr ⟨tNb.1, List.forall_mem_cons.mpr ⟨tOp.1, List.forall_mem_cons.mpr ⟨tSg.1, List.forall_mem_cons.mpr ⟨tWl.1, List.forall_mem_cons.mpr ⟨tFo.1, fun _ h => nomatch h⟩⟩⟩⟩⟩⟩⟩
  have tbSo := tabB (hB _ (.head _))
  have tbOn := tabB (hB _ (.tail _ (.head _)))
  have tbNb := tabB (hB _ (.tail _ (.tail _ (.head _))))
  have tbOp := tabB (hB _ (.tail _ (.tail _ (.tail _ (.head _)))))
  have tbSg := tabB (hB _ (.tail _ (.tail _ (.tail _ (.tail _ (.head _))))))
  have tbWl := tabB (hB _ (.tail _ (.tail _ (.tail _ (.tail _ (.tail _ (.head _)))))))
  have tbFo := tabB (hB _ (.tail _ (.tail _ (.tail _ (.tail _ (.tail _ (.tail _ (.head _))))))))
  have GNu := ok_is_number FNu T0 (P := l.prog) (w := w) (base := base0)
  have GNl := ok_numeral FNl T0 GNu FNu bNu (PySem.W.mg_of X G aNu)
  have GNb := ok_number FNb tbNb T0 GNl FNl bNl (PySem.W.mg_of X G aNl)
  have GKi := ok_kind (c := xcNb) FKi T0 TS GNb FNb.fun bNb (PySem.W.mg_of X G aNb)
  have GSo := ok_sort FSo tbSo T0 (P := l.prog) (w := w) (base := base0)
  have GOn := ok_opname FOn tbOn T0 (P := l.prog) (w := w) (base := base0)
  have GOp := ok_operation FOp tbOp T0 GOn FOn.fun bOn (PySem.W.mg_of X G aOn) GSo FSo.fun bSo (PySem.W.mg_of X G aSo)
  have GSg := ok_signature FSg tbSg T0 TS GOp FOp.fun bOp (PySem.W.mg_of X G aOp)
  have GSw : FnOk l.prog w K mg base0 CX0 9 fSw _ ["signature", "value", "left"] (spSW pNb ST 5) := ok_sw FSw T0 bSw (PySem.W.mg_of X G aSw) GKi FKi bKi (PySem.W.mg_of X G aKi) 5
  have GIt := ok_isterm FIt T0 GSw FSw bSw (PySem.W.mg_of X G aSw)
  have GWl := ok_world FWl tbWl T0 TI GNu FNu bNu (PySem.W.mg_of X G aNu)
  have GWo := ok_worked FWo T0 (P := l.prog) (w := w) (base := base0)
  have GVi : FnOk l.prog w K mg base0 CX0 8 fVi _ ["term", "world"] (spVI pNb 5) := ok_vi FVi T0 TI bVi (PySem.W.mg_of X G aVi) GNb FNb.fun bNb (PySem.W.mg_of X G aNb) GWo FWo bWo (PySem.W.mg_of X G aWo) 5
  have GV1 : FnOk l.prog w K mg base0 CX0 4 fVi _ ["term", "world"] (spVI pNb 1) := ok_vi FVi T0 TI bVi (PySem.W.mg_of X G aVi) GNb FNb.fun bNb (PySem.W.mg_of X G aNb) GWo FWo bWo (PySem.W.mg_of X G aWo) 1
  have GVo := ok_value_of FVo T (by decide) GWl FWl.fun bWl (PySem.W.mg_of X G aWl) GVi FVi bVi (PySem.W.mg_of X G aVi)
  have GLo := ok_literal_of FLo T0 GNl FNl bNl (PySem.W.mg_of X G aNl)
  have GIl := ok_is_literal FIl T0 GNb FNb.fun bNb (PySem.W.mg_of X G aNb)
  have GFo := ok_folded FFo tbFo T0 TS GIl FIl bIl (PySem.W.mg_of X G aIl) GLo FLo bLo (PySem.W.mg_of X G aLo) GWo FWo bWo (PySem.W.mg_of X G aWo) GV1 FVi bVi (PySem.W.mg_of X G aVi)
  have GPa := ok_paths FPa T0 bPa (PySem.W.mg_of X G aPa) 5 (P := l.prog) (w := w) (base := base0)
  have GAt := ok_at FAt T GNu FNu bNu (PySem.W.mg_of X G aNu)
  have GPu : FnOk l.prog w K mg base0 (L2N.CX l.prog w) 6 fPu _ ["term", "path", "other"] (spPut 5) := ok_put FPu T bPu (PySem.W.mg_of X G aPu) GNu FNu bNu (PySem.W.mg_of X G aNu) 5
  have GLd := ok_draws FLd T0 (P := l.prog) (w := w) (base := base0)
  have GLt := ok_tk FLt T0 (P := l.prog) (w := w) (base := base0)
  have GLa := ok_alike FLa T0 bLa (PySem.W.mg_of X G aLa) 2 (P := l.prog) (w := w) (base := base0)
  have GLs := ok_says FLs T0 (P := l.prog) (w := w) (base := base0)
  have GLw := ok_word FLw T0 R (P := l.prog) (w := w) (base := base0)
  have GLq := ok_told FLq T0 R (by decide) GVo FVo bVo (PySem.W.mg_of X G aVo) GLw kLw bLw (PySem.W.mg_of X G aLw)
  have GLn := ok_drawn FLn T0 bLn (PySem.W.mg_of X G aLn) FLr bLr (PySem.W.mg_of X G aLr) GLt FLt bLt (PySem.W.mg_of X G aLt) 4
  have GLv := ok_lv FLv T0 bLv (PySem.W.mg_of X G aLv) 5 (P := l.prog) (w := w) (base := base0)
  have GLf := ok_leaf FLf T0 (P := l.prog) (w := w) (base := base0)
  exact ok_law FL T0 (PySem.W.mg_of X G aST) GLd FLd bLd (PySem.W.mg_of X G aLd) GLt FLt bLt (PySem.W.mg_of X G aLt) GLs FLs bLs (PySem.W.mg_of X G aLs) GSg FSg.fun bSg (PySem.W.mg_of X G aSg) GWl FWl.fun bWl (PySem.W.mg_of X G aWl) GLn.1 FLn bLn (PySem.W.mg_of X G aLn) GLn.2 FLr bLr (PySem.W.mg_of X G aLr) GIt FIt bIt (PySem.W.mg_of X G aIt) GLa FLa bLa (PySem.W.mg_of X G aLa) GLq FLq bLq (PySem.W.mg_of X G aLq) GLv FLv bLv (PySem.W.mg_of X G aLv) GPa FPa bPa (PySem.W.mg_of X G aPa) GAt FAt bAt (PySem.W.mg_of X G aAt) GPu FPu bPu (PySem.W.mg_of X G aPu) GLf FLf bLf (PySem.W.mg_of X G aLf) GFo FFo.fun bFo (PySem.W.mg_of X G aFo) GIl FIl bIl (PySem.W.mg_of X G aIl) GLo FLo bLo (PySem.W.mg_of X G aLo)
/-- the walk: F has the top, so that the tables can be found empty -/
theorem walk {l : PySem.W.OpenLaw} {q : Program} {loose : List Str} {XP : (Str → Option Value) → Heap → Prop} {YP : World → Heap → Prop} {d : DefRec} {K : Params → PySem.W.Frag} (hn : l.most = some 63) (hdf : d.params.defaults = [])
    (hY : ∀ (w : World) (h : Heap), YP w h → (K w.params).In h)
    (F : ∀ (w : World) (mg mb : Str → Option Value) (fa : Addr) (h : Heap) (mean : ExcName → Option Value), (K w.params).In h → PyProof.Rows.Top q (PySem.W.looseW q loose) mean mg mb h → mg d.name = some (.ref fa) → LamX.LawAtS l w (K w.params) CX0 11 63 "script" mg fa h) :
    PySem.W.WalkO q loose XP YP l.row.toRowW d [] (fun f vs => PySem.call f vs) := by
  refine Att.attach_callB hn hdf ?_
  intro w s0 s1 mg mb fa _ _ _ _ a vs ns Gr Yp _ _ _ named list whole many bits gens
  obtain ⟨fd, cs, sp, e1, e2, e3, e4, e5, e6⟩ := F w mg mb fa _ _ (hY w _ Yp) Gr.T named
  have room : Room 11 callerA := ⟨rfl, by decide, by decide⟩
  have fits : ns.length ≤ sizeLine := Nat.le_trans many (by decide)
  exact LamX.law_callTs (hY w _ Yp) Gr.T.g Gr.T.b Gr.T.builtins Gr.T.nolimit gens e1 e2 e3 Gr.T.bmain list whole fits room e6 e4 (fun H t hS => e5 H a ns many bits t hS) fun _ _ _ z => z
end K08
open PySem PySem.W PyProof.Rows
set_option maxRecDepth 100000 in
set_option maxHeartbeats 0 in
theorem PySem.Challenge.cw_equalsgrown_k08_whole_meanings_holds : PySem.Challenge.rw_equalsgrown_k08_whole_meanings.Holds := by
  w_on; o_law; k_head; (case hw => w_witness2)
  k_fill
  refine K08.walk (l := PySem.Challenge.rw_equalsgrown_k08_whole_meanings) rfl rfl (fun w h Y => PySem.W.kIn_of Y) ?F
  case F =>
    intro w mg mb fa h mean KX T hmg
    have G := T.g
    refine' K08.all_mk KX G hmg ?aNu ?lNu ?cNu ?kNu ?aSo ?lSo ?cSo ?kSo ?wSo ?vSo ?zSo ?tSo ?aOn ?lOn ?cOn ?kOn ?wOn ?vOn ?zOn ?tOn ?aNl ?lNl ?cNl ?kNl ?aNb ?lNb ?cNb ?kNb ?wNb ?vNb ?zNb ?tNb ?aOp ?lOp ?cOp ?kOp ?wOp ?vOp ?zOp ?tOp ?aSg ?lSg ?cSg ?kSg ?wSg ?vSg ?zSg ?tSg ?aKi ?lKi ?cKi ?kKi ?aWl ?lWl ?cWl ?kWl ?wWl ?vWl ?zWl ?tWl ?aWo ?lWo ?cWo ?kWo ?aVo ?lVo ?cVo ?kVo ?aVi ?lVi ?cVi ?kVi ?aLo ?lLo ?cLo ?kLo ?aIl ?lIl ?cIl ?kIl ?aFo ?lFo ?cFo ?kFo ?wFo ?vFo ?zFo ?tFo ?aSw ?lSw ?cSw ?kSw ?aIt ?lIt ?cIt ?kIt ?aPa ?lPa ?cPa ?kPa ?aAt ?lAt ?cAt ?kAt ?aPu ?lPu ?cPu ?kPu ?aLd ?lLd ?cLd ?kLd ?aLt ?lLt ?cLt ?kLt ?aLa ?lLa ?cLa ?kLa ?aLs ?lLs ?cLs ?kLs ?aLw ?lLw ?cLw ?kLw ?aLq ?lLq ?cLq ?kLq ?aLn ?lLn ?cLn ?kLn ?aLr ?lLr ?cLr ?kLr ?aLv ?lLv ?cLv ?kLv ?aLf ?lLf ?cLf ?kLf ?aL ?lL ?cL ?kL ?zabs ?zint ?zrange ?zlen ?zlist ?zreversed ?zisinstance ?zbool ?zstr ?ztuple ?zmin ?zmax ?zall ?zzip ?zenumerate ?gi0 ?gi1 ?gi2 ?gi3 ?gi4 ?gi5 ?gi6 ?gs0 ?gs1 ?gs2 ?aST ?aSI ?lST ?lo0 ?lq0 ?lo1 ?lq1 ?lo2 ?lq2 ?lo3 ?lq3 ?lo4 ?lq4 ?lo5 ?lq5 ?lo6 ?lq6 ?lo7 ?lq7 ?lo8 ?lq8 ?lo9 ?lq9 ?lo10 ?lq10 ?lo11 ?lq11 ?lo12 ?lq12 ?lo13 ?lq13 ?lo14 ?lq14 ?lo15 ?lq15 ?lo16 ?lq16 ?lSI ?aEe ?aEo ?aEm ?aEn ?aEr ?aEt ?isEe ?tyEe ?isEo ?tyEo ?isEm ?tyEm ?isEn ?tyEn ?isEr ?tyEr ?isEt ?tyEt ?bEe ?dEe ?kpEm ?qEm ?bEm ?uEm ?sEmEe ?sEmEo ?sEmEn ?sEmEr ?sEmEt ?x0Em ?x1Em ?x2Em ?x3Em ?x6Em ?kpEn ?qEn ?bEn ?uEn ?sEnEe ?sEnEo ?sEnEm ?sEnEr ?sEnEt ?x0En ?x1En ?x2En ?x3En ?x6En ?x4 ?x5
    (case aNu => k_is)
    (case lNu => k_is)
    (case cNu => k_is)
    (case kNu => k_is)
    (case aSo => k_is)
    (case lSo => k_is)
    (case cSo => k_is)
    (case kSo => k_is)
    (case wSo => k_is)
    (case vSo => rfl)
    (case zSo => kernel_rfl)
    (case tSo => exact PySem.W.tab_of (x := "is_sort") T KX rfl (by kernel_rfl))
    (case aOn => k_is)
    (case lOn => k_is)
    (case cOn => k_is)
    (case kOn => k_is)
    (case wOn => k_is)
    (case vOn => rfl)
    (case zOn => kernel_rfl)
    (case tOn => exact PySem.W.tab_of (x := "is_operation_name") T KX rfl (by kernel_rfl))
    (case aNl => k_is)
    (case lNl => k_is)
    (case cNl => k_is)
    (case kNl => k_is)
    (case aNb => k_is)
    (case lNb => k_is)
    (case cNb => k_is)
    (case kNb => k_is)
    (case wNb => k_is)
    (case vNb => rfl)
    (case zNb => kernel_rfl)
    (case tNb => exact PySem.W.tab_of (x := "number_of") T KX rfl (by kernel_rfl))
    (case aOp => k_is)
    (case lOp => k_is)
    (case cOp => k_is)
    (case kOp => k_is)
    (case wOp => k_is)
    (case vOp => rfl)
    (case zOp => kernel_rfl)
    (case tOp => exact PySem.W.tab_of (x := "is_operation") T KX rfl (by kernel_rfl))
    (case aSg => k_is)
    (case lSg => k_is)
    (case cSg => k_is)
    (case kSg => k_is)
    (case wSg => k_is)
    (case vSg => rfl)
    (case zSg => kernel_rfl)
    (case tSg => exact PySem.W.tab_of (x := "is_signature") T KX rfl (by kernel_rfl))
    (case aKi => k_is)
    (case lKi => k_is)
    (case cKi => k_is)
    (case kKi => k_is)
    (case aWl => k_is)
    (case lWl => k_is)
    (case cWl => k_is)
    (case kWl => k_is)
    (case wWl => k_is)
    (case vWl => rfl)
    (case zWl => kernel_rfl)
    (case tWl => exact PySem.W.tab_of (x := "is_world") T KX rfl (by kernel_rfl))
    (case aWo => k_is)
    (case lWo => k_is)
    (case cWo => k_is)
    (case kWo => k_is)
    (case aVo => k_is)
    (case lVo => k_is)
    (case cVo => k_is)
    (case kVo => k_is)
    (case aVi => k_is)
    (case lVi => k_is)
    (case cVi => k_is)
    (case kVi => k_is)
    (case aLo => k_is)
    (case lLo => k_is)
    (case cLo => k_is)
    (case kLo => k_is)
    (case aIl => k_is)
    (case lIl => k_is)
    (case cIl => k_is)
    (case kIl => k_is)
    (case aFo => k_is)
    (case lFo => k_is)
    (case cFo => k_is)
    (case kFo => k_is)
    (case wFo => k_is)
    (case vFo => rfl)
    (case zFo => kernel_rfl)
    (case tFo => exact PySem.W.tab_of (x := "folded") T KX rfl (by kernel_rfl))
    (case aSw => k_is)
    (case lSw => k_is)
    (case cSw => k_is)
    (case kSw => k_is)
    (case aIt => k_is)
    (case lIt => k_is)
    (case cIt => k_is)
    (case kIt => k_is)
    (case aPa => k_is)
    (case lPa => k_is)
    (case cPa => k_is)
    (case kPa => k_is)
    (case aAt => k_is)
    (case lAt => k_is)
    (case cAt => k_is)
    (case kAt => k_is)
    (case aPu => k_is)
    (case lPu => k_is)
    (case cPu => k_is)
    (case kPu => k_is)
    (case aLd => k_is)
    (case lLd => k_is)
    (case cLd => k_is)
    (case kLd => k_is)
    (case aLt => k_is)
    (case lLt => k_is)
    (case cLt => k_is)
    (case kLt => k_is)
    (case aLa => k_is)
    (case lLa => k_is)
    (case cLa => k_is)
    (case kLa => k_is)
    (case aLs => k_is)
    (case lLs => k_is)
    (case cLs => k_is)
    (case kLs => k_is)
    (case aLw => k_is)
    (case lLw => k_is)
    (case cLw => k_is)
    (case kLw => k_is)
    (case aLq => k_is)
    (case lLq => k_is)
    (case cLq => k_is)
    (case kLq => k_is)
    (case aLn => k_is)
    (case lLn => k_is)
    (case cLn => k_is)
    (case kLn => k_is)
    (case aLr => k_is)
    (case lLr => k_is)
    (case cLr => k_is)
    (case kLr => k_is)
    (case aLv => k_is)
    (case lLv => k_is)
    (case cLv => k_is)
    (case kLv => k_is)
    (case aLf => k_is)
    (case lLf => k_is)
    (case cLf => k_is)
    (case kLf => k_is)
    (case aL => k_is)
    (case lL => k_is)
    (case cL => k_is)
    (case kL => k_is)
    (case zabs => k_is)
    (case zint => k_is)
    (case zrange => k_is)
    (case zlen => k_is)
    (case zlist => k_is)
    (case zreversed => k_is)
    (case zisinstance => k_is)
    (case zbool => k_is)
    (case zstr => k_is)
    (case ztuple => k_is)
    (case zmin => k_is)
    (case zmax => k_is)
    (case zall => k_is)
    (case zzip => k_is)
    (case zenumerate => k_is)
    (case gi0 => k_is)
    (case gi1 => k_is)
    (case gi2 => k_is)
    (case gi3 => k_is)
    (case gi4 => k_is)
    (case gi5 => k_is)
    (case gi6 => k_is)
    (case gs0 => k_is)
    (case gs1 => k_is)
    (case gs2 => k_is)
    (case aST => k_is)
    (case aSI => k_is)
    (case lST => k_is)
    (case lo0 => k_is)
    (case lq0 => k_is)
    (case lo1 => k_is)
    (case lq1 => k_is)
    (case lo2 => k_is)
    (case lq2 => k_is)
    (case lo3 => k_is)
    (case lq3 => k_is)
    (case lo4 => k_is)
    (case lq4 => k_is)
    (case lo5 => k_is)
    (case lq5 => k_is)
    (case lo6 => k_is)
    (case lq6 => k_is)
    (case lo7 => k_is)
    (case lq7 => k_is)
    (case lo8 => k_is)
    (case lq8 => k_is)
    (case lo9 => k_is)
    (case lq9 => k_is)
    (case lo10 => k_is)
    (case lq10 => k_is)
    (case lo11 => k_is)
    (case lq11 => k_is)
    (case lo12 => k_is)
    (case lq12 => k_is)
    (case lo13 => k_is)
    (case lq13 => k_is)
    (case lo14 => k_is)
    (case lq14 => k_is)
    (case lo15 => k_is)
    (case lq15 => k_is)
    (case lo16 => k_is)
    (case lq16 => k_is)
    (case lSI => k_is)
    (case aEe => k_is)
    (case aEo => k_is)
    (case aEm => k_is)
    (case aEn => k_is)
    (case aEr => k_is)
    (case aEt => k_is)
    (case isEe => k_is)
    (case tyEe => k_is)
    (case isEo => k_is)
    (case tyEo => k_is)
    (case isEm => k_is)
    (case tyEm => k_is)
    (case isEn => k_is)
    (case tyEn => k_is)
    (case isEr => k_is)
    (case tyEr => k_is)
    (case isEt => k_is)
    (case tyEt => k_is)
    (case bEe => k_is)
    (case dEe => k_is)
    (case kpEm => k_is)
    (case qEm => k_exc)
    (case bEm => k_is)
    (case uEm => first | rfl | k_is)
    (case sEmEe => k_is)
    (case sEmEo => k_is)
    (case sEmEn => k_is)
    (case sEmEr => k_is)
    (case sEmEt => k_is)
    (case x0Em => k_is)
    (case x1Em => k_is)
    (case x2Em => k_is)
    (case x3Em => k_is)
    (case x6Em => k_is)
    (case kpEn => k_is)
    (case qEn => k_exc)
    (case bEn => k_is)
    (case uEn => first | rfl | k_is)
    (case sEnEe => k_is)
    (case sEnEo => k_is)
    (case sEnEm => k_is)
    (case sEnEr => k_is)
    (case sEnEt => k_is)
    (case x0En => k_is)
    (case x1En => k_is)
    (case x2En => k_is)
    (case x3En => k_is)
    (case x6En => k_is)
    (case x4 => k_is)
    (case x5 => k_is)
#print axioms PySem.Challenge.cw_equalsgrown_k08_whole_meanings_holds
