import PyProof.Rows.All
import Wide.All
import OpenK.AllK
import Wide.FinOn
import HandS.GenList
import HandS.Comp
import HandS.AnyAll
import HandS.Iter
import PyProof.GenArm
import PyProof.EnumMake
import KE.GoesMore
import HandS.Base
import HandS.Call
import HandS.List
import HandS.Walk
import HandS.Star
import HandS.ForMost
import HandS.More
import HandS.DeepEq
import HandS.Evl
import HandS.IsInst
import HandS.TryOnly
import HandS.Dict
import HandS.Rev
import HandS.EndBits
import HandS.Style
import HandS.ForExc
import HandS.TupAny
import HandS.Text
import HandS.Zip
import HandS.ExcCtx
import HandS.SuiteRaise
import HandS.Deep
import HandS.Strs
import KE.SortData
import HandS.Hot
import HandS.HotCalls
import HandS.ExcIs
import HandS.Ends
import HandS.Words
import HandS.WordsList
import HandS.DictEq
import PyProof.Rows.RegReprOcc
import PySem.Challenge.RW_equalsgrown_k05_whole_texts_of_terms
import HandS.EndTab
set_option Elab.async false
set_option linter.all false
set_option maxRecDepth 100000
set_option maxHeartbeats 2000000
/-! generator expressions whose elements may call defs: all, any -/
namespace GG
open PySem PySem.Spec PyProof.Rows L2 GenW

/-- the context of a generator expression's code: s, H as its frame is laid; fp: the source's iterator; pn: the generator's own object -/
abbrev gex (X : Cx) (A : Around) (s : Shared) (H : Hp) (genv : Env) (fp : List Addr) (pn : List (Addr × Obj)) : Cx :=
  { X with A := A.deeper genv, s_0 := s, H_0 := H, env := genv, outer := X.stack, stack := genv :: X.stack, ex := fp, fn := fun _ => false, pn := pn, xe := fun _ _ => False }

theorem over_gen {A : Around} {elt target iter : Expr} {ifs : List Expr} {scope : Scope} {pos : Pos} {it acc : Value} {env : Env} :
    A.over (.compLoop (.GeneratorExp elt [⟨target, iter, ifs, 0⟩] scope pos) 0 it acc env) [] = A.deeper env := by
  first
    | rfl
    | (obtain ⟨hd, d, fr, gs, u⟩ := A; simp [Around.over, Around.deeper, marksOver, frameCount, unitsOf, envsOf, guardsOf, pushEnvs, pushGuards, Code.envs, Code.env?, Code.isFrame, Code.guards, Code.isGuard, Code.weight, Code.frames, Code.isCreation, Code.isCaller, Code.cUnits])
theorem over_gen0 {A : Around} {elt target iter : Expr} {ifs : List Expr} {scope : Scope} {pos : Pos} {it acc : Value} {env : Env} :
    A.over (.compStart (.GeneratorExp elt [⟨target, iter, ifs, 0⟩] scope pos) 0 it acc env) [] = A.deeper env := by
  first
    | rfl
    | (obtain ⟨hd, d, fr, gs, u⟩ := A; simp [Around.over, Around.deeper, marksOver, frameCount, unitsOf, envsOf, guardsOf, pushEnvs, pushGuards, Code.envs, Code.env?, Code.isFrame, Code.guards, Code.isGuard, Code.weight, Code.frames, Code.isCreation, Code.isCaller, Code.cUnits])

section
variable {X : Cx} {pins : List (Addr × Obj)} {σ : L2.St} {H : Hp} {s : Shared}

theorem gen_start {A : Around} {scope : Scope} {own : List (Str × Nat)} {fp : List Addr} {code : Value} {it : Value} {h' h5 : Heap} {g5 : Array GenState} {t5 : Nat} {a : Addr} {ob : Obj}
    (I : Inv X pins σ H s) (ok : BlkOk X.N X.env.scope scope own) (hcell : ∀ y ∈ scope.names, y.2 ≠ .cell) (hN : X.N.Nodup) (hA : A.handled = none) (hfr : A.frames = some X.stack) (hfp : ∀ b ∈ fp, FpOk X pins H b ∧ b < s.heap.objs.size)
    (hn' : h'.Ns s.heap.objs.size (fun y => if y = ".0" then some it else none)) (hk' : ∀ b o, s.heap.get? b = some o → h'.get? b = some o)
    (hk5 : ∀ b o, h'.get? b = some o → h5.get? b = some o) (ha : s.heap.objs.size < a) (hao : h5.get? a = some ob) (hoc : ∀ v, ob.data ≠ .cell v) (hg : AllBare g5) :
    Inv (gex X A s H (genEnv scope (cloFrom X.env.cells scope.names []) s.heap.objs.size code builtinsNs X.env) fp [(a, ob)]) [] (wipe σ (own.map (·.2))) H { s with gens := g5, toks := t5, heap := h5 } := by
  have hfree : ∀ y ∈ scope.names, y.2 = .free → ∃ c, X.env.cells.lookup y.1 = some c := fun y hy e => by
    rcases ok.free y hy e with k | k
    · exact I.ok.has _ (.inl k)
    · exact I.ok.has _ (.inr k)
  have kp : ∀ b o, s.heap.get? b = some o → h5.get? b = some o := fun b o e => hk5 b o (hk' b o e)
  have cm : ∀ {y c}, (y, c) ∈ cloFrom X.env.cells scope.names [] → X.env.cells.lookup y = some c ∧ c < s.heap.objs.size := fun {y c} hm => by
    rcases cloFrom_mem hm with hm | ⟨h1, rfl⟩
    · cases hm
    · obtain ⟨c, hc⟩ := hfree _ h1 rfl
      rw [hc]
      obtain ⟨w, z⟩ := I.cell _ _ hc
      exact ⟨rfl, z.lt⟩
  have cml : ∀ {y c}, (cloFrom X.env.cells scope.names []).lookup y = some c → X.env.cells.lookup y = some c ∧ c < s.heap.objs.size := fun {y c} e => cm (PySem.mem_of_lookup e)
  have look : ∀ {y}, scope.names.lookup y = some .free → ∃ c, (cloFrom X.env.cells scope.names []).lookup y = some c ∧ X.env.cells.lookup y = some c := fun {y} hl => by
    have hy : (y, NameKind.free) ∈ scope.names := PySem.mem_of_lookup hl
    obtain ⟨c', e'⟩ := mem_lookup (cloFrom_has (cells := X.env.cells) (acc := []) hy)
    exact ⟨c', e', (cml e').1⟩
  have okG : (gex X A s H (genEnv scope (cloFrom X.env.cells scope.names []) s.heap.objs.size code builtinsNs X.env) fp [(a, ob)]).Ok := by
    refine ⟨I.ok.mod, ok.kind, I.ok.glob, rfl, Nat.le_refl _, fun y z c e1 e2 => ?_, fun y hy => ?_, fun y c z e => ?_, fun _ => hA, Around.frames_deeper hfr, .inr ⟨rfl, rfl⟩, fun b hb => ⟨?_, fun y c e z => ?_⟩, I.bs, Nat.le_trans I.ok.bsz I.sz, fun b o e hb => ?_, fun b hb z => ?_, I.stack, I.stkFree⟩
    · exact I.ok.inj y z c (cml e1).1 (cml e2).1
    · have hy : scope.names.lookup y = some .cell ∨ scope.names.lookup y = some .free := hy
      rcases hy with hy | hy
      · exact absurd rfl (hcell _ (PySem.mem_of_lookup hy))
      · obtain ⟨c, h1, _⟩ := look hy
        exact ⟨c, h1⟩
    · cases z
    · exact Nat.ne_of_lt (hfp b hb).2
    · exact (hfp b hb).1.2.2.2.2.1 y c (cml e).1 z
    · rcases (hfp b hb).1.2.2.2.1 with z | z
      · exact I.ok.noex b o e z
      · exact absurd (Nat.lt_of_lt_of_le (Heap.lt_size e) (Nat.le_trans I.ok.bsz z)) (Nat.lt_irrefl _)
    · rcases List.mem_cons.mp (I.stkSub b z) with z | z
      · exact (hfp b hb).1.2.1 z
      · exact (hfp b hb).1.2.2.1 z
  refine ⟨okG, rfl, hg, Un.kept kp, ⟨_, hn'.keeps hk5, fun i y av e1 e2 e3 => ?_⟩, fun y c e => ?_, I.hok.fresh (Nat.le_refl _), fun y c e => ?_, fun p hp => ?_, I.hok.kept kp, by rw [wipe_length]; exact I.len⟩
  · obtain ⟨e2, hne⟩ := wipe_some e2
    have e3 : Vis scope y := e3
    have no : ∀ k, scope.names.lookup y = some k → ¬ (k = .local ∨ k = .cell) := fun k e hh => by
      rcases ok.own _ (PySem.mem_of_lookup e) hh with e' | e'
      · obtain ⟨p, hp, hpy⟩ := List.mem_map.mp e'
        have e4 := ok.ix p hp
        have : p.1 = y := hpy
        rw [this] at e4
        exact hne (List.mem_map.mpr ⟨p, hp, nodup_ix hN e4 e1⟩)
      · exact e' (List.mem_of_getElem? e1)
    have hfr' : scope.names.lookup y = some .free := by
      rcases e3 with e3 | e3 | e3
      · exact absurd (.inl rfl) (no _ e3)
      · exact absurd (.inr rfl) (no _ e3)
      · exact e3
    obtain ⟨m, hn, hl⟩ := I.loc
    have hvis : Vis X.env.scope y := (ok.free _ (PySem.mem_of_lookup hfr') rfl).elim (fun k => .inr (.inl k)) (fun k => .inr (.inr k))
    obtain ⟨w, r, q⟩ := hl i y av e1 e2 hvis
    obtain ⟨c, h1, h2⟩ := look hfr'
    refine ⟨w, r, .inr ⟨.inr hfr', ?_⟩⟩
    rcases q with ⟨k, _⟩ | ⟨_, c', e', z⟩
    · have k : X.env.scope.names.lookup y = some .local := k
      rcases ok.free _ (PySem.mem_of_lookup hfr') rfl with k' | k' <;> rw [show X.env.scope.names.lookup y = _ from k'] at k <;> cases k
    · rw [h2] at e'; cases e'
      exact ⟨c, h1, z.keeps kp⟩
  · obtain ⟨w, z⟩ := I.cell y c (cml e).1
    exact ⟨w, z.keeps kp⟩
  · exact I.freeC y c (cml e).1
  · have e : p = (a, ob) := by simpa using hp
    subst e
    exact ⟨hao, I.hok.fresh (Nat.le_of_lt ha), Nat.ne_of_gt ha, fun hb => by
      rcases List.mem_cons.mp (I.stkSub a hb) with z | z
      · have := I.lt
        rw [← z] at this
        exact absurd (Nat.lt_trans this ha) (Nat.lt_irrefl _)
      · exact I.nofs (Nat.le_of_lt ha) z, hoc⟩

/-- while the generator sleeps: all is kept -/
structure Slp (s s' : Shared) : Prop where
  os : s'.os = s.os
  bare : AllBare s'.gens
  keep : ∀ b o, s.heap.get? b = some o → s'.heap.get? b = some o
theorem Inv.slp {s' : Shared} (I : Inv X pins σ H s) (z : Slp s s') : Inv X pins σ H s' :=
  I.call' (ch := []) z.os (Un.kept z.keep) (I.hok.kept z.keep) z.bare fun b hb => absurd hb (by simp)

/-- the end, an item -/
def GRn (G : Cx) (Fin : Hp → Prop) : GenEnd := fun n s₀ r s₁ => ((r = .ok (.ret .none) ∨ r = .ok .next) ∧ ∃ σ H', Inv G [] σ H' s₁ ∧ Fin H') ∨ ∃ e, r = .error e ∧ False
def GYd (G : Cx) (Go : V → Prop) (Stp : V → Hp → Prop) : Protocol := fun n s₀ v s kap =>
  ∃ y pins σ H', RelV y v ∧ Inv G pins σ H' s ∧ ((Go y ∧ ∀ s', Slp s s' → kap (.send .none) s') ∨ Stp y H')

/-- what a turn asks (as tLc): W by the turn and a measure -/
def GTurn (J : It) (g : TG) (tt : TT) (te : TE) (vs : List Nat) (σ : L2.St) (Go : V → Prop) (Stp : V → Hp → Prop) (Fin : Hp → Prop) (W : Nat → Nat → Hp → Prop) : Prop := ∀ i m H, W i m H →
  (J.stop i H ∧ Fin H) ∨ (J.go i H ∧ ∃ Nx : Hp → Prop, (∀ H', Nx H' → ∃ m', m' < m ∧ W (i + 1) m' H') ∧ ∀ x H', J.yld i H x H' → g x (wipe σ vs) H' fun σ2 H2 => wipe σ2 vs = wipe σ vs ∧ tt σ2 H2 fun b H3 =>
    if b = true then te σ2 H3 fun y H4 => (Go y ∧ Nx H4) ∨ Stp y H4 else Nx H3)

theorem seg_gl {A : Around} {s4 : Shared} {H4 : Hp} {genv : Env} {fp : List Addr} {pn : List (Addr × Obj)} {elt tg iter : Expr} {ifs : List Expr} {scope : Scope} {pos : Pos} {vs : List Nat} {it : Addr} {tn : Nat → Heap → Prop} {J : It} {g : TG} {tt : TT} {te : TE}
    {Go : V → Prop} {Stp : V → Hp → Prop} {Fin : Hp → Prop} {W : Nat → Nat → Hp → Prop} (hc : X.calm = true) (hpn : ∀ p ∈ pn, p.1 ∉ fp) (hco : genv.scope.isCoroutine = false)
    (T : Turn X.prog X.w X.K tg J fp it tn) (hg : PG (gex X A s4 H4 genv fp pn) tg g) (ht : PTs (gex X A s4 H4 genv fp pn) ifs tt) (he : PE (gex X A s4 H4 genv fp pn) elt te)
    (turn : GTurn J g tt te vs σ Go Stp Fin W) :
    ∀ (m i n : Nat) (s₀ s : Shared) (H : Hp), m < n → W i m H → Inv (gex X A s4 H4 genv fp pn) [] (wipe σ vs) H s → tn i s.heap → (∀ b ∈ fp, H b = none) →
      Seg (model X.prog X.w) A (GRn (gex X A s4 H4 genv fp pn) Fin) (GYd (gex X A s4 H4 genv fp pn) Go Stp) n s₀
        (.compLoop (.GeneratorExp elt [⟨tg, iter, ifs, 0⟩] scope pos) 0 (.ref it) .none genv)
        ((model X.prog X.w).den (.compLoop (.GeneratorExp elt [⟨tg, iter, ifs, 0⟩] scope pos) 0 (.ref it) .none genv)) [] s := by
  have stat : ∀ {σ' : L2.St} {H' : Hp} {s' : Shared}, Inv (gex X A s4 H4 genv fp pn) [] σ' H' s' → (∀ b ∈ fp, H' b = none) → ∀ b ∈ fp, FpOk (gex X A s4 H4 genv fp pn) [] H' b := fun {σ' H' s'} I' hn b hb =>
    ⟨hn b hb, (I'.ok.exf b hb).1, I'.ok.exfs b hb, .inl hb, fun x c e => (I'.ok.exf b hb).2 x c e, fun p hp z => by
      rcases List.mem_append.mp hp with hp | hp
      · exact hpn p hp (by rw [z]; exact hb)
      · cases hp⟩
  intro m
  induction m using Nat.strongRecOn with
  | ind m ih =>
    intro i n s₀ s H hmn w I st hn
    show Seg _ A _ _ _ s₀ _ ((compTurn (.GeneratorExp elt [⟨tg, iter, ifs, 0⟩] scope pos) 0 (.ref it) .none genv).onRaise (leaving genv)) [] s
    rw [compTurn_gen, Sem.onRaise_eq_wrap]
    refine seg_bind_wrap (wpAny_standAt ?_)
    rcases turn i m H w with ⟨stop, fin⟩ | ⟨go, Nx, hNx, step⟩
    · refine seg_bind_wrap ?_
      rw [over_gen]
      refine thnF (T.done (gex X A s4 H4 genv fp pn) rfl rfl rfl hc i [] s _ H (fun _ _ => False) I (stat I hn) st stop) fun r s1 ⟨hr, I1⟩ => ?_
      subst hr
      exact seg_end (.ok .next) (.inl ⟨.inr rfl, _, H, I1, fin⟩)
    · refine seg_bind_wrap ?_
      rw [over_gen]
      refine thnF (T.item (gex X A s4 H4 genv fp pn) rfl rfl rfl hc i [] s _ H (fun _ _ => False) I (stat I hn) st go) fun r s1 ⟨u, hr, h1⟩ => ?_
      subst hr
      refine seg_bind_wrap ?_
      rw [over_gen]
      refine thnF h1 fun _ s2 ⟨x, H2, I2, r2, y2, st2, n2⟩ => ?_
      have I2' := I2.pinned (stat I2 n2) (T.obj _ _ st2)
      refine seg_bind_wrap ?_
      rw [over_gen]
      refine thnF (hg.run _ s2 _ H2 x u _ I2' r2 (step x H2 y2)) fun _ s3 ⟨σ3, H3, I3, hw3, q3⟩ => ?_
      refine seg_bind_wrap ?_
      rw [over_gen]
      refine thnF (ht.run _ s3 σ3 H3 _ I3 q3) fun b s5 ⟨H5, I5, q5⟩ => ?_
      have fin : ∀ {s' : Shared} {H' : Hp}, Inv (gex X A s4 H4 genv fp pn) ([] ++ pinsAt fp s2.heap) σ3 H' s' → Nx H' →
          ∃ m', m' < m ∧ W (i + 1) m' H' ∧ Inv (gex X A s4 H4 genv fp pn) [] (wipe σ vs) H' s' ∧ tn (i + 1) s'.heap ∧ (∀ b ∈ fp, H' b = none) := fun {s' H'} I' nx => by
        obtain ⟨m', hm, w'⟩ := hNx H' nx
        have pin' : ∀ b ∈ fp, ∀ o, s2.heap.get? b = some o → s'.heap.get? b = some o ∧ H' b = none := fun b hb o e =>
          let z := I'.pin (b, o) (List.mem_append_right _ (List.mem_append_right _ (mem_pinsAt hb e)))
          ⟨z.1, z.2.1⟩
        have hl : (wipe σ vs).length = σ3.length := by rw [← hw3, wipe_length]
        refine ⟨m', hm, w', (I'.unpinned (pins := [])).weak hl (fun j v e => ?_), T.keep _ _ _ st2 fun b hb o e => (pin' b hb o e).1, fun b hb => ?_⟩
        · rw [← hw3] at e
          exact (wipe_some e).1
        · obtain ⟨o, e, _⟩ := T.obj _ _ st2 b hb
          exact (pin' b hb o e).2
      cases b with
      | false =>
        simp only [Bool.false_eq_true, if_false] at q5 ⊢
        obtain ⟨m', hm, w', I6, st6, n6⟩ := fin I5 q5
        exact seg_again rfl (ih m' hm (i + 1) n s₀ _ H5 (Nat.lt_trans hm hmn) w' I6 st6 n6)
      | true =>
        simp only [if_true] at q5 ⊢
        have hy : ∀ v, yieldOut genv v = yieldValue v := fun v => by simp only [yieldOut, hco, Bool.false_eq_true, if_false]
        simp only [hy]
        rw [Sem.bind_eq_wrap', Sem.bind_eq_wrap', Sem.wrap_wrap, Sem.wrap_wrap]
        refine seg_wrap ?_
        rw [over_gen]
        refine thnF (he.run _ s5 σ3 H5 _ I5 q5) fun yv s6 ⟨y, H6, I6, r6, q6⟩ => ?_
        obtain ⟨n, rfl⟩ : ∃ k, n = k + 1 := ⟨n - 1, by omega⟩
        refine seg_at (seg_yield rfl rfl rfl ⟨y, _, _, H6, r6, I6, ?_⟩)
        rcases q6 with ⟨hgo, nx⟩ | stp
        · refine .inl ⟨hgo, fun s' z => ?_⟩
          obtain ⟨m', hm, w', I7, st7, n7⟩ := fin (Inv.slp I6 z) nx
          exact seg_again rfl (ih m' hm (i + 1) n s' s' H6 (by omega) w' I7 st7 n7)
        · exact .inr stp

theorem seg_g0 {A : Around} {s4 : Shared} {H4 : Hp} {genv : Env} {fp : List Addr} {pn : List (Addr × Obj)} {elt tg iter : Expr} {ifs : List Expr} {scope : Scope} {pos : Pos} {vs : List Nat} {it : Addr} {tn : Nat → Heap → Prop} {J : It} {g : TG} {tt : TT} {te : TE}
    {Go : V → Prop} {Stp : V → Hp → Prop} {Fin : Hp → Prop} {W : Nat → Nat → Hp → Prop} (hc : X.calm = true) (hpn : ∀ p ∈ pn, p.1 ∉ fp) (hco : genv.scope.isCoroutine = false)
    (T : Turn X.prog X.w X.K tg J fp it tn) (hg : PG (gex X A s4 H4 genv fp pn) tg g) (ht : PTs (gex X A s4 H4 genv fp pn) ifs tt) (he : PE (gex X A s4 H4 genv fp pn) elt te)
    (turn : GTurn J g tt te vs σ Go Stp Fin W) (m i n : Nat) (s₀ s : Shared) (H : Hp) (hmn : m < n) (w : W i m H) (I : Inv (gex X A s4 H4 genv fp pn) [] (wipe σ vs) H s) (st : tn i s.heap) (hn : ∀ b ∈ fp, H b = none) :
      Seg (model X.prog X.w) A (GRn (gex X A s4 H4 genv fp pn) Fin) (GYd (gex X A s4 H4 genv fp pn) Go Stp) n s₀
        (.compStart (.GeneratorExp elt [⟨tg, iter, ifs, 0⟩] scope pos) 0 (.ref it) .none genv)
        ((model X.prog X.w).den (.compStart (.GeneratorExp elt [⟨tg, iter, ifs, 0⟩] scope pos) 0 (.ref it) .none genv)) [] s := by
  have loop := seg_gl (iter := iter) (scope := scope) (pos := pos) (σ := σ) hc hpn hco T hg ht he turn m i n s₀ s H hmn w I st hn
  show Seg _ A _ _ _ s₀ _ ((compStart (.GeneratorExp elt [⟨tg, iter, ifs, 0⟩] scope pos) 0 (.ref it) .none genv).onRaise (leaving genv)) [] s
  unfold compStart
  rw [Sem.onRaise_eq_wrap]
  show Seg _ A _ _ _ s₀ _ ((ask >>= _).wrap _ _ _ _) [] s
  refine seg_bind_wrap (wpAny_askSetting ?_)
  split
  · exact seg_again rfl loop
  · first
      | exact seg_bind_wrap (wpAny_rule (seg_bind_wrap (wpAny_standAt (seg_bind_wrap (T.self _ i s _ _ st (seg_again rfl loop))))))
      | (refine seg_bind_wrap (wpAny_rule ?_); show Seg _ A _ _ _ s₀ _ ((standAt iter.pos >>= _).wrap _ _ _ _) [] s; exact seg_bind_wrap (wpAny_standAt (seg_bind_wrap (T.self _ i s _ _ st (seg_again rfl loop)))))

theorem Slp.set {s s' : Shared} {g : Nat} {x y : GenState} (hb : AllBare s.gens) (hx : x.bare = true) (hy : y.bare = true) : Slp s ((s.setGen g x).setGen g y) :=
  ⟨rfl, allBare_setGen (s := s.setGen g x) (allBare_setGen hb hx) hy, fun _ _ e => e⟩

theorem all_loopG {G : Cx} {A : Around} {R : Result → Shared → Prop} {a : Addr} {g : Nat} {Fin QF : Hp → Prop} (hp : G.prog = X.prog) (hw : G.w = X.w) (hh : A.handled = none) (hd : A.depth < recursionLimit)
    (hgen : ∀ pins σ H s, Inv G pins σ H s → s.heap.IsGen a g)
    (hend : ∀ pins σ H s, Inv G pins σ H s → Fin H → R (.ok (.ret (.bool true))) s) (hstp : ∀ pins σ H s, Inv G pins σ H s → QF H → R (.ok (.ret (.bool false))) s) :
    ∀ (n : Nat) (s : Shared), s.heap.IsGen a g → s.heap.NoLimit →
      (∃ gs, s.gens[g]? = some gs ∧ gs.Goes (model X.prog X.w) A.in1.in1 (GRn G Fin) (GYd G (fun y => y = .bl true) (fun y H => y = .bl false ∧ QF H)) n (.send .none) (s.setGen g .running)) →
      codeAny (model X.prog X.w) A (.builtin "all.loop" ⟨[.ref a], []⟩) R s := by
  intro n
  induction n with
  | zero =>
    intro s hg hl ⟨gs, hgs, hgo⟩
    refine codeAny_builtin F.entry_all_loop ?_
    rw [Around.under_plainId F.plain_all_loop _]
    show wpAny _ A.in1 (pyNext (.ref a) >>= _) _ _ s
    refine wpAny_bind (next_genG (A := A.in1) hh hl hd hg hgs hgo (fun v s₁ gs' hbare hv => ?_) (fun s₁ hpn h' hk => ?_) fun e s₁ he => he.elim)
    · obtain ⟨y, pins, σ', H', rv, I, ⟨ey, kap⟩ | ⟨ey, q⟩⟩ := hv
      · exact (kap _ ⟨rfl, I.bare, fun _ _ e => e⟩).elim
      · subst ey
        obtain rfl : v = .bool false := rv
        refine wpAny_bind (wpAny_holding (wpAny_truthy_bool ?_))
        refine wpAny_bind (wpAny_letGo ?_)
        simp only [Bool.false_eq_true, if_false]
        refine wpAny_bind (wpAny_rule (wpAny_pure ?_))
        exact hstp _ _ _ _ (Inv.slp I ⟨rfl, allBare_setGen I.bare hbare, fun _ _ e => e⟩) q
    · obtain ⟨σ', H', I, q⟩ := hpn
      refine wpAny_bind (wpAny_rule (wpAny_pure ?_))
      exact hend _ _ _ _ (Inv.slp I ⟨rfl, allBare_setGen I.bare rfl, hk⟩) q
  | succ n ih =>
    intro s hg hl ⟨gs, hgs, hgo⟩
    have hgl : g < s.gens.size := (Array.getElem?_eq_some_iff.mp hgs).1
    refine codeAny_builtin F.entry_all_loop ?_
    rw [Around.under_plainId F.plain_all_loop _]
    show wpAny _ A.in1 (pyNext (.ref a) >>= _) _ _ s
    refine wpAny_bind (wpAny_gsz (n := g + 1) hgl (next_genG (A := A.in1) hh hl hd hg hgs hgo (fun v s₁ gs' hbare hv => ?_) (fun s₁ hpn h' hk => ?_) fun e s₁ he => he.elim))
    · intro hsz
      obtain ⟨y, pins, σ', H', rv, I, ⟨ey, kap⟩ | ⟨ey, q⟩⟩ := hv
      · subst ey
        obtain rfl : v = .bool true := rv
        refine wpAny_bind (wpAny_holding (wpAny_truthy_bool ?_))
        refine wpAny_bind (wpAny_letGo ?_)
        simp only [if_true]
        have hsz1 : g < s₁.gens.size := by
          have q : (s₁.setGen g gs').gens.size = s₁.gens.size := setGen_size _ _ _
          have hsz' : g + 1 ≤ (s₁.setGen g gs').gens.size := hsz
          omega
        refine wpAny_pure ⟨plainId_quiet F.plain_all_loop _, ih _ ?_ ?_ ⟨gs', setGen_at hsz1, ?_⟩⟩
        · exact (show s₁.heap.IsGen a g from hgen _ _ _ _ I)
        · exact (show s₁.heap.NoLimit from I.nolimit)
        · exact kap _ ⟨rfl, allBare_setGen (s := s₁.setGen g gs') (allBare_setGen I.bare hbare) rfl, fun _ _ e => e⟩
      · subst ey
        obtain rfl : v = .bool false := rv
        refine wpAny_bind (wpAny_holding (wpAny_truthy_bool ?_))
        refine wpAny_bind (wpAny_letGo ?_)
        simp only [Bool.false_eq_true, if_false]
        refine wpAny_bind (wpAny_rule (wpAny_pure ?_))
        exact hstp _ _ _ _ (Inv.slp I ⟨rfl, allBare_setGen I.bare hbare, fun _ _ e => e⟩) q
    · intro hsz
      obtain ⟨σ', H', I, q⟩ := hpn
      refine wpAny_bind (wpAny_rule (wpAny_pure ?_))
      exact hend _ _ _ _ (Inv.slp I ⟨rfl, allBare_setGen I.bare rfl, hk⟩) q
theorem any_loopG {G : Cx} {A : Around} {R : Result → Shared → Prop} {a : Addr} {g : Nat} {Fin QF : Hp → Prop} (hp : G.prog = X.prog) (hw : G.w = X.w) (hh : A.handled = none) (hd : A.depth < recursionLimit)
    (hgen : ∀ pins σ H s, Inv G pins σ H s → s.heap.IsGen a g)
    (hend : ∀ pins σ H s, Inv G pins σ H s → Fin H → R (.ok (.ret (.bool false))) s) (hstp : ∀ pins σ H s, Inv G pins σ H s → QF H → R (.ok (.ret (.bool true))) s) :
    ∀ (n : Nat) (s : Shared), s.heap.IsGen a g → s.heap.NoLimit →
      (∃ gs, s.gens[g]? = some gs ∧ gs.Goes (model X.prog X.w) A.in1.in1 (GRn G Fin) (GYd G (fun y => y = .bl false) (fun y H => y = .bl true ∧ QF H)) n (.send .none) (s.setGen g .running)) →
      codeAny (model X.prog X.w) A (.builtin "any.loop" ⟨[.ref a], []⟩) R s := by
  intro n
  induction n with
  | zero =>
    intro s hg hl ⟨gs, hgs, hgo⟩
    refine codeAny_builtin F.entry_any_loop ?_
    rw [Around.under_plainId F.plain_any_loop _]
    show wpAny _ A.in1 (pyNext (.ref a) >>= _) _ _ s
    refine wpAny_bind (next_genG (A := A.in1) hh hl hd hg hgs hgo (fun v s₁ gs' hbare hv => ?_) (fun s₁ hpn h' hk => ?_) fun e s₁ he => he.elim)
    · obtain ⟨y, pins, σ', H', rv, I, ⟨ey, kap⟩ | ⟨ey, q⟩⟩ := hv
      · exact (kap _ ⟨rfl, I.bare, fun _ _ e => e⟩).elim
      · subst ey
        obtain rfl : v = .bool true := rv
        refine wpAny_bind (wpAny_holding (wpAny_truthy_bool ?_))
        refine wpAny_bind (wpAny_letGo ?_)
        simp only [if_true]
        refine wpAny_bind (wpAny_rule (wpAny_pure ?_))
        exact hstp _ _ _ _ (Inv.slp I ⟨rfl, allBare_setGen I.bare hbare, fun _ _ e => e⟩) q
    · obtain ⟨σ', H', I, q⟩ := hpn
      refine wpAny_bind (wpAny_rule (wpAny_pure ?_))
      exact hend _ _ _ _ (Inv.slp I ⟨rfl, allBare_setGen I.bare rfl, hk⟩) q
  | succ n ih =>
    intro s hg hl ⟨gs, hgs, hgo⟩
    have hgl : g < s.gens.size := (Array.getElem?_eq_some_iff.mp hgs).1
    refine codeAny_builtin F.entry_any_loop ?_
    rw [Around.under_plainId F.plain_any_loop _]
    show wpAny _ A.in1 (pyNext (.ref a) >>= _) _ _ s
    refine wpAny_bind (wpAny_gsz (n := g + 1) hgl (next_genG (A := A.in1) hh hl hd hg hgs hgo (fun v s₁ gs' hbare hv => ?_) (fun s₁ hpn h' hk => ?_) fun e s₁ he => he.elim))
    · intro hsz
      obtain ⟨y, pins, σ', H', rv, I, ⟨ey, kap⟩ | ⟨ey, q⟩⟩ := hv
      · subst ey
        obtain rfl : v = .bool false := rv
        refine wpAny_bind (wpAny_holding (wpAny_truthy_bool ?_))
        refine wpAny_bind (wpAny_letGo ?_)
        simp only [Bool.false_eq_true, if_false]
        have hsz1 : g < s₁.gens.size := by
          have q : (s₁.setGen g gs').gens.size = s₁.gens.size := setGen_size _ _ _
          have hsz' : g + 1 ≤ (s₁.setGen g gs').gens.size := hsz
          omega
        refine wpAny_pure ⟨plainId_quiet F.plain_any_loop _, ih _ ?_ ?_ ⟨gs', setGen_at hsz1, ?_⟩⟩
        · exact (show s₁.heap.IsGen a g from hgen _ _ _ _ I)
        · exact (show s₁.heap.NoLimit from I.nolimit)
        · exact kap _ ⟨rfl, allBare_setGen (s := s₁.setGen g gs') (allBare_setGen I.bare hbare) rfl, fun _ _ e => e⟩
      · subst ey
        obtain rfl : v = .bool true := rv
        refine wpAny_bind (wpAny_holding (wpAny_truthy_bool ?_))
        refine wpAny_bind (wpAny_letGo ?_)
        simp only [if_true]
        refine wpAny_bind (wpAny_rule (wpAny_pure ?_))
        exact hstp _ _ _ _ (Inv.slp I ⟨rfl, allBare_setGen I.bare hbare, fun _ _ e => e⟩) q
    · intro hsz
      obtain ⟨σ', H', I, q⟩ := hpn
      refine wpAny_bind (wpAny_rule (wpAny_pure ?_))
      exact hend _ _ _ _ (Inv.slp I ⟨rfl, allBare_setGen I.bare rfl, hk⟩) q

/-- the generator g over the source, not begun, in the state s5; G: its context -/
def Made (X : Cx) (pins : List (Addr × Obj)) (σ : L2.St) (elt tg : Expr) (A : Around) (P : Addr) (H1 : Hp) (Go : V → Prop) (Stp : V → Hp → Prop) (Fin : Hp → Prop) (a : Addr) (s5 : Shared) : Prop :=
  ∃ (G : Cx) (g n : Nat) (gs : GenState), G.prog = X.prog ∧ G.w = X.w ∧ (∀ pins σ H s, Inv G pins σ H s → s.heap.IsGen a g) ∧ s5.heap.IsGen a g ∧ s5.heap.NoLimit ∧ s5.gens[g]? = some gs ∧
    gs.Goes (model X.prog X.w) A (GRn G Fin) (GYd G Go Stp) n (.send .none) (s5.setGen g .running) ∧
    ∀ pins' σ' H' s', Inv G pins' σ' H' s' → Inv X pins σ H' s'

/-- how the source, the turn are read -/
abbrev PGn (X : Cx) (A : Around) (scope : Scope) (tg : Expr) (g : TG) : Prop := ∀ (s : Shared) (H : Hp) (C : Addr) (code : Value) (cl : List (Str × Addr)) (fp : List Addr) (pn : List (Addr × Obj)), PG (gex X A s H (genEnv scope cl C code builtinsNs X.env) fp pn) tg g
abbrev PTn (X : Cx) (A : Around) (scope : Scope) (ifs : List Expr) (t : TT) : Prop := ∀ (s : Shared) (H : Hp) (C : Addr) (code : Value) (cl : List (Str × Addr)) (fp : List Addr) (pn : List (Addr × Obj)), PTs (gex X A s H (genEnv scope cl C code builtinsNs X.env) fp pn) ifs t
abbrev PEn (X : Cx) (A : Around) (scope : Scope) (elt : Expr) (t : TE) : Prop := ∀ (s : Shared) (H : Hp) (C : Addr) (code : Value) (cl : List (Str × Addr)) (fp : List Addr) (pn : List (Addr × Obj)), PE (gex X A s H (genEnv scope cl C code builtinsNs X.env) fp pn) elt t

theorem gen_any {c P : Addr} {elt tg iter : Expr} {ifs : List Expr} {gpos : Pos} {scope : Scope} {own : List (Str × Nat)} {wi : TI} {g : TG} {tt : TT} {te : TE} {k : Nat} {A : Around} {Q' : Value → Shared → Prop} {Go : V → Prop} {Stp : V → Hp → Prop} {Fin : Hp → Prop}
    (hc : X.calm = true) (hN : X.N.Nodup) (hr : Room k X.A) (hA : A.handled = none) (hfr : A.frames = some X.stack) (TB : GxR.TabB X.base X.mg c P) (hcode : X.env.code = .ref c) (ok : BlkOk X.N X.env.scope scope own)
    (hcell : ∀ y ∈ scope.names, y.2 ≠ .cell) (h0 : scope.names.lookup (".0" : Str) = some NameKind.local) (hco : scope.isCoroutine = false)
    (hi : PI X tg iter wi) (hg : PGn X A scope tg g) (ht : PTn X A scope ifs tt) (he : PEn X A scope elt te) (hs : ∀ v, genFold iter X.env v = pure v) (I : Inv X pins σ H s)
    (h : wi σ H fun J H1 => GxR.TabG H1 P ∧ ∀ H2, GxR.Tabbed P H1 H2 → ∃ W : Nat → Nat → Hp → Prop, (∃ m, W 0 m H2) ∧ GTurn J g tt te (own.map (·.2)) σ Go Stp Fin W)
    (hQ : ∀ a s5, Made X pins σ elt tg A P H Go Stp Fin a s5 → Q' (.ref a) s5) :
    wpAny (model X.prog X.w) X.A (eval (.GeneratorExp elt [⟨tg, iter, ifs, 0⟩] scope gpos) X.env) Q' X.xe s := by
  have hfree : ∀ y ∈ scope.names, y.2 = .free → ∃ c, X.env.cells.lookup y.1 = some c := fun y hy e => by
    rcases ok.free y hy e with k | k
    · exact I.ok.has _ (.inl k)
    · exact I.ok.has _ (.inr k)
  refine wpAny_GeneratorExp_make hco (closure_ok hfree) hcell h0 ok.kind (by have := hr.dp; omega) ?_ hs
  refine thn (hi.run pins s σ H _ I h) fun xv s1 hx => thn hx fun itv s2 h2 => ?_
  obtain ⟨it, fp, tn, J, H1, e, I2, T, st2, f2, ⟨ps, hP, htr⟩, q⟩ := h2
  subst e
  refine ⟨I2.nolimit, ?_⟩
  have hPs : s2.heap.get? P = some { cls := .none, data := .fields ps } := I2.hok P _ hP
  have cd : PySem.W.CodeHd s2.heap c P := TB.code.keeps fun b u e => I2.bk b u e
  have Pfp : P ∉ fp := fun hb => by
    have := (f2 P hb).1
    rw [hP] at this; cases this
  have cont : ∀ (code : Value) (h3 : Heap) (tk : Nat) (ps' : Array Value), Heap.ExtBut P s2.heap h3 → h3.get? P = some { cls := .none, data := .fields ps' } → (∃ more, ps' = ps ++ more) → TriplesOk ps'.toList →
      wpAny (model X.prog X.w) X.A (builtinsFor X.env.globals X.env.builtins) (fun bi s₄ =>
        ∀ h', h'.Ns s₄.heap.objs.size (fun y => if y = ".0" then some (.ref it) else none) → Heap.SameBut s₄.heap.objs.size (s₄.heap.push { cls := .type "frame", data := .dict #[] }) h' →
          Q' (.ref h'.objs.size) { s₄ with
            gens := s₄.gens.push (.fresh (.compStart (.GeneratorExp elt [⟨tg, iter, ifs, 0⟩] scope gpos) 0 (.ref it) .none (genEnv scope (cloFrom X.env.cells scope.names []) s₄.heap.objs.size code bi X.env))),
            toks := s₄.toks + 1 + 1 + 1,
            heap := h'.push { cls := .type "generator", data := .fields #[.int s₄.gens.size 0, .str "<genexpr>" (s₄.toks + 1), .str (X.env.qual ++ "<genexpr>") (s₄.toks + 1 + 1)] } }) X.xe { s2 with heap := h3, toks := tk } := by
    intro code h3 tk ps' hx hP3 hmore ht3
    obtain ⟨bm, ob, e1, e2, e3, e4, e5, e6, e7, e8⟩ := TB.bm
    have keep3 : ∀ b u, b ≠ P → s2.heap.get? b = some u → h3.get? b = some u := fun b u hb e => hx b u hb e
    refine wpAny_builtinsFor (m := X.mg) (by rw [I2.ok.glob]; exact (I2.mod.glob.keeps I2.bk).extBut hx TB.gP) e1 e2 (keep3 _ _ e4 (I2.bk _ _ e5)) e6 e7 e8 ?_
    obtain ⟨more, em⟩ := hmore
    have I3 : Inv X pins σ (upd H1 P (.tbl (ps ++ more))) { s2 with heap := h3, gens := s2.gens, drawn := s2.drawn, toks := tk } :=
      GxR.inv_tab (more := more) I2 hP keep3 (by rw [← em]; exact hP3) I2.bare
    have hTab : GxR.Tabbed P H1 (upd H1 P (.tbl (ps ++ more))) := ⟨⟨ps ++ more, upd_same, by rw [← em]; exact ht3⟩, fun b hb => upd_ne hb⟩
    obtain ⟨W, ⟨m0, w0⟩, turn⟩ := q _ hTab
    generalize hH3 : upd H1 P (.tbl (ps ++ more)) = H3 at I3 w0 hTab
    have I3 : Inv X pins σ H3 { s2 with heap := h3, toks := tk } := I3
    generalize hs3 : ({ s2 with heap := h3, toks := tk } : Shared) = s4 at I3 ⊢
    have h4 : s4.heap = h3 := by rw [← hs3]
    have fpn : ∀ b ∈ fp, H3 b = none := fun b hb => by rw [hTab.2 b fun z => Pfp (z ▸ hb)]; exact (f2 b hb).1
    have st4 : tn 0 s4.heap := T.keep _ _ _ st2 fun b hb o e => by rw [h4]; exact keep3 b o (fun z => Pfp (z ▸ hb)) e
    have f4 : ∀ b ∈ fp, FpOk X pins H3 b ∧ b < s4.heap.objs.size := fun b hb => by
      obtain ⟨o, e, _⟩ := T.obj _ _ st4 b hb
      exact ⟨⟨fpn b hb, (f2 b hb).2⟩, Heap.lt_size e⟩
    intro h' hn' hsb
    have hsz : h'.objs.size = s4.heap.objs.size + 1 := by rw [hsb.1, Heap.size_push]
    have keep' : ∀ b o, s4.heap.get? b = some o → h'.get? b = some o := fun b o e => hsb.extBut b o (Nat.ne_of_lt (Heap.lt_size e)) (Heap.get?_push_of_some _ e)
    generalize hgo : ({ cls := .type "generator", data := .fields #[.int s4.gens.size 0, .str "<genexpr>" (s4.toks + 1), .str (X.env.qual ++ "<genexpr>") (s4.toks + 1 + 1)] } : Obj) = go
    have hgen : ∀ h : Heap, h.get? h'.objs.size = some go → h.IsGen h'.objs.size s4.gens.size := fun h e => ⟨go, _, _, e, by rw [← hgo], by rw [← hgo], by rw [← hgo]⟩
    have hpush : (h'.push go).get? h'.objs.size = some go := by rw [← hgo]; exact Heap.get?_push_size _ rfl
    have gnc : ∀ v, go.data ≠ .cell v := fun v z => by rw [← hgo] at z; cases z
    have alt : s4.heap.objs.size < h'.objs.size := by rw [hsz]; exact Nat.lt_succ_self _
    have IG := gen_start (A := A) (code := code) (g5 := (s4.gens.push (.fresh (.compStart (.GeneratorExp elt [⟨tg, iter, ifs, 0⟩] scope gpos) 0 (.ref it) .none (genEnv scope (cloFrom X.env.cells scope.names []) s4.heap.objs.size code builtinsNs X.env)))).setIfInBounds s4.gens.size .running) (t5 := s4.toks + 1 + 1 + 1) I3 ok hcell hN hA hfr f4 hn' keep'
      (fun b o e => Heap.get?_push_of_some go e) alt hpush gnc (allBare_setGen (s := { s4 with gens := s4.gens.push _ }) (AllBare.push I3.bare rfl) rfl)
    refine hQ _ _ ⟨gex X A s4 H3 (genEnv scope (cloFrom X.env.cells scope.names []) s4.heap.objs.size code builtinsNs X.env) fp [(h'.objs.size, go)], s4.gens.size, m0 + 1, _, rfl, rfl, fun pins' σ' H' s' I' => hgen _ (I'.pin (h'.objs.size, go) (List.mem_append_left _ List.mem_cons_self)).1, hgen _ hpush,
      (I3.nolimit.keeps fun b o e => Heap.get?_push_of_some _ (keep' b o e)), Array.getElem?_push_size .., ⟨rfl, ?_⟩, fun pins' σ' H' s' I' => ?_⟩
    · refine seg_g0 (σ := σ) hc (fun p hp z => ?_) hco T (hg _ _ _ _ _ _ _) (ht _ _ _ _ _ _ _) (he _ _ _ _ _ _ _) turn m0 0 (m0 + 1) _ _ H3 (Nat.lt_succ_self _) w0 IG (T.keep _ _ _ st4 fun b _ o e => Heap.get?_push_of_some _ (keep' b o e)) fpn
      have e : p = (h'.objs.size, go) := by simpa using hp
      rw [e] at z
      exact absurd (Nat.lt_trans (f4 _ z).2 alt) (Nat.lt_irrefl _)
    · exact I3.call' (ch := fp) I'.os I'.base I'.hok I'.bare fun b hb => ⟨(f4 b hb).1.2.2.2.1, (f4 b hb).1.2.1, (f4 b hb).1.2.2.2.2.1, (f4 b hb).1.2.2.2.2.2⟩
  cases hf : codeAmong gpos ps.toList with
  | none =>
    refine wpAny_genexprCodeX hcode (cd.code hPs htr) (cd.tab hPs) hf fun c' h' tk hx hge hlt hco' _ htab' _ => ?_
    obtain ⟨o1, vs, f1, tf, fl, tg, inF, tx, tt, op, _, _, _, _, _, _, _, _, _, htr', _⟩ := hco'
    exact cont _ h' tk _ hx htab'.2 ⟨_, rfl⟩ htr'
  | some cv =>
    refine wpAny_genexprCode_hit hcode (cd.code hPs htr) hf ?_
    exact cont cv s2.heap s2.toks ps (Heap.ExtBut.refl _ _) hPs ⟨#[], by simp⟩ htr

/-- all(elt for target in iter if ..), any(..) -/
def tAllG (P : Addr) (wi : TI) (g : TG) (tt : TT) (te : TE) (vs : List Nat) : TE := fun σ H Q => wi σ H fun J H1 => GxR.TabG H1 P ∧ ∀ H2, GxR.Tabbed P H1 H2 → ∃ W : Nat → Nat → Hp → Prop, (∃ m, W 0 m H2) ∧
  GTurn J g tt te vs σ (fun y => y = .bl true) (fun y H => y = .bl false ∧ Q (.bl false) H) (fun H => Q (.bl true) H) W
def tAnyG (P : Addr) (wi : TI) (g : TG) (tt : TT) (te : TE) (vs : List Nat) : TE := fun σ H Q => wi σ H fun J H1 => GxR.TabG H1 P ∧ ∀ H2, GxR.Tabbed P H1 H2 → ∃ W : Nat → Nat → Hp → Prop, (∃ m, W 0 m H2) ∧
  GTurn J g tt te vs σ (fun y => y = .bl false) (fun y H => y = .bl true ∧ Q (.bl true) H) (fun H => Q (.bl false) H) W
/-- the around of the element -/
abbrev gA (X : Cx) : Around := X.A.in1.in1
theorem pe_allG {c P : Addr} {elt tg iter : Expr} {ifs : List Expr} {p pos gpos : Pos} {scope : Scope} {own : List (Str × Nat)} {wi : TI} {g : TG} {tt : TT} {te : TE} {k : Nat}
    (hc : X.calm = true) (hN : X.N.Nodup) (hr : Room k X.A) (hgl : Gl X "all") (hm : X.mg "all" = none) (hb : bootBuiltins "all" = some (.builtin "all")) (TB : GxR.TabB X.base X.mg c P) (hcode : X.env.code = .ref c) (ok : BlkOk X.N X.env.scope scope own)
    (hcell : ∀ y ∈ scope.names, y.2 ≠ .cell) (h0 : scope.names.lookup (".0" : Str) = some NameKind.local) (hco : scope.isCoroutine = false)
    (hi : PI X tg iter wi) (hg : PGn X (gA X) scope tg g) (ht : PTn X (gA X) scope ifs tt) (he : PEn X (gA X) scope elt te) (hs : ∀ v, genFold iter X.env v = pure v)
    (hse : starEach [.GeneratorExp elt [⟨tg, iter, ifs, 0⟩] scope gpos] X.env = (false, eval (.GeneratorExp elt [⟨tg, iter, ifs, 0⟩] scope gpos) X.env) :: starEach [] X.env := by rfl) :
    PE X (.Call (.Name "all" p) [.GeneratorExp elt [⟨tg, iter, ifs, 0⟩] scope gpos] [] pos) (tAllG P wi g tt te (own.map (·.2))) := by
  refine ⟨fun pins s σ H Q I h => ?_⟩
  have hd : X.A.handled = none := I.ok.hd hc
  refine wpAny_Call_Name_kw (ld_blt I hgl hm hb ?_)
  refine PyProof.Rows.callWith_builtin1 ?_ hse (by rfl)
  rw [hse]
  show wpAny _ _ (spliced ((false, eval (.GeneratorExp elt [⟨tg, iter, ifs, 0⟩] scope gpos) X.env) :: backTo pos (starEach [] X.env))) _ _ s
  refine Calls.spliced_cons (gen_any (pins := pins) (A := gA X) hc hN hr hd I.ok.frames TB hcode ok hcell h0 hco hi hg ht he hs I h fun a s5 ⟨G, g, n, gs, hp, hw, hgen, hg5, hl5, hgs, hgo, hback⟩ => ?_)
  refine Calls.spliced_nil ?_
  refine call_function_tree F.kind_all F.plain_all F.entry_all (F.args_all1 _) ?_
  unfold Builtin.«all»
  refine wpAny_bind (m := oneArg "all" _) (wpAny_pure ?_)
  refine wpAny_bind (wpAny_pyIter_gen hg5 ?_)
  refine wpAny_pure ⟨plainId_quiet F.plain_all_loop _, all_loopG (G := G) (A := X.A) hp hw hd (by have := hr.dp; show X.A.depth < _; omega) hgen (fun pins' σ' H' s' I' q => ?_) (fun pins' σ' H' s' I' q => ?_) n s5 hg5 hl5 ⟨gs, hgs, hgo⟩⟩
  · exact ⟨.bl true, H', hback _ _ _ _ I', rfl, q⟩
  · exact ⟨.bl false, H', hback _ _ _ _ I', rfl, q⟩
theorem pe_anyG {c P : Addr} {elt tg iter : Expr} {ifs : List Expr} {p pos gpos : Pos} {scope : Scope} {own : List (Str × Nat)} {wi : TI} {g : TG} {tt : TT} {te : TE} {k : Nat}
    (hc : X.calm = true) (hN : X.N.Nodup) (hr : Room k X.A) (hgl : Gl X "any") (hm : X.mg "any" = none) (TB : GxR.TabB X.base X.mg c P) (hcode : X.env.code = .ref c) (ok : BlkOk X.N X.env.scope scope own)
    (hcell : ∀ y ∈ scope.names, y.2 ≠ .cell) (h0 : scope.names.lookup (".0" : Str) = some NameKind.local) (hco : scope.isCoroutine = false)
    (hi : PI X tg iter wi) (hg : PGn X (gA X) scope tg g) (ht : PTn X (gA X) scope ifs tt) (he : PEn X (gA X) scope elt te) (hs : ∀ v, genFold iter X.env v = pure v)
    (hse : starEach [.GeneratorExp elt [⟨tg, iter, ifs, 0⟩] scope gpos] X.env = (false, eval (.GeneratorExp elt [⟨tg, iter, ifs, 0⟩] scope gpos) X.env) :: starEach [] X.env := by rfl) :
    PE X (.Call (.Name "any" p) [.GeneratorExp elt [⟨tg, iter, ifs, 0⟩] scope gpos] [] pos) (tAnyG P wi g tt te (own.map (·.2))) := by
  refine ⟨fun pins s σ H Q I h => ?_⟩
  have hd : X.A.handled = none := I.ok.hd hc
  refine wpAny_Call_Name_kw (ld_blt I hgl hm boot_any ?_)
  refine PyProof.Rows.callWith_builtin1 ?_ hse (by rfl)
  rw [hse]
  show wpAny _ _ (spliced ((false, eval (.GeneratorExp elt [⟨tg, iter, ifs, 0⟩] scope gpos) X.env) :: backTo pos (starEach [] X.env))) _ _ s
  refine Calls.spliced_cons (gen_any (pins := pins) (A := gA X) hc hN hr hd I.ok.frames TB hcode ok hcell h0 hco hi hg ht he hs I h fun a s5 ⟨G, g, n, gs, hp, hw, hgen, hg5, hl5, hgs, hgo, hback⟩ => ?_)
  refine Calls.spliced_nil ?_
  refine call_function_tree F.kind_any F.plain_any F.entry_any (F.args_any1 _) ?_
  unfold Builtin.«any»
  refine wpAny_bind (m := oneArg "any" _) (wpAny_pure ?_)
  refine wpAny_bind (wpAny_pyIter_gen hg5 ?_)
  refine wpAny_pure ⟨plainId_quiet F.plain_any_loop _, any_loopG (G := G) (A := X.A) hp hw hd (by have := hr.dp; show X.A.depth < _; omega) hgen (fun pins' σ' H' s' I' q => ?_) (fun pins' σ' H' s' I' q => ?_) n s5 hg5 hl5 ⟨gs, hgs, hgo⟩⟩
  · exact ⟨.bl false, H', hback _ _ _ _ I', rfl, q⟩
  · exact ⟨.bl true, H', hback _ _ _ _ I', rfl, q⟩
theorem room_gA {k : Nat} (r : Room (k + 1) X.A) (env : Env) : Room k ((gA X).deeper env) :=
  ⟨r.hd, by have := r.dp; show X.A.depth + 1 + 3 * k + 5 < _; omega, by have := r.un; show X.A.units + 1 + 1 + 3 + 16 * k + 200 < _; omega⟩

theorem gt_range {lo : Int} {n : Nat} {g : TG} {tt : TT} {te : TE} {vs : List Nat} {σ : L2.St} {H1 : Hp} {Go : V → Prop} {Stp : V → Hp → Prop} {Fin : Hp → Prop} (Pv : Nat → Hp → Prop) (h0 : Pv 0 H1)
    (hs : ∀ i H, i < n → Pv i H → g (.int (lo + i)) (wipe σ vs) H fun σ2 H2 => wipe σ2 vs = wipe σ vs ∧ tt σ2 H2 fun b H3 =>
      if b = true then te σ2 H3 fun y H4 => (Go y ∧ Pv (i + 1) H4) ∨ Stp y H4 else Pv (i + 1) H3) (hd : ∀ H, Pv (n) H → Fin H) :
    ∃ W : Nat → Nat → Hp → Prop, (∃ m, W 0 m H1) ∧ GTurn (Itr lo n) g tt te vs σ Go Stp Fin W := by
  refine ⟨fun i m H => m = n - i ∧ i ≤ n ∧ Pv i H, ⟨n, by simp, Nat.zero_le _, h0⟩, ?_⟩
  rintro i m H ⟨rfl, hi, p⟩
  by_cases hlt : i < n
  · refine .inr ⟨hlt, Pv (i + 1), fun H' p' => ⟨n - (i + 1), by omega, rfl, hlt, p'⟩, fun x H' y => ?_⟩
    obtain ⟨e, y⟩ := y
    subst e
    subst y
    exact hs i _ hlt p
  · have e : i = n := by omega
    subst e
    exact .inl ⟨Nat.le_refl _, hd _ p⟩

theorem gt_list {K : PySem.W.Frag} {a : Addr} {xs : List V} {g : TG} {tt : TT} {te : TE} {vs : List Nat} {σ : L2.St} {H1 : Hp} {Go : V → Prop} {Stp : V → Hp → Prop} {Fin : Hp → Prop} (Pv : Nat → Hp → Prop) (h0 : Pv 0 H1) (hl : ∀ i H, i ≤ xs.length → Pv i H → SqL K H a xs)
    (hs : ∀ i x H, xs[i]? = some x → Pv i H → g x (wipe σ vs) H fun σ2 H2 => wipe σ2 vs = wipe σ vs ∧ tt σ2 H2 fun b H3 =>
      if b = true then te σ2 H3 fun y H4 => (Go y ∧ Pv (i + 1) H4) ∨ Stp y H4 else Pv (i + 1) H3) (hd : ∀ H, Pv (xs.length) H → Fin H) :
    ∃ W : Nat → Nat → Hp → Prop, (∃ m, W 0 m H1) ∧ GTurn (Itl K a) g tt te vs σ Go Stp Fin W := by
  refine ⟨fun i m H => m = xs.length - i ∧ i ≤ xs.length ∧ Pv i H, ⟨xs.length, by simp, Nat.zero_le _, h0⟩, ?_⟩
  rintro i m H ⟨rfl, hi, p⟩
  by_cases hlt : i < xs.length
  · have q := hl i H hi p
    refine .inr ⟨⟨xs, xs[i], q, by simp [hlt]⟩, Pv (i + 1), fun H' p' => ⟨xs.length - (i + 1), by omega, rfl, hlt, p'⟩, fun x H' y => ?_⟩
    obtain ⟨e, y⟩ := y
    subst e
    exact hs i x _ (y xs q) p
  · have q := hl i H hi p
    have e : i = xs.length := by omega
    subst e
    exact .inl ⟨⟨xs, q, Nat.le_refl _⟩, hd _ p⟩

theorem gt_tup {K : PySem.W.Frag} {a : Addr} {xs : List V} {g : TG} {tt : TT} {te : TE} {vs : List Nat} {σ : L2.St} {H1 : Hp} {Go : V → Prop} {Stp : V → Hp → Prop} {Fin : Hp → Prop} (Pv : Nat → Hp → Prop) (h0 : Pv 0 H1) (hl : ∀ i H, i ≤ xs.length → Pv i H → SqT K H a xs)
    (hs : ∀ i x H, xs[i]? = some x → Pv i H → g x (wipe σ vs) H fun σ2 H2 => wipe σ2 vs = wipe σ vs ∧ tt σ2 H2 fun b H3 =>
      if b = true then te σ2 H3 fun y H4 => (Go y ∧ Pv (i + 1) H4) ∨ Stp y H4 else Pv (i + 1) H3) (hd : ∀ H, Pv (xs.length) H → Fin H) :
    ∃ W : Nat → Nat → Hp → Prop, (∃ m, W 0 m H1) ∧ GTurn (Itt K a) g tt te vs σ Go Stp Fin W := by
  refine ⟨fun i m H => m = xs.length - i ∧ i ≤ xs.length ∧ Pv i H, ⟨xs.length, by simp, Nat.zero_le _, h0⟩, ?_⟩
  rintro i m H ⟨rfl, hi, p⟩
  by_cases hlt : i < xs.length
  · have q := hl i H hi p
    refine .inr ⟨⟨xs, xs[i], q, by simp [hlt]⟩, Pv (i + 1), fun H' p' => ⟨xs.length - (i + 1), by omega, rfl, hlt, p'⟩, fun x H' y => ?_⟩
    obtain ⟨e, y⟩ := y
    subst e
    exact hs i x _ (y xs q) p
  · have q := hl i H hi p
    have e : i = xs.length := by omega
    subst e
    exact .inl ⟨⟨xs, q, Nat.le_refl _⟩, hd _ p⟩

theorem gt_str {a : Str} {g : TG} {tt : TT} {te : TE} {vs : List Nat} {σ : L2.St} {H1 : Hp} {Go : V → Prop} {Stp : V → Hp → Prop} {Fin : Hp → Prop} (Pv : Nat → Hp → Prop) (h0 : Pv 0 H1)
    (hs : ∀ i c H, a.cps[i]? = some c → Pv i H → g (.str ⟨#[c]⟩) (wipe σ vs) H fun σ2 H2 => wipe σ2 vs = wipe σ vs ∧ tt σ2 H2 fun b H3 =>
      if b = true then te σ2 H3 fun y H4 => (Go y ∧ Pv (i + 1) H4) ∨ Stp y H4 else Pv (i + 1) H3) (hd : ∀ H, Pv (a.cps.size) H → Fin H) :
    ∃ W : Nat → Nat → Hp → Prop, (∃ m, W 0 m H1) ∧ GTurn (Its a) g tt te vs σ Go Stp Fin W := by
  refine ⟨fun i m H => m = a.cps.size - i ∧ i ≤ a.cps.size ∧ Pv i H, ⟨a.cps.size, by simp, Nat.zero_le _, h0⟩, ?_⟩
  rintro i m H ⟨rfl, hi, p⟩
  by_cases hlt : i < a.cps.size
  · refine .inr ⟨hlt, Pv (i + 1), fun H' p' => ⟨a.cps.size - (i + 1), by omega, rfl, hlt, p'⟩, fun x H' y => ?_⟩
    obtain ⟨e, c, hc, y⟩ := y
    subst e
    subst y
    exact hs i c _ hc p
  · have e : i = a.cps.size := by omega
    subst e
    exact .inl ⟨Nat.le_refl _, hd _ p⟩
end
end GG

set_option Elab.async false
set_option maxRecDepth 100000
set_option maxHeartbeats 2000000
/-! ExtE: for i, x in enumerate(t), t a tuple (HandS.Iter's rule for lists, turned to tuples) -/
namespace GN
open PySem PySem.Spec PyProof.Rows L2
open AutoSeq1 (wpAny_loadPart')
theorem meetsT (a : Addr) (xs : Array Value) (k : Nat) (dc : Option Addr) (sl : Array (Option Value)) :
    Meets (Builtin.«enumerate.__new__» ⟨[.type "enumerate", .ref a], []⟩) (fun _ R s => s.heap.get? a = some { cls := .type "tuple", dict := dc, data := .seq xs k, slots := sl } ∧
      R (.ok (.ret (.ref (s.heap.push { cls := .type "tuple_iterator", data := .fields #[.ref a, .int 0 0] }).objs.size)))
        { s with heap := (s.heap.push { cls := .type "tuple_iterator", data := .fields #[.ref a, .int 0 0] }).push { cls := .type "enumerate", data := .fields #[.none, .bool false, .ref s.heap.objs.size, rawInt 0, .none, .none] } }) :=
  .of_wp fun prog w A R s z => by
    obtain ⟨hp, gn, dr, tk, os⟩ := s
    obtain ⟨ha, z⟩ := z
    have isE := sub_enumerate
    have isT : Heap.IsTuple (Shared.heap ⟨hp, gn, dr, tk, os⟩) a xs := ⟨_, ha, rfl, k, rfl⟩
    wp_walk using wpAny_loadPart' ha
    refine wpAny_stack_any fun _ => wpAny_pure ?_
    split
    · rename_i cl _ _ _ _ _
      cases (cl == Value.type "enumerate") <;> (wp_walk using wpAny_loadPart' ha, wpAny_pyIter_tuple isT; exact ⟨_, rfl, z⟩)
    · wp_walk using wpAny_loadPart' ha, wpAny_pyIter_tuple isT
      exact ⟨_, rfl, z⟩
theorem callT {prog : Program} {w : World} {A : Around} {E : Value → Shared → Prop} {s : Shared} {a : Addr} {xs : Array Value} {Q : Value → Shared → Prop} (isT : s.heap.IsTuple a xs)
    (q : ∀ h', IsEnum h' (s.heap.objs.size + 1) s.heap.objs.size 0 .none → h'.IsTupleIter s.heap.objs.size a 0 → h'.objs.size = s.heap.objs.size + 2 → (∀ b o, s.heap.get? b = some o → h'.get? b = some o) → Q (.ref (s.heap.objs.size + 1)) { s with heap := h' }) :
    wpAny (model prog w) A (call (.type "enumerate") [.ref a]) Q E s := by
  obtain ⟨⟨cl, dc, dt, sl⟩, ha, hc, k, hd⟩ := isT
  obtain rfl : cl = .type "tuple" := hc
  obtain rfl : dt = .seq xs k := hd
  refine callType_new F.called_enumerate (by decide) (F.typeCall_enumerate_1 _) (F.newCall_enumerate_1 _) (fun ob => F.args_object_init_2 ob _) F.entry_enumerate_new (meetsT a xs k dc sl) ⟨ha, ?_⟩
  have sz : (s.heap.push { cls := .type "tuple_iterator", data := .fields #[.ref a, .int 0 0] }).objs.size = s.heap.objs.size + 1 := Heap.size_push ..
  show _ ∧ _
  rw [sz]
  have en : IsEnum ((s.heap.push { cls := .type "tuple_iterator", data := .fields #[.ref a, .int 0 0] }).push { cls := .type "enumerate", data := .fields #[.none, .bool false, .ref s.heap.objs.size, rawInt 0, .none, .none] }) (s.heap.objs.size + 1) s.heap.objs.size 0 .none := by
    have e := Heap.get?_push_size (s.heap.push { cls := .type "tuple_iterator", data := .fields #[.ref a, .int 0 0] }) (o := { cls := .type "enumerate", data := .fields #[.none, .bool false, .ref s.heap.objs.size, rawInt 0, .none, .none] }) rfl
    rw [sz] at e
    exact e
  exact ⟨⟨_, en, rfl⟩, q _ en ⟨_, Heap.get?_push_of_some _ (Heap.get?_push_size _ rfl), rfl, rfl⟩ (by rw [Heap.size_push, sz]) fun b o x => Heap.get?_push_of_some _ (Heap.get?_push_of_some _ x)⟩
theorem endT {prog : Program} {w : World} {A : Around} {E : Value → Shared → Prop} {s : Shared} {e it a : Addr} {i : Nat} {xs : Array Value} {old : Value} {Q : Option Value → Shared → Prop} (hh : A.handled = none) (he : IsEnum s.heap e it i old) (hit : s.heap.IsTupleIter it a i) (ha : s.heap.IsTuple a xs)
    (hx : xs[i]? = none) (q : ∀ h', Heap.ExtBut it s.heap h' → Q none { s with heap := h' }) : wpAny (model prog w) A (pyNext (.ref e)) Q E s := by
  have ty : s.TypeIs (.ref e) "enumerate" := ⟨_, he, rfl⟩
  unfold pyNext
  refine wpAny_bind (wpAny_attempt (wpAny_callSpecial?_slot (name := Str.ofString "__next__") ty F.slot_enumerate_next (wpAny_call_entry F.slot_enumerate_next ty F.entry_enumerate_next ?_ (F.args_enumerate_next_1 _))))
  show wpAny _ _ (field (.ref e) 2 >>= _) _ _ s
  refine wpAny_bind (wpAny_field he rfl (x := .ref it) rfl (wpAny_bind (wpAny_nextOf_tuple_end hh hit ha hx fun h' x k ⟨o, ho, hc⟩ => ?_)))
  exact wpAny_bind (wpAny_isInstance (T := "StopIteration") (b := true) ⟨o, ho, hc⟩ isSubtype_stop (wpAny_pure (q _ k)))
/-- the tuple at a as it stands at each turn, each item in a new pair -/
def IteT (K : PySem.W.Frag) (a : Addr) : It :=
  ⟨fun i H => ∃ (xs : List V) (x : V), SqT K H a xs ∧ xs[i]? = some x, fun i H v H' => ∃ T x, v = .ref T ∧ H T = none ∧ H' = upd H T (.tup [.int (i : Nat), x]) ∧ ∀ xs, SqT K H a xs → xs[i]? = some x, fun i H => ∃ xs : List V, SqT K H a xs ∧ xs.length ≤ i⟩
theorem turnT {P : Program} {w : World} {K : PySem.W.Frag} {elts : List Expr} {kk : Nat} {tpos : Pos} (a e it : Addr) :
    Turn P w K (.Tuple elts kk tpos) (IteT K a) [e, it] e (fun i h => (∃ old, IsEnum h e it ((i : Nat) : Int) old) ∧ h.IsTupleIter it a i ∧ e ≠ it ∧ a ≠ it ∧ a ≠ e) where
  mem := List.mem_cons_self
  obj := fun i h st b hb => by
    obtain ⟨⟨old, he⟩, ⟨o, ho, hc, hd⟩, _⟩ := st
    rcases List.mem_cons.mp hb with z | z
    · rw [z]; exact ⟨_, he, fun v q => nomatch q⟩
    · rw [List.mem_singleton.mp z]; exact ⟨o, ho, fun v q => by rw [hd] at q; cases q⟩
  keep := fun i h h' st k => let ⟨⟨old, he⟩, hi, hne⟩ := st; ⟨⟨old, k e List.mem_cons_self _ he⟩, hi.at fun o q => k it (by simp) o q, hne⟩
  item := by
    intro X hP hw hK hc i pins s σ H E I hf st hg
    subst hP hw hK
    obtain ⟨⟨old, he⟩, hit, hne, ha1, ha2⟩ := st
    obtain ⟨xs, x, hq, hx⟩ := hg
    obtain ⟨its, rv, p, _⟩ := I.tuple hq
    obtain ⟨u, hu, ru⟩ := rv.get hx
    have el : e < s.heap.objs.size := Heap.lt_size he
    have il : it < s.heap.objs.size := by obtain ⟨_, q, _⟩ := hit; exact Heap.lt_size q
    have hu' : its.toArray[i]? = some u := by simpa using hu
    have sz : i < its.toArray.size := (Array.getElem?_eq_some_iff.mp hu').1
    have DT := Draws.tuple (prog := X.prog) (w := X.w) (A := X.A.in1) (I.ok.hd hc) it a ha1 its.toArray
    refine wpAny_pyNext_enum_itemD DT he ⟨hit, p⟩ sz hne (by simp [hne, Ne.symm ha2]) fun y h' tk hy ho hst' hT hsz hk => ?_
    rw [hu'] at hy
    cases hy
    obtain ⟨hit', _⟩ := hst'
    refine ⟨_, rfl, wpAny_letOwnedTupleGo_enum (s := { s with heap := h', toks := tk + 1 }) ho fun h'' he' sb => ?_⟩
    have hT2 : h''.get? s.heap.objs.size = some { cls := .type "tuple", data := .seq #[.int i tk, u] } := (sb.2 _ (Nat.ne_of_gt el)).trans hT
    have new : ObjOk X.prog X.w (upd H s.heap.objs.size (.tup [.int (i : Nat), x])) h'' s.heap.objs.size (.tup [.int (i : Nat), x]) :=
      ⟨(by show 2 ≤ sizeLine; decide), [.int i tk, u], .cons ⟨_, rfl⟩ (.cons ru .nil), ⟨_, hT2, rfl, _, rfl⟩⟩
    have I1 : Inv X pins σ (upd H s.heap.objs.size (.tup [.int (i : Nat), x])) { s with heap := h'', toks := tk + 1 } :=
      I.turnedNew (ch := [e, it]) (fun b ob hb q => have n1 : b ≠ e := (fun z => hb (by simp [z])); have n2 : b ≠ it := (fun z => hb (by simp [z])); (sb.2 b n1).trans (hk b ob n1 n2 q)) hf (Nat.le_refl _) new
    refine ⟨.ref s.heap.objs.size, _, I1, rfl, ⟨_, x, rfl, I.hok.fresh (Nat.le_refl _), rfl, fun ys hy => by rw [I.tuple_inj hy hq]; exact hx⟩, ⟨⟨u, ?_⟩, hit'.at fun o q => (sb.2 it (Ne.symm hne)).trans q, hne, ha1, ha2⟩, fun b hb => ?_⟩
    · rw [show ((i + 1 : Nat) : Int) = (i : Int) + 1 from rfl]
      exact he'
    · have lt : b < s.heap.objs.size := by
        rcases List.mem_cons.mp hb with z | z
        · exact z ▸ el
        · exact List.mem_singleton.mp z ▸ il
      rw [upd_ne (Nat.ne_of_lt lt)] <;> exact (hf b hb).1
  done := by
    intro X hP hw hK hc i pins s σ H E I hf st hg
    subst hP hw hK
    obtain ⟨⟨old, he⟩, hit, hne, ha1, ha2⟩ := st
    obtain ⟨xs, hq, hx⟩ := hg
    obtain ⟨its, rv, p, _⟩ := I.tuple hq
    obtain ⟨f0, f1, f2, f3, f4, f5⟩ := hf it (by simp)
    have hl := rv.length
    have none_at : its.toArray[i]? = none := by simp; omega
    exact endT (I.ok.hd hc) he hit p none_at fun h' eb => ⟨rfl, I.turned (t' := s.toks) (fun b o hb q => eb b o hb q) f0 f1 f3 f4 f5⟩
  self := fun A i s Q E st h => let ⟨⟨_, he⟩, _⟩ := st; wpAny_pyIter_enum he h
def iEnumT (K : PySem.W.Frag) (ta : TA) : TI := fun σ H R => ta σ H fun vs H1 => ∃ a xs, vs = [.ref a] ∧ SqT K H1 a xs ∧ R (IteT K a) H1
theorem pi_enumT {X : Cx} {e : Expr} {ta : TA} {p1 p2 p3 : Pos} {elts : List Expr} {kk : Nat} (hg : Gl X "enumerate") (hm : X.mg "enumerate" = none) (ha : PA X [e] ta) (hs : starEach [e] X.env = [(false, eval e X.env)] := by rfl) :
    PI X (.Tuple elts kk p3) (.Call (.Name "enumerate" p1) [e] [] p2) (iEnumT X.K ta) := by
  constructor
  intro pins s σ H R I h
  refine Call_ (ld_blt I hg hm boot_enumerate (PyProof.Rows.callWith_type1 (thn (ha.run p2 pins s σ H _ I h) fun us s1 ⟨vs, H1, J, r1, a, xs, ex, hq, q⟩ => ?_) hs rfl))
  subst ex
  cases r1 with
  | cons r rr =>
    cases rr
    cases r
    obtain ⟨its, rv, tp, _⟩ := J.tuple hq
    have la : a < s1.heap.objs.size := by obtain ⟨_, z, _⟩ := tp; exact Heap.lt_size z
    refine callT tp fun h' he hit hsz hk => wpAny_pyIter_enum he ?_
    have J2 : Inv X pins σ H1 { s1 with heap := h' } := J.kept (t' := s1.toks) hk
    refine ⟨s1.heap.objs.size + 1, [s1.heap.objs.size + 1, s1.heap.objs.size], _, _, H1, rfl, J2, turnT a (s1.heap.objs.size + 1) s1.heap.objs.size, ⟨⟨.none, he⟩, hit, Nat.succ_ne_self _, Nat.ne_of_lt la, Nat.ne_of_lt (Nat.lt_succ_of_lt la)⟩, fun b hb => ?_, q⟩
    have le : s1.heap.objs.size ≤ b := by
      rcases List.mem_cons.mp hb with z | z
      · exact z ▸ Nat.le_succ _
      · exact Nat.le_of_eq (List.mem_singleton.mp z).symm
    exact J.fpOk le (J.hok.fresh le)
theorem walk_enumT {K : PySem.W.Frag} {a : Addr} {xs : List V} : Walk (IteT K a) xs.length (fun H => SqT K H a xs) (YPair (fun i => some (.int (i : Nat))) (fun i => xs[i]?)) :=
  ⟨fun i _ hi q => ⟨xs, xs[i], q, by simp [hi]⟩, fun _ q => ⟨xs, q, Nat.le_refl _⟩, fun i H v H' _ q ⟨T, x, h1, h2, h3, h4⟩ => ⟨T, .int (i : Nat), x, h1, h2, h3, rfl, h4 xs q⟩⟩
theorem pa_starK {X : Cx} (K : PySem.W.Frag) {e : Expr} {es : List Expr} {p : Pos} {te : TE} {t : TA} (he : PE X e te) (hr : PA X es t) (hs : starEach (.Starred e p :: es) X.env = (true, eval e X.env) :: starEach es X.env := by rfl) (hk : X.K = K := by rfl) : PA X (.Starred e p :: es) (StX.tStar K te t) := by
  subst hk
  exact StX.pa_star he hr hs
end GN

set_option Elab.async false
set_option linter.all false
set_option maxRecDepth 100000
set_option maxHeartbeats 4000000
/-! the rules whose reading names the context's K, with K given: for use inside comprehensions -/
namespace GK
open PySem PySem.Spec PyProof.Rows L2
section
variable {X : Cx} {pos : Pos}
theorem ixQK (K : PySem.W.Frag) (h : X.K = K := by rfl) : IxR X (rIx K) := by subst h; exact ix_seq
theorem ixLK (K : PySem.W.Frag) (h : X.K = K := by rfl) : IxR X (rIxL K) := by subst h; exact ix_list
theorem ixTK (K : PySem.W.Frag) (h : X.K = K := by rfl) : IxR X (rIxT K) := by subst h; exact ix_tup
theorem slTK (K : PySem.W.Frag) (h : X.K = K := by rfl) : SlR X (rSlT K) := by subst h; exact sl_tup
theorem slLK (K : PySem.W.Frag) (h : X.K = K := by rfl) : SlR X (rSlL K) := by subst h; exact sl_list
def rTupOf (K : PySem.W.Frag) : List V → Hp → VK → Prop := fun xs H Q => ∃ p ys, xs = [V.ref p] ∧ ((SqL K H p ys ∧ ∀ l, H l = none → Q (.ref l) (upd H l (.tup ys))) ∨ (SqT K H p ys ∧ Q (.ref p) H))
theorem tupOfK (K : PySem.W.Frag) (h : X.K = K := by rfl) : CallR X (.type "tuple") (rTupOf K) := by subst h; exact call_tuple_of
def rListOf (K : PySem.W.Frag) : List V → Hp → VK → Prop := fun xs H Q => ∃ p ys, xs = [.ref p] ∧ (SqL K H p ys ∨ SqT K H p ys) ∧ ∀ l, H l = none → Q (.ref l) (upd H l (.lst ys))
theorem listOfK (K : PySem.W.Frag) (h : X.K = K := by rfl) : CallR X (.type "list") (rListOf K) := by subst h; exact call_list_of
def rLen (K : PySem.W.Frag) : List V → Hp → VK → Prop := fun xs H Q => ∃ p ys, xs = [V.ref p] ∧ (SqL K H p ys ∨ SqT K H p ys) ∧ Q (.int ys.length) H
theorem lenK (K : PySem.W.Frag) (h : X.K = K := by rfl) : CallR X (.builtin "len") (rLen K) := by subst h; exact call_len_seq
theorem isiK (K : PySem.W.Frag) (h : X.K = K := by rfl) : CallR X (.builtin "isinstance") (rIsi K) := by subst h; exact call_isi
theorem inK (K : PySem.W.Frag) (h : X.K = K := by rfl) : OpR X (compareOp .In) (rIn K false) := by subst h; exact op_in_seq
theorem notInK (K : PySem.W.Frag) (h : X.K = K := by rfl) : OpR X (compareOp .NotIn) (rIn K true) := by subst h; exact op_notIn_seq
theorem eqDK (K : PySem.W.Frag) (hu : X.A.units + 64 < cLine) (h : X.K = K := by rfl) : OpR X (compareOp .Eq) (rEqD K) := by subst h; exact op_eqD hu
theorem neDK (K : PySem.W.Frag) (hu : X.A.units + 64 < cLine) (h : X.K = K := by rfl) : OpR X (compareOp .NotEq) (rNeD K) := by subst h; exact op_neD hu
theorem pgTK (K : PySem.W.Frag) {es : List Expr} {k : Nat} {t : TGs} {n : Nat} (hc : X.calm = true) (h : PGs X es t) (hn : (assignEach es X.env).length = n := by rfl) (hst : (assignEach es X.env).findIdx? (·.1) = none := by rfl) (hk : X.K = K := by rfl) : PG X (.Tuple es k pos) (gTup K n t) := by
  subst hk
  exact pg_tup hc h hn hst
theorem pgLK (K : PySem.W.Frag) {es : List Expr} {k : Nat} {t : TGs} {n : Nat} (hc : X.calm = true) (h : PGs X es t) (hn : (assignEach es X.env).length = n := by rfl) (hst : (assignEach es X.env).findIdx? (·.1) = none := by rfl) (hk : X.K = K := by rfl) : PG X (.Tuple es k pos) (gLst K n t) := by
  subst hk
  exact pg_lst hc h hn hst
theorem fldK (K : PySem.W.Frag) {e : Expr} {f : Str} {ta : TE} (he : PE X e ta) (hb : attributeBase e f X.env (eval e X.env) = eval e X.env) (hk : X.K = K := by rfl) : PE X (.Attribute e f pos) (tFld K ta f) := by
  subst hk
  exact pe_fld he hb
end
end GK

set_option Elab.async false
set_option linter.all false
set_option maxRecDepth 100000
set_option maxHeartbeats 4000000
/-! {**d, k: v}: a dict's content and one more pair -/
namespace GW
open PySem PySem.Spec PyProof.Rows L2
section
variable {prog : Program} {w : World} {K : Type} [DecidableEq K] {knd : KeyKind prog w K} {A : Around} {E : Value → Shared → Prop} {s : Shared}
theorem put_pairs {d : Addr} {kvs : List (K × Value)} {k : K} {key v : Value} {Q : Unit → Shared → Prop} (hkey : knd.is k key = true) (hm : s.heap.DictOf knd d kvs)
    (hQ : ∀ h', h'.DictOf knd d (stored kvs k v) → Heap.SameBut d s.heap h' → Q () { s with heap := h' })
    (hsz : kvs.length ≤ sizeLine := by size_fits) :
    wpAny (model prog w) A (dictPut d (knd.hash k) key v) Q E s := by
  obtain ⟨o, es, ep, ho, hc, hd, hk, hp, hn⟩ := hm
  have hes : es.size ≤ sizeLine := by have e1 := hp.length; have e2 : es.toList.length = es.size := by simp
                                      omega
  unfold dictPut
  refine wpAny_bind (wpAny_dictFind_of hkey ho hd hk ?_)
  have hidx : (es.findIdx? fun e => knd.is k e.key) = kvs.findIdx? fun kv => decide (kv.1 = k) := by
    rw [← hp.findIdx k]; obtain ⟨l⟩ := es; simp
  cases hi : es.findIdx? fun e => knd.is k e.key with
  | some i =>
    refine wpAny_updateDict ho hd (hQ _ ⟨_, _, ep, Heap.get?_update_self _ ho (Obj.isFreed_of_dict (Obj.data_mapDict hd _)),
      hc.mapDict _, Obj.data_mapDict hd _, hk.modify _ _, ?_, ?_⟩ (Heap.SameBut.update ..))
    · rw [stored, if_pos (any_of_findIdx_some (hidx ▸ hi))]
      have hl : (es.toList.findIdx? fun e => knd.is k e.key) = some i := by rw [← hi]; obtain ⟨l⟩ := es; simp
      have := hp.modify hn hl v
      obtain ⟨l⟩ := es
      simpa using this
    · rw [stored, if_pos (any_of_findIdx_some (hidx ▸ hi)), keys_map_store]; exact hn
  | none =>
    have hnot : k ∉ kvs.map (·.1) := not_mem_of_findIdx_none (hidx ▸ hi)
    have hany : ¬ (kvs.any fun kv => decide (kv.1 = k)) = true := by
      rw [List.any_eq_true]; rintro ⟨kv, hkv, he⟩
      exact hnot (List.mem_map.mpr ⟨kv, hkv, of_decide_eq_true he⟩)
    refine wpAny_updateDictKeys (hz := hes) ho hd (hQ _ ⟨_, _, ep + 1, Heap.get?_update_self _ ho (Obj.isFreed_of_dict (Obj.data_mapDictKeys hd _)),
      hc.mapDictKeys _, Obj.data_mapDictKeys hd _, hk.push hkey _, ?_, ?_⟩ (Heap.SameBut.update ..))
    · rw [stored, if_neg hany]
      have := hp.append hkey (knd.hash k) v
      obtain ⟨l⟩ := es
      simpa using this
    · rw [stored, if_neg hany, List.map_append, List.nodup_append]
      refine ⟨hn, by simp, ?_⟩
      intro a ha b hb
      simp only [List.map_cons, List.map_nil, List.mem_singleton] at hb
      subst hb
      exact fun e => hnot (e ▸ ha)
theorem merge_pairs {d o : Addr} {kvs more : List (K × Value)} {Q : Unit → Shared → Prop} (hdo : d ≠ o) (hoS : (o == sysModules) = false)
    (hv : ∀ k u, knd.is k u = true → ∀ b, u ≠ .ref b)
    (hd : s.heap.DictOf knd d kvs) (ho : s.heap.DictOf knd o more)
    (hQ : ∀ h', h'.DictOf knd d (merged kvs more) → h'.DictOf knd o more → Heap.SameBut d s.heap h' → Q () { s with heap := h' })
    (hsz : kvs.length + more.length ≤ sizeLine := by size_fits) :
    wpAny (model prog w) A (mergeMapping d (.ref o) false) Q E s := by
  obtain ⟨od, esd, epd, hod, hcd, hdd, hkd, hpd, hnd⟩ := id hd
  obtain ⟨oo, eso, epo, hoo, hco, hdo', hko, hpo, hno⟩ := id ho
  unfold mergeMapping
  refine wpAny_bind (wpAny_isInstance ho.typeIs isSubtype_dict_dict ?_)
  rw [if_pos rfl]
  refine wpAny_bind (wpAny_specialOf ho.typeIs F.slot_dict_iter.lookup ?_)
  simp only [beq_self_eq_true]
  refine wpAny_bind (wpAny_pure ?_)
  simp only [hoS, Bool.false_eq_true, if_false]
  have hlen : more.length = eso.size := by rw [← hpo.length]; simp
  have loop : wpAny (model prog w) A (do
      let l ← dictEntries o
      let epoch ← dictEpoch o
      forIn (List.range l.size) PUnit.unit fun i (_ : PUnit) => (do
          let l' ← dictEntries o
          match l'[i]? with
            | some e => do
              holding [e.key, e.val] (dictPut d e.hash e.key e.val)
              let ep' ← dictEpoch o
              if (ep' != epoch) = true then do
                  (unsupported "dict.changed-during-merge" : Sem PUnit)
                  pure (ForInStep.yield PUnit.unit)
                else pure (ForInStep.yield PUnit.unit)
            | _ => do
              (unsupported "dict.changed-during-merge" : Sem PUnit)
              pure (ForInStep.yield PUnit.unit) : Sem (ForInStep PUnit))
      pure ()) Q E s := by
    refine wpAny_bind (wpAny_dictEntries hoo hdo' ?_)
    refine wpAny_bind (wpAny_dictEpoch hoo hdo' ?_)
    refine wpAny_bind ?_
    rw [List.range_eq_range']
    refine wpAny_forIn_list _
      (fun rest _ s' => ∃ h' i, s' = { s with heap := h' } ∧ rest = List.range' i (eso.size - i) ∧ i ≤ eso.size ∧ h'.DictOf knd d (merged kvs (more.take i)) ∧ h'.get? o = some oo ∧ Heap.SameBut d s.heap h')
      _ ?_ ?_ _ _ ⟨s.heap, 0, rfl, by simp, Nat.zero_le _, by simpa [merged] using hd, hoo, Heap.SameBut.refl _ _⟩
    · rintro x rest b s' ⟨h', i, rfl, hr, hi, hd', hoo', hs'⟩
      have hlt : i < eso.size := by
        rcases Nat.lt_or_ge i eso.size with h | h
        · exact h
        · rw [Nat.sub_eq_zero_of_le h] at hr; simp at hr
      obtain ⟨rfl, hrest⟩ : x = i ∧ rest = List.range' (i + 1) (eso.size - (i + 1)) := by
        have e : eso.size - i = (eso.size - (i + 1)) + 1 := by omega
        rw [e, List.range'_succ] at hr
        injection hr with h1 h2
        exact ⟨h1, h2⟩
      refine wpAny_bind (wpAny_dictEntries hoo' hdo' ?_)
      rw [Array.getElem?_eq_getElem hlt]
      obtain ⟨kv, hkv⟩ : ∃ kv, more[x]? = some kv := ⟨more[x]'(by rw [hlen]; exact hlt), List.getElem?_eq_getElem _⟩
      obtain ⟨k, v⟩ := kv
      obtain ⟨hkey, hval⟩ := hpo.get? (e := eso[x]) (by simp [hlt]) hkv
      obtain ⟨k', hkey', hhash⟩ := hko eso[x] (Array.getElem_mem hlt)
      obtain rfl : k' = k := knd.inj _ _ _ hkey' hkey
      show wpAny _ _ (holding [eso[x].key, eso[x].val] (dictPut d eso[x].hash eso[x].key eso[x].val) >>= _) _ _ _
      rw [hhash, hval]
      have hmx : (merged kvs (more.take x)).length ≤ sizeLine := by
        have e1 := merged_length_le kvs (more.take x)
        have e2 : (more.take x).length ≤ more.length := by rw [List.length_take]; omega
        omega
      refine wpAny_bind (wpAny_holding (put_pairs (hsz := hmx) hkey hd' fun h'' hd'' hs'' => ?_))
      have hoo'' : h''.get? o = some oo := (hs''.2 o (Ne.symm hdo)).trans hoo'
      refine wpAny_bind (wpAny_dictEpoch hoo'' hdo' ?_)
      rw [if_neg (by simp)]
      exact wpAny_pure ⟨h'', x + 1, rfl, hrest, hlt, by rw [merged_take_succ kvs more x (k', v) hkv]; exact hd'', hoo'', hs'.trans hs''⟩
    · rintro b s' ⟨h', i, rfl, hr, hi, hd', hoo', hs'⟩
      have hin : i = eso.size := by
        rcases Nat.lt_or_ge i eso.size with h | h
        · have e : eso.size - i = (eso.size - (i + 1)) + 1 := by omega
          rw [e, List.range'_succ] at hr; exact nomatch hr
        · exact Nat.le_antisymm hi h
      refine wpAny_pure (hQ h' ?_ ⟨oo, eso, epo, hoo', hco, hdo', hko, hpo, hno⟩ hs')
      rw [hin, ← hlen, List.take_length] at hd'; exact hd'
  refine wpAny_bind (wpAny_dictEntries hod hdd ?_)
  split
  · refine wpAny_bind (wpAny_dictEntries hoo hdo' ?_)
    refine wpAny_bind ?_
    rw [← Array.forIn_toList]
    refine wpAny_forIn_list _ (fun rest _ s' => s' = s ∧ ∀ e ∈ rest, e ∈ eso.toList) _ ?_ ?_ _ _ ⟨rfl, fun _ h => h⟩
    · rintro e rest b s' ⟨rfl, all⟩
      obtain ⟨k', hkey', _⟩ := hko e (Array.mem_toList_iff.mp (all e List.mem_cons_self))
      have : ∀ a, e.key ≠ .ref a := hv _ _ hkey'
      have h2 : ∀ x ∈ rest, x ∈ eso.toList := fun x hx => all x (List.mem_cons_of_mem _ hx)
      split
      · rename_i a ea
        exact absurd ea (this a)
      · exact wpAny_pure ⟨rfl, h2⟩
    · rintro b s' ⟨rfl, _⟩
      exact loop
  · exact loop
theorem mix_noref {P : Program} {w : World} : ∀ k u, (mixKind P w).is k u = true → ∀ b, u ≠ .ref b := fun k u h b e => by
  rcases keyIs_shape h with ⟨i, t, rfl, rfl⟩ | ⟨x, t, rfl, rfl⟩ <;> cases e
end
section
variable {prog : Program} {w : World} {K : Type} [DecidableEq K] {knd : KeyKind prog w K} {A : Around} {E : Value → Shared → Prop} {s : Shared}
theorem display_star {m k v : Sem Value} {Q : Value → Shared → Prop} (h : wpAny (model prog w) A (alloc { cls := .type "dict", data := .dict #[] }) (fun d s1 => wpAny (model prog w) A m (fun x s2 =>
    wpAny (model prog w) A (mergeMapping d x false) (fun _ s3 => wpAny (model prog w) A (subDict [(k, v)]) (fun sub s4 => wpAny (model prog w) A (mergeMapping d (.ref sub) false) (fun _ s5 => Q (.ref d) s5) (fun _ _ => False) s4) E s3) (fun _ _ => False) s2) E s1) E s) :
    wpAny (model prog w) A (dictDisplay [(none, m), (some k, v)]) Q E s := by
  unfold dictDisplay
  dsimp only
  rw [List.forIn_cons, bind_assoc]
  simp only [List.isEmpty_nil, if_true, pure_bind, bind_assoc]
  refine wpAny_bind (wpAny_mono h (fun d s1 h1 => ?_) fun _ _ e => e)
  refine wpAny_bind (wpAny_holding (wpAny_mono h1 (fun x s2 h2 => ?_) fun _ _ e => e))
  refine wpAny_bind (wpAny_onRaise (wpAny_tryCatch (wpAny_onRaise (wpAny_holding (wpAny_mono h2 (fun _ s3 h3 => ?_) fun _ _ e => e.elim)))))
  simp only [List.forIn_cons, List.forIn_nil, List.nil_append, pure_bind, bind_assoc]
  rw [if_neg (by simp)]
  simp only [pure_bind, bind_assoc]
  rw [if_neg (by simp)]
  simp only [pure_bind, bind_assoc]
  refine wpAny_bind (wpAny_holding (wpAny_mono h3 (fun sub s4 h4 => ?_) fun _ _ e => e))
  refine wpAny_bind (wpAny_onRaise (wpAny_holding (wpAny_mono h4 (fun _ s5 h5 => ?_) fun _ _ e => e.elim)))
  exact wpAny_pure h5
end
/-- {**d, k: v}: the new dict p; the pair's own dict q -/
def tStar (td tk tv : TE) : TE := fun σ H Q => ∀ p, H p = none → td σ (upd H p (.dK [])) fun x H1 => ∃ a kvs, x = .ref a ∧ a ≠ p ∧ Rd H1 a (.dK kvs) ∧ kvs.length < sizeLine ∧ H1 p = some (.dK []) ∧
  ∀ q, upd H1 p (.dK kvs) q = none → tk σ (upd (upd H1 p (.dK kvs)) q (.dK [])) fun ky H3 => tv σ H3 fun y H4 => ∃ k0, ky = kV k0 ∧ H4 q = some (.dK []) ∧ H4 p = some (.dK kvs) ∧ Q (.ref p) (upd (upd H4 q (.dK [(k0, y)])) p (.dK (putK kvs k0 y)))
theorem pe_dstar {X : Cx} {pos : Pos} {d k v : Expr} {td tk tv : TE} (hd : PE X d td) (hk : PE X k tk) (hv : PE X v tv) : PE X (.Dict [none, some k] [d, v] pos) (tStar td tk tv) := by
  refine ⟨fun pins s σ H Q I q => ?_⟩
  rw [arm_eval_Dict]
  refine wpAny_bind (wpAny_standAt (display_star (wpAny_alloc ?_)))
  have hn := I.hok.fresh (Nat.le_refl s.heap.objs.size)
  have I1 := I.laid (a := s.heap.objs.size) (o := .dK []) (h' := s.heap.push { cls := .type "dict", data := .dict #[] }) (t' := s.toks) (fun _ _ q => Heap.get?_push_of_some _ q) (Nat.le_refl _) (dk_empty s.heap I.big)
  have q0 := q _ hn
  generalize s.heap.objs.size = p at q0 I1 hn ⊢
  refine wpAny_bind (thn (hd.run pins _ σ _ _ I1 q0) fun u s1 ⟨x, H1, I2, rx, a, kvs, ex, nap, ea, lk, ep, q2⟩ => wpAny_bind (wpAny_standAt (wpAny_pure ?_)))
  subst ex
  cases (show u = Value.ref a from rx)
  obtain ⟨za, ha, vs, rel, dd⟩ := dk_rd I2.hok ea
  obtain ⟨zp, hpS, vs0, r0, dp⟩ := dk_of I2.hok ep
  cases r0
  have hlv : vs.length = kvs.length := rel.length.symm
  refine merge_pairs (knd := mixKind X.prog X.w) (Ne.symm nap) ha mix_noref dp dd (fun h2 dp2 dd2 hs2 => ?_) (by rw [hlv]; exact by simp; omega)
  have nodup : (vs.map (·.1)).Nodup := by
    obtain ⟨_, _, _, _, _, _, _, _, hn⟩ := dd
    exact hn
  rw [merged_nil_of_nodup vs nodup] at dp2
  have he2 : ∃ q, h2.get? p = some q := let ⟨q, _, _, hq, _⟩ := dp2; ⟨q, hq⟩
  have I3 : Inv X pins σ (upd H1 p (.dK kvs)) { s1 with heap := h2 } := d_write I2 (by rw [ep]; exact True.intro) hs2 he2 (dk_new (Nat.le_of_lt lk) hpS rel dp2)
  have hn3 := I3.hok.fresh (Nat.le_refl h2.objs.size)
  have I4 := I3.laid (a := h2.objs.size) (o := .dK []) (h' := h2.push { cls := .type "dict", data := .dict #[] }) (t' := s1.toks) (fun _ _ q => Heap.get?_push_of_some _ q) (Nat.le_refl _) (dk_empty h2 I3.big)
  have q3 := q2 _ hn3
  refine wpAny_subDict (knd := mixKind X.prog X.w) (by simp) ?_
  have pp : PPs X pos [some k] [v] [(tk, tv)] := pps_cons hk hv pps_nil
  generalize hq0 : h2.objs.size = q0 at q3 I4 hn3 ⊢
  refine thn (pp.run pins _ σ _ (fun ps H4 => match ps with
    | [(ky, y)] => ∃ k0, ky = kV k0 ∧ H4 q0 = some (HO.dK []) ∧ H4 p = some (HO.dK kvs) ∧ Q (V.ref p) (upd (upd H4 q0 (HO.dK [(k0, y)])) p (HO.dK (putK kvs k0 y)))
    | _ => False) I4 q3) fun ws s4 ⟨ps, H4, I5, relp, z⟩ => ?_
  match ps, relp, z with
  | [(ky, y)], relp, ⟨k0, ek, eq4, ep4, q4⟩ =>
  subst ek
  obtain ⟨rs, c, rk⟩ := carries_of (P := X.prog) (w := X.w) (kvs := [(k0, y)]) relp
  obtain ⟨z5, hqS, vs5, r5, dq5⟩ := dk_of I5.hok eq4
  cases r5
  refine ⟨rs, c, dq5, fun h6 dq6 hs6 => ?_⟩
  have he6 : ∃ q, h6.get? q0 = some q := let ⟨q, _, _, hq, _⟩ := dq6; ⟨q, hq⟩
  have rkm : KV [(k0, y)] (merged [] rs) := rk.merge .nil
  have I6 : Inv X pins σ (upd H4 q0 (.dK [(k0, y)])) { s4 with heap := h6, toks := s4.toks + ws.length } := d_write I5 (by rw [eq4]; exact True.intro) hs6 he6 (dk_new (show 1 ≤ sizeLine by decide) hqS rkm dq6)
  have npq : p ≠ q0 := fun e => by
    rw [← e, upd_same] at hn3
    cases hn3
  have ep6 : (upd H4 q0 (.dK [(k0, y)])) p = some (.dK kvs) := by rw [upd_ne npq]; exact ep4
  obtain ⟨z6, hpS6, vs6, rel6, dp6⟩ := dk_of I6.hok ep6
  have l6 : vs6.length = kvs.length := rel6.length.symm
  have l7 : (merged [] rs).length = 1 := rkm.length.symm
  refine merge_pairs (knd := mixKind X.prog X.w) npq hqS mix_noref dp6 dq6 (fun h7 dp7 dq7 hs7 => ?_) (by rw [l6, l7]; exact lk)
  have he7 : ∃ q, h7.get? p = some q := let ⟨q, _, _, hq, _⟩ := dp7; ⟨q, hq⟩
  have hz : (putK kvs k0 y).length ≤ sizeLine := Nat.le_trans (length_putK kvs k0 y) lk
  exact ⟨.ref p, _, d_write I6 (by rw [ep6]; exact True.intro) hs7 he7 (dk_new hz hpS6 (rkm.merge rel6) dp7), rfl, q4⟩
end GW

set_option Elab.async false
set_option linter.all false
set_option maxRecDepth 100000
set_option maxHeartbeats 4000000
/-! the data layer: what a def makes of data (None, truth values, ints, texts, lists, tuples), with the heap out of sight; lists that are written are owned by one slot -/
namespace DL
open PySem PySem.Spec PyProof.Rows L2
/-! ### frames -/
/-- all is kept but what stands at M; tables grow -/
structure Kp (H H' : Hp) (M : List Addr) : Prop where
  keep : ∀ c o, H c = some o → (∀ q, o ≠ .tbl q) → c ∉ M → H' c = some o
  tab : ∀ c ps, H c = some (.tbl ps) → ∃ ps', H' c = some (.tbl ps') ∧ (TriplesOk ps.toList → TriplesOk ps'.toList)
theorem Kp.refl (H : Hp) : Kp H H [] := ⟨fun _ _ e _ _ => e, fun _ ps e => ⟨ps, e, fun h => h⟩⟩
section
variable {H H' H1 H2 : Hp} {M N L : List Addr} {a : Addr}
theorem Kp.tup (k : Kp H H' M) {t : Addr} {xs : List V} (h : H t = some (.tup xs)) (n : t ∉ M) : H' t = some (.tup xs) := k.keep t _ h (fun _ e => nomatch e) n
theorem Kp.lst (k : Kp H H' M) {t : Addr} {xs : List V} (h : H t = some (.lst xs)) (n : t ∉ M) : H' t = some (.lst xs) := k.keep t _ h (fun _ e => nomatch e) n
theorem Kp.tabG (k : Kp H H' M) {P : Addr} (h : GxR.TabG H P) : GxR.TabG H' P := by
  obtain ⟨ps, e, t⟩ := h
  obtain ⟨ps', e', t'⟩ := k.tab P ps e
  exact ⟨ps', e', t' t⟩
theorem Kp.has (k : Kp H H' M) {c : Addr} {o : HO} (h : H c = some o) (n : c ∉ M) : ∃ o', H' c = some o' := by
  by_cases z : ∃ q, o = .tbl q
  · obtain ⟨q, rfl⟩ := z
    obtain ⟨p, e, _⟩ := k.tab c q h
    exact ⟨_, e⟩
  · exact ⟨o, k.keep c o h (fun q e => z ⟨q, e⟩) n⟩
theorem Kp.free (k : Kp H H' M) {q : Addr} (h : H' q = none) (hm : q ∉ M) : H q = none := by
  cases e : H q with
  | none => rfl
  | some o =>
    obtain ⟨o', e'⟩ := k.has e hm
    rw [h] at e'
    cases e'
theorem Kp.new {o : HO} (h : H a = none) : Kp H (upd H a o) [] :=
  ⟨fun c u e _ _ => by rw [upd_ne (ne_of_none e h)]; exact e, fun c ps e => ⟨ps, by rw [upd_ne (ne_of_none e h)]; exact e, fun h => h⟩⟩
theorem Kp.wr {o u : HO} (h : H a = some u) (n : ∀ q, u ≠ .tbl q) : Kp H (upd H a o) [a] :=
  ⟨fun c v e _ m => by rw [upd_ne (fun q => m (by rw [q]; exact List.mem_singleton.mpr rfl))]; exact e,
   fun c ps e => ⟨ps, by rw [upd_ne (fun q => n ps (by rw [q, h] at e; exact Option.some.inj e))]; exact e, fun h => h⟩⟩
theorem Kp.wl {xs : List V} {o : HO} (h : H a = some (.lst xs)) : Kp H (upd H a o) [a] := Kp.wr h fun _ e => nomatch e
theorem Kp.tabbed {P : Addr} (g : GxR.TabG H P) (t : GxR.Tabbed P H H') : Kp H H' [] := by
  obtain ⟨ps, e, _⟩ := g
  obtain ⟨⟨ps', e', t'⟩, k⟩ := t
  refine ⟨fun c o h n _ => ?_, fun c qs h => ?_⟩
  · rw [k c fun z => n ps (by rw [z, e] at h; exact (Option.some.inj h).symm)]
    exact h
  · by_cases z : c = P
    · rw [z]
      exact ⟨ps', e', fun _ => t'⟩
    · exact ⟨qs, by rw [k c z]; exact h, fun h => h⟩
/-- one after the other; what the second one changes is new or stands in L -/
theorem Kp.trans (a : Kp H H1 M) (b : Kp H1 H2 N) (hM : ∀ x ∈ M, x ∈ L) (hN : ∀ x ∈ N, x ∈ L ∨ H x = none) : Kp H H2 L :=
  ⟨fun c o e t n => b.keep c o (a.keep c o e t fun q => n (hM c q)) t fun q => (hN c q).elim n fun z => (nomatch (z.symm.trans e)),
   fun c ps e => let ⟨p1, e1, t1⟩ := a.tab c ps e; let ⟨p2, e2, t2⟩ := b.tab c p1 e1; ⟨p2, e2, fun h => t2 (t1 h)⟩⟩
theorem Kp.then (a : Kp H H1 M) (b : Kp H1 H2 []) : Kp H H2 M := a.trans b (fun _ h => h) fun _ h => nomatch h
theorem Kp.both (a : Kp H H1 M) (b : Kp H1 H2 M) : Kp H H2 M := a.trans b (fun _ h => h) fun _ h => .inl h
theorem Kp.up (a : Kp H H1 M) (h : ∀ x ∈ M, x ∈ L) : Kp H H1 L := ⟨fun c o e t n => a.keep c o e t fun q => n (h c q), a.tab⟩
theorem Kp.up0 (a : Kp H H1 []) : Kp H H1 L := a.up fun _ h => nomatch h
end
/-! ### data in the heap; O: the lists that are owned, which no datum holds -/
def LsR (_ : PySem.W.Frag) (H : Hp) (O : List Addr) (a : Addr) (xs : List V) : Prop := a ∉ O ∧ H a = some (.lst xs)
def TpR (K : PySem.W.Frag) (H : Hp) (O : List Addr) (a : Addr) (xs : List V) : Prop := (a ∉ O ∧ Rd H a (.tup xs)) ∨
  ∃ (o : Obj) (its : Array Value) (n : Nat), K.lookup a = some o ∧ o.cls = .type "tuple" ∧ o.dict = none ∧ o.data = .seq its n ∧ its.size ≤ sizeLine ∧ Vals xs its.toList
/-- a dict whose keys are ints and texts -/
def DcR (_ : PySem.W.Frag) (H : Hp) (O : List Addr) (a : Addr) (xs : List (Key × V)) : Prop := a ∉ O ∧ H a = some (.dK xs)
def keyD : Key → PyData
  | .inl i => .int i
  | .inr x => .str x
mutual
inductive Dv (K : PySem.W.Frag) (H : Hp) (O : List Addr) : V → PyData → Prop
  | non : Dv K H O .non .none
  | bl (b : Bool) : Dv K H O (.bl b) (.bool b)
  | int (i : Int) : Dv K H O (.int i) (.int i)
  | str (x : Str) : Dv K H O (.str x) (.str x)
  | lst {a : Addr} {xs : List V} {ds : List PyData} : LsR K H O a xs → DvAll K H O xs ds → Dv K H O (.ref a) (.list ds)
  | tup {a : Addr} {xs : List V} {ds : List PyData} : TpR K H O a xs → DvAll K H O xs ds → Dv K H O (.ref a) (.tuple ds)
  | dct {a : Addr} {xs : List (Key × V)} {ds : List (PyData × PyData)} : DcR K H O a xs → DvKV K H O xs ds → Dv K H O (.ref a) (.dict ds)
inductive DvAll (K : PySem.W.Frag) (H : Hp) (O : List Addr) : List V → List PyData → Prop
  | nil : DvAll K H O [] []
  | cons {v : V} {vs : List V} {d : PyData} {ds : List PyData} : Dv K H O v d → DvAll K H O vs ds → DvAll K H O (v :: vs) (d :: ds)
inductive DvKV (K : PySem.W.Frag) (H : Hp) (O : List Addr) : List (Key × V) → List (PyData × PyData) → Prop
  | nil : DvKV K H O [] []
  | cons {k : Key} {v : V} {vs : List (Key × V)} {d : PyData} {ds : List (PyData × PyData)} : Dv K H O v d → DvKV K H O vs ds → DvKV K H O ((k, v) :: vs) ((keyD k, d) :: ds)
end
section
variable {K : PySem.W.Frag} {H H' : Hp} {O O' M : List Addr} {a : Addr} {xs : List V}
theorem Rd.kp {u : HO} (h : Rd H a u) (k : Kp H H' M) (n : a ∉ M) (t : ∀ q, u ≠ .tbl q) : Rd H' a u := by
  rcases h with h | ⟨o, h⟩
  · exact .inl (k.keep a u h t n)
  · exact .inr ⟨o, k.keep a _ h (fun _ e => nomatch e) n⟩
theorem Rd.has {u : HO} (h : Rd H a u) : H a ≠ none := by
  rcases h with h | ⟨o, h⟩ <;> rw [h] <;> exact fun e => nomatch e
theorem LsR.kp (h : LsR K H O a xs) (k : Kp H H' M) (s : ∀ x ∈ M, x ∈ O) : LsR K H' O a xs := ⟨h.1, k.lst h.2 fun m => h.1 (s _ m)⟩
theorem TpR.kp (h : TpR K H O a xs) (k : Kp H H' M) (s : ∀ x ∈ M, x ∈ O) : TpR K H' O a xs := h.elim (fun z => .inl ⟨z.1, Rd.kp z.2 k (fun m => z.1 (s _ m)) fun _ e => nomatch e⟩) .inr
theorem LsR.sub (h : LsR K H O a xs) (s : ∀ x ∈ O', x ∈ O) : LsR K H O' a xs := ⟨fun m => h.1 (s _ m), h.2⟩
theorem TpR.sub (h : TpR K H O a xs) (s : ∀ x ∈ O', x ∈ O) : TpR K H O' a xs := h.elim (fun z => .inl ⟨fun m => z.1 (s _ m), z.2⟩) .inr
theorem LsR.add {b : Addr} (h : LsR K H O a xs) (n : H b = none) : LsR K H (b :: O) a xs := ⟨fun m => (List.mem_cons.mp m).elim (fun e => by have := h.2; rw [e, n] at this; cases this) h.1, h.2⟩
theorem TpR.add {b : Addr} (h : TpR K H O a xs) (n : H b = none) : TpR K H (b :: O) a xs := h.elim (fun z => .inl ⟨fun m => (List.mem_cons.mp m).elim (fun e => Rd.has z.2 (by rw [e]; exact n)) z.1, z.2⟩) .inr
theorem LsR.sq (h : LsR K H O a xs) : SqL K H a xs := .inl (.inl h.2)
theorem TpR.sq (h : TpR K H O a xs) : SqT K H a xs := h.elim (fun z => .inl z.2) fun ⟨o, its, n, a, b, _, c⟩ => .inr ⟨o, its, n, a, b, c⟩
theorem DcR.kp {xs : List (Key × V)} (h : DcR K H O a xs) (k : Kp H H' M) (s : ∀ x ∈ M, x ∈ O) : DcR K H' O a xs := ⟨h.1, k.keep a _ h.2 (fun _ e => nomatch e) fun m => h.1 (s _ m)⟩
theorem DcR.sub {xs : List (Key × V)} (h : DcR K H O a xs) (s : ∀ x ∈ O', x ∈ O) : DcR K H O' a xs := ⟨fun m => h.1 (s _ m), h.2⟩
theorem DcR.add {b : Addr} {xs : List (Key × V)} (h : DcR K H O a xs) (n : H b = none) : DcR K H (b :: O) a xs := ⟨fun m => (List.mem_cons.mp m).elim (fun e => by have := h.2; rw [e, n] at this; cases this) h.1, h.2⟩
mutual
/-- one change of the relation at all places -/
theorem Dv.go (fl : ∀ a xs, LsR K H O a xs → LsR K H' O' a xs) (ft : ∀ a xs, TpR K H O a xs → TpR K H' O' a xs) (fd : ∀ a xs, DcR K H O a xs → DcR K H' O' a xs) : ∀ {d : PyData} {v : V}, Dv K H O v d → Dv K H' O' v d
  | _, _, .non => .non
  | _, _, .bl b => .bl b
  | _, _, .int i => .int i
  | _, _, .str x => .str x
  | _, _, .lst h a => .lst (fl _ _ h) (DvAll.go fl ft fd a)
  | _, _, .tup h a => .tup (ft _ _ h) (DvAll.go fl ft fd a)
  | _, _, .dct h a => .dct (fd _ _ h) (DvKV.go fl ft fd a)
theorem DvAll.go (fl : ∀ a xs, LsR K H O a xs → LsR K H' O' a xs) (ft : ∀ a xs, TpR K H O a xs → TpR K H' O' a xs) (fd : ∀ a xs, DcR K H O a xs → DcR K H' O' a xs) : ∀ {ds : List PyData} {vs : List V}, DvAll K H O vs ds → DvAll K H' O' vs ds
  | _, _, .nil => .nil
  | _, _, .cons h t => .cons (Dv.go fl ft fd h) (DvAll.go fl ft fd t)
theorem DvKV.go (fl : ∀ a xs, LsR K H O a xs → LsR K H' O' a xs) (ft : ∀ a xs, TpR K H O a xs → TpR K H' O' a xs) (fd : ∀ a xs, DcR K H O a xs → DcR K H' O' a xs) : ∀ {ds : List (PyData × PyData)} {vs : List (Key × V)}, DvKV K H O vs ds → DvKV K H' O' vs ds
  | _, _, .nil => .nil
  | _, _, .cons h t => .cons (Dv.go fl ft fd h) (DvKV.go fl ft fd t)
end
theorem Dv.kp {v : V} {d : PyData} (h : Dv K H O v d) (k : Kp H H' M) (s : ∀ x ∈ M, x ∈ O) : Dv K H' O v d := Dv.go (fun _ _ z => z.kp k s) (fun _ _ z => z.kp k s) (fun _ _ z => z.kp k s) h
theorem DvAll.kp {vs : List V} {ds : List PyData} (h : DvAll K H O vs ds) (k : Kp H H' M) (s : ∀ x ∈ M, x ∈ O) : DvAll K H' O vs ds := DvAll.go (fun _ _ z => z.kp k s) (fun _ _ z => z.kp k s) (fun _ _ z => z.kp k s) h
theorem DvKV.kp {vs : List (Key × V)} {ds : List (PyData × PyData)} (h : DvKV K H O vs ds) (k : Kp H H' M) (s : ∀ x ∈ M, x ∈ O) : DvKV K H' O vs ds := DvKV.go (fun _ _ z => z.kp k s) (fun _ _ z => z.kp k s) (fun _ _ z => z.kp k s) h
theorem Dv.kp0 {v : V} {d : PyData} (h : Dv K H O v d) (k : Kp H H' []) : Dv K H' O v d := h.kp k fun _ z => nomatch z
theorem DvAll.kp0 {vs : List V} {ds : List PyData} (h : DvAll K H O vs ds) (k : Kp H H' []) : DvAll K H' O vs ds := h.kp k fun _ z => nomatch z
theorem DvKV.kp0 {vs : List (Key × V)} {ds : List (PyData × PyData)} (h : DvKV K H O vs ds) (k : Kp H H' []) : DvKV K H' O vs ds := h.kp k fun _ z => nomatch z
theorem Dv.kpO {v : V} {d : PyData} (h : Dv K H O v d) (k : Kp H H' O) : Dv K H' O v d := h.kp k fun _ z => z
theorem DvAll.kpO {vs : List V} {ds : List PyData} (h : DvAll K H O vs ds) (k : Kp H H' O) : DvAll K H' O vs ds := h.kp k fun _ z => z
theorem Dv.sub {v : V} {d : PyData} (h : Dv K H O v d) (s : ∀ x ∈ O', x ∈ O) : Dv K H O' v d := Dv.go (fun _ _ z => z.sub s) (fun _ _ z => z.sub s) (fun _ _ z => z.sub s) h
theorem DvAll.sub {vs : List V} {ds : List PyData} (h : DvAll K H O vs ds) (s : ∀ x ∈ O', x ∈ O) : DvAll K H O' vs ds := DvAll.go (fun _ _ z => z.sub s) (fun _ _ z => z.sub s) (fun _ _ z => z.sub s) h
theorem Dv.add {b : Addr} {v : V} {d : PyData} (h : Dv K H O v d) (n : H b = none) : Dv K H (b :: O) v d := Dv.go (fun _ _ z => z.add n) (fun _ _ z => z.add n) (fun _ _ z => z.add n) h
theorem DvAll.add {b : Addr} {vs : List V} {ds : List PyData} (h : DvAll K H O vs ds) (n : H b = none) : DvAll K H (b :: O) vs ds := DvAll.go (fun _ _ z => z.add n) (fun _ _ z => z.add n) (fun _ _ z => z.add n) h
theorem canLay_cons {d : PyData} {ds : List PyData} (e : PyData.canLayAll0 (d :: ds) = true) : PyData.canLay0 d = true ∧ PyData.canLayAll0 ds = true := by simpa [PyData.canLayAll0] using e
mutual
theorem Dv.dp : ∀ {d : PyData} {v : V}, Dv K H O v d → PyData.canLay0 d = true → Dp K H v d
  | _, _, .non, _ => .non
  | _, _, .bl b, _ => .bl b
  | _, _, .int i, _ => .int i
  | _, _, .str x, _ => .str x
  | _, _, .lst h a, e => .lst h.sq (DvAll.dp a (by simpa [PyData.canLay0] using e))
  | _, _, .tup h a, e => .tup h.sq (DvAll.dp a (by simpa [PyData.canLay0] using e))
  | _, _, .dct _ _, e => by simp [PyData.canLay0] at e
theorem DvAll.dp : ∀ {ds : List PyData} {vs : List V}, DvAll K H O vs ds → PyData.canLayAll0 ds = true → DpAll K H vs ds
  | _, _, .nil, _ => .nil
  | _, _, .cons h t, e => .cons (Dv.dp h (canLay_cons e).1) (DvAll.dp t (canLay_cons e).2)
end
theorem DvAll.length : ∀ {vs : List V} {ds : List PyData}, DvAll K H O vs ds → vs.length = ds.length
  | _, _, .nil => rfl
  | _, _, .cons _ t => congrArg Nat.succ (DvAll.length t)
theorem DvAll.get : ∀ {vs : List V} {ds : List PyData} (i : Nat) {v : V}, DvAll K H O vs ds → vs[i]? = some v → ∃ d, ds[i]? = some d ∧ Dv K H O v d
  | _, _, i, _, .nil, e => by simp at e
  | _, _, 0, _, .cons h _, e => by cases e; exact ⟨_, rfl, h⟩
  | _, _, i + 1, _, .cons _ t, e => DvAll.get i t e
theorem DvAll.getD : ∀ {vs : List V} {ds : List PyData} (i : Nat) {d : PyData}, DvAll K H O vs ds → ds[i]? = some d → ∃ v, vs[i]? = some v ∧ Dv K H O v d
  | _, _, i, _, .nil, e => by simp at e
  | _, _, 0, _, .cons h _, e => by cases e; exact ⟨_, rfl, h⟩
  | _, _, i + 1, _, .cons _ t, e => DvAll.getD i t e
theorem DvAll.append : ∀ {vs ws : List V} {ds es : List PyData}, DvAll K H O vs ds → DvAll K H O ws es → DvAll K H O (vs ++ ws) (ds ++ es)
  | _, _, _, _, .nil, h => h
  | _, _, _, _, .cons h t, g => .cons h (DvAll.append t g)
theorem DvAll.take : ∀ {vs : List V} {ds : List PyData} (n : Nat), DvAll K H O vs ds → DvAll K H O (vs.take n) (ds.take n)
  | _, _, 0, _ => .nil
  | _, _, _ + 1, .nil => .nil
  | _, _, n + 1, .cons h t => .cons h (DvAll.take n t)
theorem DvAll.drop : ∀ {vs : List V} {ds : List PyData} (n : Nat), DvAll K H O vs ds → DvAll K H O (vs.drop n) (ds.drop n)
  | _, _, 0, h => h
  | _, _, _ + 1, .nil => .nil
  | _, _, n + 1, .cons h t => DvAll.drop n t
theorem DvAll.snoc {vs : List V} {ds : List PyData} {v : V} {d : PyData} (h : DvAll K H O vs ds) (g : Dv K H O v d) : DvAll K H O (vs ++ [v]) (ds ++ [d]) := h.append (.cons g .nil)
theorem DvAll.dropLast {vs : List V} {ds : List PyData} (h : DvAll K H O vs ds) : DvAll K H O vs.dropLast ds.dropLast := by
  rw [List.dropLast_eq_take, List.dropLast_eq_take, h.length]
  exact h.take _
theorem DvAll.ints : ∀ (ns : List Int), DvAll K H O (ns.map V.int) (ns.map PyData.int)
  | [] => .nil
  | n :: ns => .cons (.int n) (DvAll.ints ns)
theorem DvAll.ofInts : ∀ {vs : List V} {ns : List Int}, DvAll K H O vs (ns.map PyData.int) → vs = ns.map V.int
  | _, [], .nil => rfl
  | _, n :: ns, .cons (.int _) t => by rw [DvAll.ofInts t]; rfl
end
end DL

set_option Elab.async false
set_option linter.all false
set_option maxRecDepth 100000
set_option maxHeartbeats 4000000
namespace DL
open PySem PySem.Spec PyProof.Rows L2
/-! ### the slots, by data -/
/-- the state of an owned thing -/
inductive OS
  | lst (arg : Option Nat) (ds : List PyData)
/-- a slot: a datum, or a thing that this slot alone holds -/
inductive DV
  | d (x : PyData)
  | ow (s : OS)
abbrev Rho := List (Option DV)
/-- what an expression gives: a datum, or the owned thing of a slot -/
inductive RV
  | d (x : PyData)
  | ow (i : Nat)
/-- an activation: the heap at its start, what it may write, what the callers own, how an exception is wished for -/
structure Fc where
  K : PySem.W.Frag
  tabs : List Addr
  H0 : Hp
  M : List Addr
  B : List Addr
  E : XK
  W : Addr → Prop
  xs : ∀ c H', Kp H0 H' M → W c → E (.ref c) none H'
  mh : ∀ a ∈ M, H0 a ≠ none
  bh : ∀ a ∈ B, H0 a ≠ none
/-- data that are to stay as they are; places that no datum holds and nobody writes -/
structure Zp where
  pins : List (V × PyData)
  gd : List Addr
def Zp.guard (Z : Zp) (a : Addr) : Zp := ⟨Z.pins, a :: Z.gd⟩
def Zp.pin (Z : Zp) (Z0 : List (V × PyData)) : Zp := ⟨Z0 ++ Z.pins, Z.gd⟩
/-- what no datum holds -/
abbrev Fc.av (C : Fc) (Z : Zp) (O : List Addr) : List Addr := O ++ (Z.gd ++ C.B)
/-- whose it is: this def's own making, or the p-th thing that was handed in to be written -/
def GrR (C : Fc) (a : Addr) : Option Nat → Prop
  | none => C.H0 a = none
  | some p => C.M[p]? = some a
def OwR (C : Fc) (Z : Zp) (H : Hp) (O : List Addr) (a : Addr) : OS → Prop
  | .lst g ds => GrR C a g ∧ ∃ vs, H a = some (.lst vs) ∧ DvAll C.K H (C.av Z O) vs ds
def SlV (C : Fc) (Z : Zp) (H : Hp) (O : List Addr) (v : V) : DV → Prop
  | .d x => Dv C.K H (C.av Z O) v x
  | .ow s => ∃ a, v = .ref a ∧ a ∈ O ∧ OwR C Z H O a s
structure Rl (C : Fc) (O : List Addr) (Z : Zp) (ρ : Rho) (σ : L2.St) (H : Hp) : Prop where
  fr : Kp C.H0 H C.M
  own : ∀ a ∈ O, a ∈ C.M ∨ C.H0 a = none
  sub : ∀ a ∈ C.M, a ∈ O
  tb : ∀ P ∈ C.tabs, GxR.TabG H P
  al : ∀ a ∈ O, ∃ o, H a = some o ∧ ∀ q, o ≠ .tbl q
  alB : ∀ a ∈ C.B, H a ≠ none
  len : σ.length = ρ.length
  sl : ∀ (i : Nat) (dv : DV), ρ[i]? = some (some dv) → ∃ v, σ[i]? = some (some v) ∧ SlV C Z H O v dv
  gA : ∀ a ∈ Z.gd, H a ≠ none
  gO : ∀ a ∈ Z.gd, a ∉ O
  zz : ∀ p ∈ Z.pins, Dv C.K H (C.av Z O) p.1 p.2
  ds : ∀ (i j : Nat) (a : Addr) (s s' : OS), σ[i]? = some (some (.ref a)) → σ[j]? = some (some (.ref a)) → ρ[i]? = some (some (.ow s)) → ρ[j]? = some (some (.ow s')) → i = j
/-- only what was owned is owned -/
def Sh (ρ ρ' : Rho) : Prop := ∀ (i : Nat) (s' : OS), ρ'[i]? = some (some (.ow s')) → ∃ s : OS, ρ[i]? = some (some (.ow s))
structure Go (C : Fc) (O : List Addr) (Z : Zp) (σ : L2.St) (ρ : Rho) (H : Hp) (ρ' : Rho) (H' : Hp) : Prop where
  sh : Sh ρ ρ'
  rl : Rl C O Z ρ' σ H'
  kp : Kp H H' O
def RvR (K : PySem.W.Frag) (H : Hp) (O : List Addr) (σ : L2.St) (v : V) : RV → Prop
  | .d x => Dv K H O v x
  | .ow i => σ[i]? = some (some v)
/-- readable now: a datum, or an owned list of data -/
def Dz (K : PySem.W.Frag) (H : Hp) (O : List Addr) (v : V) (d : PyData) : Prop := Dv K H O v d ∨ ∃ a vs ds, v = .ref a ∧ d = .list ds ∧ H a = some (.lst vs) ∧ DvAll K H O vs ds
def RV.view (ρ : Rho) : RV → Option PyData
  | .d x => some x
  | .ow i => match ρ[i]? with
    | some (some (.ow (.lst _ ds))) => some (.list ds)
    | _ => none
section
variable {C : Fc} {O : List Addr} {Z : Zp} {ρ ρ' ρ1 ρ2 : Rho} {σ : L2.St} {H H' H1 H2 : Hp} {v : V} {r : RV} {d : PyData}
theorem OwR.kp {a : Addr} {s : OS} {M : List Addr} (h : OwR C Z H O a s) (k : Kp H H' M) (n : a ∉ M) (t : ∀ x ∈ M, x ∈ C.av Z O) : OwR C Z H' O a s := by
  cases s with
  | lst q ds => obtain ⟨f, vs, e, g⟩ := h; exact ⟨f, vs, k.lst e n, g.kp k t⟩
theorem SlV.kp0 {dv : DV} (h : SlV C Z H O v dv) (k : Kp H H' []) : SlV C Z H' O v dv := by
  cases dv with
  | d x => exact Dv.kp0 h k
  | ow s => obtain ⟨a, e, m, g⟩ := h; exact ⟨a, e, m, g.kp k (by simp) fun _ z => nomatch z⟩
theorem Rl.kp0 (R : Rl C O Z ρ σ H) (k : Kp H H' []) : Rl C O Z ρ σ H' where
  fr := R.fr.then k
  own := R.own
  sub := R.sub
  tb := fun P h => k.tabG (R.tb P h)
  al := fun a h => let ⟨o, e, t⟩ := R.al a h; ⟨o, k.keep a o e t (by simp), t⟩
  alB := fun a h z => R.alB a h (k.free z (by simp))
  len := R.len
  sl := fun i dv e => let ⟨v, e1, h⟩ := R.sl i dv e; ⟨v, e1, h.kp0 k⟩
  gA := fun a h z => R.gA a h (k.free z (by simp))
  gO := R.gO
  zz := fun p m => (R.zz p m).kp0 k
  ds := R.ds
theorem Sh.refl (ρ : Rho) : Sh ρ ρ := fun _ s h => ⟨s, h⟩
theorem Sh.trans (a : Sh ρ ρ1) (b : Sh ρ1 ρ2) : Sh ρ ρ2 := fun i s h => let ⟨s1, h1⟩ := b i s h; a i s1 h1
theorem Go.refl (R : Rl C O Z ρ σ H) : Go C O Z σ ρ H ρ H := ⟨Sh.refl ρ, R, (Kp.refl H).up0⟩
theorem Go.trans (a : Go C O Z σ ρ H ρ1 H1) (b : Go C O Z σ ρ1 H1 ρ2 H2) : Go C O Z σ ρ H ρ2 H2 := ⟨a.sh.trans b.sh, b.rl, a.kp.both b.kp⟩
theorem Go.new (a : Go C O Z σ ρ H ρ1 H1) (k : Kp H1 H2 []) : Go C O Z σ ρ H ρ1 H2 := ⟨a.sh, a.rl.kp0 k, a.kp.then k⟩
theorem RvR.go (h : RvR C.K H (C.av Z O) σ v r) (g : Go C O Z σ ρ H ρ' H') : RvR C.K H' (C.av Z O) σ v r := by
  cases r with
  | d x => exact Dv.kp h g.kp fun x m => List.mem_append_left _ m
  | ow i => exact h
theorem Rl.own_slot (R : Rl C O Z ρ σ H) {i : Nat} {s : OS} (e : ρ[i]? = some (some (.ow s))) : ∃ a, σ[i]? = some (some (.ref a)) ∧ a ∈ O ∧ OwR C Z H O a s := by
  obtain ⟨v, e1, a, rfl, m, g⟩ := R.sl i _ e
  exact ⟨a, e1, m, g⟩
theorem RvR.dz (h : RvR C.K H (C.av Z O) σ v r) (R : Rl C O Z ρ σ H) (e : r.view ρ = some d) : Dz C.K H (C.av Z O) v d := by
  cases r with
  | d x => cases e; exact .inl h
  | ow i =>
    have e : (match ρ[i]? with
      | some (some (.ow (.lst _ ds))) => some (.list ds)
      | _ => none) = some d := e
    split at e
    · rename_i ds q
      cases e
      obtain ⟨a, e1, m, _, vs, e2, g⟩ := R.own_slot q
      have h : σ[i]? = some (some v) := h
      rw [e1] at h
      cases h
      exact .inr ⟨a, vs, ds, rfl, rfl, e2, g⟩
    · cases e
theorem Dz.dp {K : PySem.W.Frag} (h : Dz K H O v d) (c : PyData.canLay0 d = true) : Dp K H v d := by
  rcases h with h | ⟨a, vs, ds, rfl, rfl, e, g⟩
  · exact h.dp c
  · exact .lst (SqL.of e) (g.dp (by simpa [PyData.canLay0] using c))
theorem Dz.list {K : PySem.W.Frag} {ds : List PyData} (h : Dz K H O v (.list ds)) : ∃ a vs, v = .ref a ∧ H a = some (.lst vs) ∧ DvAll K H O vs ds := by
  rcases h with h | ⟨a, vs, ds', rfl, e, e2, g⟩
  · cases h with | lst l g => exact ⟨_, _, rfl, l.2, g⟩
  · cases e; exact ⟨a, vs, rfl, e2, g⟩
theorem Dz.tup {K : PySem.W.Frag} {ds : List PyData} (h : Dz K H O v (.tuple ds)) : ∃ a vs, v = .ref a ∧ TpR K H O a vs ∧ DvAll K H O vs ds := by
  rcases h with h | ⟨a, vs, ds', rfl, e, e2, g⟩
  · cases h with | tup l g => exact ⟨_, _, rfl, l, g⟩
  · cases e
theorem Dz.int {K : PySem.W.Frag} {i : Int} (h : Dz K H O v (.int i)) : v = .int i := by
  rcases h with h | ⟨a, vs, ds', rfl, e, e2, g⟩
  · cases h; rfl
  · cases e
theorem Dz.str {K : PySem.W.Frag} {x : Str} (h : Dz K H O v (.str x)) : v = .str x := by
  rcases h with h | ⟨a, vs, ds', rfl, e, e2, g⟩
  · cases h; rfl
  · cases e
theorem Dz.bool {K : PySem.W.Frag} {b : Bool} (h : Dz K H O v (.bool b)) : v = .bl b := by
  rcases h with h | ⟨a, vs, ds', rfl, e, e2, g⟩
  · cases h; rfl
  · cases e
theorem Dz.non {K : PySem.W.Frag} (h : Dz K H O v .none) : v = .non := by
  rcases h with h | ⟨a, vs, ds', rfl, e, e2, g⟩
  · cases h; rfl
  · cases e
theorem Dv.tupNew {K : PySem.W.Frag} {p : Addr} {vs : List V} {ds : List PyData} (hp : H p = none) (al : ∀ a ∈ O, H a ≠ none) (g : DvAll K H O vs ds) : Dv K (upd H p (.tup vs)) O (.ref p) (.tuple ds) :=
  .tup (.inl ⟨fun m => al p m hp, .inl upd_same⟩) (g.kp0 (Kp.new hp))
theorem Dv.lstNew {K : PySem.W.Frag} {p : Addr} {vs : List V} {ds : List PyData} (hp : H p = none) (al : ∀ a ∈ O, H a ≠ none) (g : DvAll K H O vs ds) : Dv K (upd H p (.lst vs)) O (.ref p) (.list ds) :=
  .lst ⟨fun m => al p m hp, upd_same⟩ (g.kp0 (Kp.new hp))
theorem Rl.alN (R : Rl C O Z ρ σ H) : ∀ a ∈ C.av Z O, H a ≠ none := fun a m => (List.mem_append.mp m).elim (fun m => let ⟨o, e, _⟩ := R.al a m; by rw [e]; exact fun z => nomatch z) fun m => (List.mem_append.mp m).elim (R.gA a) (R.alB a)
end
/-! ### expressions -/
abbrev DE := Rho → (RV → Rho → Prop) → Prop
abbrev DT := Rho → (Bool → Rho → Prop) → Prop
abbrev DA := Rho → (List RV → Rho → Prop) → Prop
structure RE (C : Fc) (te : TE) (de : DE) : Prop where
  run : ∀ (O : List Addr) (Z : Zp) (ρ : Rho) (σ : L2.St) (H : Hp) (Q : VK) (k : RV → Rho → Prop), Rl C O Z ρ σ H → de ρ k → (∀ r ρ' v H', k r ρ' → Go C O Z σ ρ H ρ' H' → RvR C.K H' (C.av Z O) σ v r → Q v H') → te σ H Q
structure RT (C : Fc) (tt : TT) (dt : DT) : Prop where
  run : ∀ (O : List Addr) (Z : Zp) (ρ : Rho) (σ : L2.St) (H : Hp) (Q : Bool → Hp → Prop) (k : Bool → Rho → Prop), Rl C O Z ρ σ H → dt ρ k → (∀ b ρ' H', k b ρ' → Go C O Z σ ρ H ρ' H' → Q b H') → tt σ H Q
structure RA (C : Fc) (ta : TA) (da : DA) : Prop where
  run : ∀ (O : List Addr) (Z : Zp) (ρ : Rho) (σ : L2.St) (H : Hp) (Q : List V → Hp → Prop) (k : List RV → Rho → Prop), Rl C O Z ρ σ H → da ρ k → (∀ rs ρ' vs H', k rs ρ' → Go C O Z σ ρ H ρ' H' → Paired (RvR C.K H' (C.av Z O) σ) vs rs → Q vs H') → ta σ H Q
structure PD (X : Cx) (C : Fc) (e : Expr) (te : TE) (de : DE) : Prop where
  pe : PE X e te
  re : RE C te de
structure PDt (X : Cx) (C : Fc) (e : Expr) (tt : TT) (dt : DT) : Prop where
  pe : PT X e tt
  re : RT C tt dt
structure PDw (X : Cx) (C : Fc) (e : Expr) (tt : TT) (dt : DT) : Prop where
  pe : PW X e tt
  re : RT C tt dt
structure PDa (X : Cx) (C : Fc) (es : List Expr) (ta : TA) (da : DA) : Prop where
  pe : PA X es ta
  re : RA C ta da
def dK (x : PyData) : DE := fun ρ Q => Q (.d x) ρ
def dVar (i : Nat) : DE := fun ρ Q => match ρ[i]? with
  | some (some (.d x)) => Q (.d x) ρ
  | some (some (.ow _)) => Q (.ow i) ρ
  | _ => False
/-- data of two results, read when both have come -/
def dView2 (r1 r2 : RV) (ρ : Rho) (k : PyData → PyData → Prop) : Prop := match r1.view ρ, r2.view ρ with
  | some x, some y => k x y
  | _, _ => False
def dOp (dr : PyData → PyData → (PyData → Prop) → Prop) (da db : DE) : DE := fun ρ Q => da ρ fun r1 ρ1 => db ρ1 fun r2 ρ2 => dView2 r1 r2 ρ2 fun x y => dr x y fun z => Q (.d z) ρ2
def dView (r : RV) (ρ : Rho) (k : PyData → Prop) : Prop := match r.view ρ with
  | some x => k x
  | none => False
def dUn (dr : PyData → (PyData → Prop) → Prop) (da : DE) : DE := fun ρ Q => da ρ fun r ρ1 => dView r ρ1 fun x => dr x fun z => Q (.d z) ρ1
/-- an operation on data -/
def OpD (K : PySem.W.Frag) (r : R2) (dr : PyData → PyData → (PyData → Prop) → Prop) : Prop := ∀ (O : List Addr) (H : Hp) (x y : V) (dx dy : PyData) (Q : VK) (k : PyData → Prop), (∀ a ∈ O, H a ≠ none) → Dz K H O x dx → Dz K H O y dy → dr dx dy k →
  (∀ z v H', k z → Kp H H' [] → Dv K H' O v z → Q v H') → r x y H Q
def UnD (K : PySem.W.Frag) (r : V → Hp → VK → Prop) (dr : PyData → (PyData → Prop) → Prop) : Prop := ∀ (O : List Addr) (H : Hp) (x : V) (dx : PyData) (Q : VK) (k : PyData → Prop), (∀ a ∈ O, H a ≠ none) → Dz K H O x dx → dr dx k →
  (∀ z v H', k z → Kp H H' [] → Dv K H' O v z → Q v H') → r x H Q
section
variable {X : Cx} {C : Fc} {a b e : Expr} {es : List Expr} {ta tb te : TE} {da db de : DE} {pos : Pos} {r : R2} {dr : PyData → PyData → (PyData → Prop) → Prop}
theorem re_c {v : V} {x : PyData} (h : ∀ H O, Dv C.K H O v x) : RE C (tC v) (dK x) := ⟨fun _ _ _ _ _ _ _ R hk q => q _ _ _ _ hk (Go.refl R) (h _ _)⟩
theorem pd_int {i j} : PD X C (.Constant (.int i) j pos) (tC (.int i)) (dK (.int i)) := ⟨pe_int, re_c fun _ _ => .int i⟩
theorem pd_bl {i j} : PD X C (.Constant (.bool i) j pos) (tC (.bl i)) (dK (.bool i)) := ⟨pe_bl, re_c fun _ _ => .bl i⟩
theorem pd_str {i j} : PD X C (.Constant (.str i) j pos) (tC (.str i)) (dK (.str i)) := ⟨pe_str, re_c fun _ _ => .str i⟩
theorem pd_non {j} : PD X C (.Constant .none j pos) (tC .non) (dK .none) := ⟨pe_non, re_c fun _ _ => .non⟩
theorem pd_c {v : V} {x : PyData} (h : PE X e (tC v)) (g : ∀ H O, Dv C.K H O v x) : PD X C e (tC v) (dK x) := ⟨h, re_c g⟩
theorem re_var (i : Nat) : RE C (tVar i) (dVar i) := by
  refine ⟨fun O Z ρ σ H Q k R hk q => ?_⟩
  unfold dVar at hk
  split at hk
  · rename_i x e
    obtain ⟨v, e1, h⟩ := R.sl i _ e
    exact ⟨v, e1, q _ _ _ _ hk (Go.refl R) h⟩
  · rename_i s e
    obtain ⟨v, e1, h⟩ := R.sl i _ e
    exact ⟨v, e1, q _ _ _ _ hk (Go.refl R) e1⟩
  · exact hk.elim
theorem pd_var {i : Nat} (h : PE X e (tVar i)) : PD X C e (tVar i) (dVar i) := ⟨h, re_var i⟩
theorem re_op (ho : OpD C.K r dr) (ha : RE C ta da) (hb : RE C tb db) : RE C (tOp r ta tb) (dOp dr da db) := by
  refine ⟨fun O Z ρ σ H Q k R hk q => ?_⟩
  refine ha.run O Z ρ σ H _ _ R hk fun r1 ρ1 x H1 h1 g1 rx => ?_
  refine hb.run O Z ρ1 σ H1 _ _ g1.rl h1 fun r2 ρ2 y H2 h2 g2 ry => ?_
  unfold dView2 at h2
  split at h2
  · rename_i dx dy e1 e2
    refine ho (C.av Z O) H2 x y dx dy Q _ g2.rl.alN ((rx.go g2).dz g2.rl e1) (ry.dz g2.rl e2) h2 fun z v H' hz kp dz => ?_
    exact q _ _ _ _ hz ((g1.trans g2).new kp) dz
  · exact h2.elim
theorem pd_op {op : Operator} (ho : OpR X (binaryOp op) r) (hd : OpD C.K r dr) (ha : PD X C a ta da) (hb : PD X C b tb db) : PD X C (.BinOp a op b pos) (tOp r ta tb) (dOp dr da db) := ⟨pe_op ho ha.pe hb.pe, re_op hd ha.re hb.re⟩
theorem pd_cmp {op : CmpOp} (ho : OpR X (compareOp op) r) (hd : OpD C.K r dr) (ha : PD X C a ta da) (hb : PD X C b tb db) (hm : behindInMarks op b = false) : PD X C (.Compare a [op] [b] pos) (tOp r ta tb) (dOp dr da db) := ⟨pe_cmpR ho ha.pe hb.pe hm, re_op hd ha.re hb.re⟩
theorem pd_ix (ho : IxR X r) (hd : OpD C.K r dr) (ha : PD X C a ta da) (hb : PD X C b tb db) (hs : PlainIx b) : PD X C (.Subscript a b pos) (tOp r ta tb) (dOp dr da db) := ⟨pe_ix ho ha.pe hb.pe hs, re_op hd ha.re hb.re⟩
theorem re_un {ru : V → Hp → VK → Prop} {du : PyData → (PyData → Prop) → Prop} (ho : UnD C.K ru du) (ha : RE C ta da) : RE C (tUn ru ta) (dUn du da) := by
  refine ⟨fun O Z ρ σ H Q k R hk q => ?_⟩
  refine ha.run O Z ρ σ H _ _ R hk fun r1 ρ1 x H1 h1 g1 rx => ?_
  unfold dView at h1
  split at h1
  · rename_i dx e1
    exact ho (C.av Z O) H1 x dx Q _ g1.rl.alN (rx.dz g1.rl e1) h1 fun z v H' hz kp dz => q _ _ _ _ hz (g1.new kp) dz
  · exact h1.elim
theorem pd_un {op : UnaryOp} {ru : V → Hp → VK → Prop} {du : PyData → (PyData → Prop) → Prop} (ho : UnR X (unaryOp op) ru) (hd : UnD C.K ru du) (ha : PD X C a ta da) : PD X C (.UnaryOp op a pos) (tUn ru ta) (dUn du da) := ⟨pe_un ho ha.pe, re_un hd ha.re⟩
/-! ### argument lists, displays -/
def dNil : DA := fun ρ Q => Q [] ρ
def dCons (da : DE) (dr : DA) : DA := fun ρ Q => da ρ fun r ρ1 => dr ρ1 fun rs ρ2 => Q (r :: rs) ρ2
theorem paired_go {O : List Addr} {Z : Zp} {σ : L2.St} {ρ ρ' : Rho} {H H' : Hp} (g : Go C O Z σ ρ H ρ' H') : ∀ {vs : List V} {rs : List RV}, Paired (RvR C.K H (C.av Z O) σ) vs rs → Paired (RvR C.K H' (C.av Z O) σ) vs rs
  | _, _, .nil => .nil
  | _, _, .cons h t => .cons (h.go g) (paired_go g t)
theorem pda_nil : PDa X C [] tNil dNil := ⟨pa_nil, ⟨fun _ _ _ _ _ _ _ R hk q => q _ _ _ _ hk (Go.refl R) .nil⟩⟩
theorem pda_cons {tr : TA} {dr : DA} (ha : PD X C e te de) (hr : PDa X C es tr dr) (hs : starEach (e :: es) X.env = (false, eval e X.env) :: starEach es X.env := by rfl) : PDa X C (e :: es) (tCons te tr) (dCons de dr) := by
  refine ⟨pa_cons ha.pe hr.pe hs, ⟨fun O Z ρ σ H Q k R hk q => ?_⟩⟩
  refine ha.re.run O Z ρ σ H _ _ R hk fun r1 ρ1 x H1 h1 g1 rx => ?_
  exact hr.re.run O Z ρ1 σ H1 _ _ g1.rl h1 fun rs ρ2 vs H2 h2 g2 rv => q _ _ _ _ h2 (g1.trans g2) (.cons (rx.go g2) rv)
/-- data of results -/
def dViews : List RV → Rho → Option (List PyData)
  | [], _ => some []
  | r :: rs, ρ => match r.view ρ, dViews rs ρ with
    | some x, some xs => some (x :: xs)
    | _, _ => none
/-- results that are data themselves, to be kept -/
def dData : List RV → Option (List PyData)
  | [] => some []
  | .d x :: rs => (dData rs).map (x :: ·)
  | .ow _ :: _ => none
theorem dData_all {O : List Addr} {σ : L2.St} {H : Hp} : ∀ {vs : List V} {rs : List RV} {ds : List PyData}, Paired (RvR C.K H (C.av Z O) σ) vs rs → dData rs = some ds → DvAll C.K H (C.av Z O) vs ds
  | _, [], _, .nil, e => by cases e; exact .nil
  | _, .d x :: rs, _, .cons h t, e => by
    unfold dData at e
    cases q : dData rs with
    | none => rw [q] at e; cases e
    | some xs =>
      rw [q] at e
      cases e
      exact .cons h (dData_all t q)
  | _, .ow _ :: _, _, .cons _ _, e => by cases e
theorem dViews_all {O : List Addr} {Z : Zp} {σ : L2.St} {ρ : Rho} {H : Hp} (R : Rl C O Z ρ σ H) : ∀ {vs : List V} {rs : List RV} {ds : List PyData}, Paired (RvR C.K H (C.av Z O) σ) vs rs → dViews rs ρ = some ds → Paired (Dz C.K H (C.av Z O)) vs ds
  | _, [], _, .nil, e => by cases e; exact .nil
  | _, r :: rs, _, .cons h t, e => by
    unfold dViews at e
    split at e
    · rename_i x xs q1 q2
      cases e
      exact .cons (h.dz R q1) (dViews_all R t q2)
    · cases e
def dTup (da : DA) : DE := fun ρ Q => da ρ fun rs ρ1 => match dData rs with
  | some ds => ds.length ≤ sizeLine ∧ Q (.d (.tuple ds)) ρ1
  | none => False
theorem pd_tup {tas : TA} {das : DA} {x1} (h : PDa X C es tas das) : PD X C (.Tuple es x1 pos) (tTup tas) (dTup das) := by
  refine ⟨pe_tup h.pe, ⟨fun O Z ρ σ H Q k R hk q => ?_⟩⟩
  refine h.re.run O Z ρ σ H _ _ R hk fun rs ρ1 vs H1 h1 g1 rv => ?_
  split at h1
  · rename_i ds e
    have dv := dData_all rv e
    refine ⟨by rw [dv.length]; exact h1.1, fun p hp => q _ _ _ _ h1.2 (g1.new (Kp.new hp)) (Dv.tupNew hp g1.rl.alN dv)⟩
  · exact h1.elim
/-! ### new lists: to be kept as data, or owned by a slot -/
abbrev DF := Rho → (List PyData → Rho → Prop) → Prop
structure RF (C : Fc) (te : TE) (df : DF) : Prop where
  run : ∀ (O : List Addr) (Z : Zp) (ρ : Rho) (σ : L2.St) (H : Hp) (Q : VK) (k : List PyData → Rho → Prop), Rl C O Z ρ σ H → df ρ k → (∀ ds ρ' vs a H', k ds ρ' → Go C O Z σ ρ H ρ' H' → Rl C O (Z.guard a) ρ' σ H' → a ∉ C.av Z O → C.H0 a = none → H' a = some (.lst vs) → DvAll C.K H' (C.av (Z.guard a) O) vs ds → Q (.ref a) H') → te σ H Q
structure PF (X : Cx) (C : Fc) (e : Expr) (te : TE) (df : DF) : Prop where
  pe : PE X e te
  re : RF C te df
def dFrz (df : DF) : DE := fun ρ Q => df ρ fun ds ρ1 => Q (.d (.list ds)) ρ1
theorem guard_sub {C : Fc} {Z : Zp} {O : List Addr} {a : Addr} : ∀ x ∈ C.av Z O, x ∈ C.av (Z.guard a) O := fun x m =>
  (List.mem_append.mp m).elim (List.mem_append_left _) fun m => List.mem_append_right _ (List.mem_cons_of_mem _ m)
theorem guard_cons {C : Fc} {Z : Zp} {O : List Addr} {a : Addr} : ∀ x ∈ C.av (Z.guard a) O, x ∈ a :: C.av Z O := fun x m => by
  rcases List.mem_append.mp m with m | m
  · exact List.mem_cons_of_mem _ (List.mem_append_left _ m)
  · rcases List.mem_cons.mp (show x ∈ a :: (Z.gd ++ C.B) from m) with rfl | m
    · exact List.mem_cons_self
    · exact List.mem_cons_of_mem _ (List.mem_append_right _ m)
theorem guard_take {C : Fc} {Z : Zp} {O : List Addr} {a : Addr} : ∀ x ∈ C.av Z (a :: O), x ∈ C.av (Z.guard a) O := fun x m => by
  rcases List.mem_cons.mp (show x ∈ a :: (O ++ (Z.gd ++ C.B)) from m) with rfl | m
  · exact List.mem_append_right _ List.mem_cons_self
  · exact guard_sub x m
theorem pd_frz {df : DF} (h : PF X C e te df) : PD X C e te (dFrz df) :=
  ⟨h.pe, ⟨fun O Z ρ σ H Q k R hk q => h.re.run O Z ρ σ H Q _ R hk fun ds ρ' vs a H' hd g _ n _ e dv => q _ _ _ _ hd g (.lst ⟨n, e⟩ (dv.sub guard_sub))⟩⟩
theorem SlV.to {C : Fc} {Z Z' : Zp} {H : Hp} {O O' : List Addr} {v : V} {dv : DV} (h : SlV C Z H O v dv) (s : ∀ x ∈ C.av Z' O', x ∈ C.av Z O) (t : ∀ x ∈ O, x ∈ O') : SlV C Z' H O' v dv := by
  cases dv with
  | d x => exact Dv.sub h s
  | ow w =>
    obtain ⟨a, e, m, g⟩ := h
    refine ⟨a, e, t a m, ?_⟩
    cases w with
    | lst q ds => obtain ⟨f, vs, e1, g⟩ := g; exact ⟨f, vs, e1, g.sub s⟩
theorem SlV.guard {C : Fc} {Z : Zp} {H : Hp} {O : List Addr} {v : V} {dv : DV} {p : Addr} (h : SlV C Z H O v dv) (n : H p = none) : SlV C (Z.guard p) H O v dv := by
  cases dv with
  | d x => exact (Dv.add h n).sub guard_cons
  | ow s =>
    obtain ⟨a, e, m, g⟩ := h
    refine ⟨a, e, m, ?_⟩
    cases s with
    | lst q ds => obtain ⟨f, vs, e1, g⟩ := g; exact ⟨f, vs, e1, (g.add n).sub guard_cons⟩
section
variable {O : List Addr} {Z : Zp} {ρ : Rho} {σ : L2.St} {H : Hp} {p : Addr}
theorem Rl.guard_new {vs : List V} (R : Rl C O Z ρ σ H) (hp : H p = none) : Rl C O (Z.guard p) ρ σ (upd H p (.lst vs)) ∧ C.H0 p = none ∧ p ∉ C.av Z O := by
  have n : p ∉ C.av Z O := fun m => R.alN p m hp
  have k : Kp H (upd H p (.lst vs)) [] := Kp.new hp
  have h0 : C.H0 p = none := R.fr.free hp fun m => n (List.mem_append_left _ (R.sub p m))
  refine ⟨⟨R.fr.then k, R.own, R.sub, fun P h => k.tabG (R.tb P h), fun a m => ?_, fun a h z => R.alB a h (k.free z (by simp)), R.len, fun i dv e => ?_, fun a m => ?_, fun a m => ?_, fun q m => (((R.zz q m).add hp).sub guard_cons).kp0 k, R.ds⟩, h0, n⟩
  · obtain ⟨o, e, t⟩ := R.al a m
    exact ⟨o, k.keep a o e t (by simp), t⟩
  · obtain ⟨v, e1, h⟩ := R.sl i dv e
    exact ⟨v, e1, (h.guard hp).kp0 k⟩
  · rcases List.mem_cons.mp m with rfl | m
    · rw [upd_same]
      exact fun z => nomatch z
    · exact fun z => R.gA a m (k.free z (by simp))
  · rcases List.mem_cons.mp m with rfl | m
    · exact fun z => n (List.mem_append_left _ z)
    · exact R.gO a m
theorem Rl.unguard (R : Rl C O (Z.guard p) ρ σ H) : Rl C O Z ρ σ H :=
  ⟨R.fr, R.own, R.sub, R.tb, R.al, R.alB, R.len, fun i dv e => let ⟨v, e1, h⟩ := R.sl i dv e; ⟨v, e1, h.to guard_sub fun _ m => m⟩, fun a m => R.gA a (List.mem_cons_of_mem _ m), fun a m => R.gO a (List.mem_cons_of_mem _ m), fun q m => (R.zz q m).sub guard_sub, R.ds⟩
theorem Rl.take {vs : List V} (R : Rl C O (Z.guard p) ρ σ H) (n : p ∉ C.av Z O) (h0 : C.H0 p = none) (e : H p = some (.lst vs)) : Rl C (p :: O) Z ρ σ H := by
  refine ⟨R.fr, fun a m => ?_, fun a m => List.mem_cons_of_mem _ (R.sub a m), R.tb, fun a m => ?_, R.alB, R.len, fun i dv e => ?_, fun a m => R.gA a (List.mem_cons_of_mem _ m), fun a m z => ?_, fun q m => (R.zz q m).sub guard_take, R.ds⟩
  · rcases List.mem_cons.mp m with rfl | m
    · exact .inr h0
    · exact R.own a m
  · rcases List.mem_cons.mp m with rfl | m
    · exact ⟨_, e, fun _ z => nomatch z⟩
    · exact R.al a m
  · obtain ⟨v, e1, h⟩ := R.sl i dv e
    exact ⟨v, e1, h.to guard_take fun _ m => List.mem_cons_of_mem _ m⟩
  · rcases List.mem_cons.mp z with rfl | z
    · exact n (List.mem_append_right _ (List.mem_append_left _ m))
    · exact R.gO a (List.mem_cons_of_mem _ m) z
end
def dLst (da : DA) : DF := fun ρ Q => da ρ fun rs ρ1 => match dData rs with
  | some ds => ds.length ≤ sizeLine ∧ Q ds ρ1
  | none => False
theorem pf_lst {tas : TA} {das : DA} (h : PDa X C es tas das) : PF X C (.List es pos) (tLst tas) (dLst das) := by
  refine ⟨pe_lst h.pe, ⟨fun O Z ρ σ H Q k R hk q => ?_⟩⟩
  refine h.re.run O Z ρ σ H _ _ R hk fun rs ρ1 vs H1 h1 g1 rv => ?_
  split at h1
  · rename_i ds e
    have dv := dData_all rv e
    refine ⟨by rw [dv.length]; exact h1.1, fun p hp => ?_⟩
    obtain ⟨R2, h0, n⟩ := g1.rl.guard_new (vs := vs) hp
    exact q _ _ _ _ _ h1.2 (g1.new (Kp.new hp)) R2 n h0 upd_same (((dv.add hp).sub guard_cons).kp0 (Kp.new hp))
  · exact h1.elim
/-! ### tests, choices -/
def dB (de : DE) : DT := fun ρ Q => de ρ fun r ρ1 => dView r ρ1 fun x => match x with
  | .bool c => Q c ρ1
  | _ => False
theorem rt_b (h : RE C te de) : RT C (tB te) (dB de) := by
  refine ⟨fun O Z ρ σ H Q k R hk q => ?_⟩
  refine h.run O Z ρ σ H _ _ R hk fun r1 ρ1 x H1 h1 g1 rx => ?_
  unfold dView at h1
  split at h1
  · rename_i dx e1
    cases dx with
    | bool c => exact ⟨c, (rx.dz g1.rl e1).bool, q _ _ _ h1 g1⟩
    | _ => exact h1.elim
  · exact h1.elim
theorem pdt_val (h : PD X C e te de) (he : ∀ whole, isTrue e X.env whole = (do let v ← whole; standAt e.pos; holding [v] (truthy v)) := by intro _; rfl) : PDt X C e (tB te) (dB de) := ⟨pt_val h.pe he, rt_b h.re⟩
theorem pdt_cmp {op : CmpOp} (ho : OpR X (compareOp op) r) (hd : OpD C.K r dr) (ha : PD X C a ta da) (hb : PD X C b tb db) (hm : behindInMarks op b = false) : PDt X C (.Compare a [op] [b] pos) (tTest (tOp r ta tb)) (dB (dOp dr da db)) :=
  ⟨pt_cmpR ho ha.pe hb.pe hm, rt_b (re_op hd ha.re hb.re)⟩
def dNot (t : DT) : DT := fun ρ Q => t ρ fun c ρ1 => Q (!c) ρ1
def dAnd (t u : DT) : DT := fun ρ Q => t ρ fun c ρ1 => cond c (u ρ1 Q) (Q false ρ1)
def dOr (t u : DT) : DT := fun ρ Q => t ρ fun c ρ1 => cond c (Q true ρ1) (u ρ1 Q)
section
variable {c : Expr} {rest : List Expr} {tt uu : TT} {dt du : DT}
theorem pdt_not (h : PDt X C a tt dt) : PDt X C (.UnaryOp .Not a pos) (tNot tt) (dNot dt) :=
  ⟨pt_not h.pe, ⟨fun O Z ρ σ H Q k R hk q => h.re.run O Z ρ σ H _ _ R hk fun b ρ1 H1 h1 g1 => q _ _ _ h1 g1⟩⟩
theorem pdw_and1 (h : PDt X C a tt dt) : PDw X C (.BoolOp .And [a] pos) tt dt := ⟨pw_and1 h.pe, h.re⟩
theorem pdw_or1 (h : PDt X C a tt dt) : PDw X C (.BoolOp .Or [a] pos) tt dt := ⟨pw_or1 h.pe, h.re⟩
theorem pdw_and (h : PDt X C a tt dt) (g : PDw X C (.BoolOp .And (b :: rest) pos) uu du) : PDw X C (.BoolOp .And (a :: b :: rest) pos) (tAnd tt uu) (dAnd dt du) := by
  refine ⟨pw_and h.pe g.pe, ⟨fun O Z ρ σ H Q k R hk q => ?_⟩⟩
  refine h.re.run O Z ρ σ H _ _ R hk fun c ρ1 H1 h1 g1 => ?_
  cases c with
  | true =>
    rw [if_pos rfl]
    exact g.re.run O Z ρ1 σ H1 _ _ g1.rl h1 fun b ρ2 H2 h2 g2 => q _ _ _ h2 (g1.trans g2)
  | false =>
    rw [if_neg (by decide)]
    exact q _ _ _ h1 g1
theorem pdw_or (h : PDt X C a tt dt) (g : PDw X C (.BoolOp .Or (b :: rest) pos) uu du) : PDw X C (.BoolOp .Or (a :: b :: rest) pos) (tOr tt uu) (dOr dt du) := by
  refine ⟨pw_or h.pe g.pe, ⟨fun O Z ρ σ H Q k R hk q => ?_⟩⟩
  refine h.re.run O Z ρ σ H _ _ R hk fun c ρ1 H1 h1 g1 => ?_
  cases c with
  | false =>
    rw [if_neg (by decide)]
    exact g.re.run O Z ρ1 σ H1 _ _ g1.rl h1 fun b ρ2 H2 h2 g2 => q _ _ _ h2 (g1.trans g2)
  | true =>
    rw [if_pos rfl]
    exact q _ _ _ h1 g1
theorem PDw.pt (h : PDw X C a tt dt) : PDt X C a tt dt := ⟨h.pe.pt, h.re⟩
def dIf (t : DT) (a b : DE) : DE := fun ρ Q => t ρ fun c ρ1 => cond c (a ρ1 Q) (b ρ1 Q)
theorem pd_ifExp (h : PDt X C c tt dt) (ha : PD X C a ta da) (hb : PD X C b tb db) : PD X C (.IfExp c a b pos) (tIf tt ta tb) (dIf dt da db) := by
  refine ⟨pe_ifExp h.pe ha.pe hb.pe, ⟨fun O Z ρ σ H Q k R hk q => ?_⟩⟩
  refine h.re.run O Z ρ σ H _ _ R hk fun c ρ1 H1 h1 g1 => ?_
  cases c with
  | true =>
    rw [if_pos rfl]
    exact ha.re.run O Z ρ1 σ H1 _ _ g1.rl h1 fun b ρ2 v H2 h2 g2 rv => q _ _ _ _ h2 (g1.trans g2) rv
  | false =>
    rw [if_neg (by decide)]
    exact hb.re.run O Z ρ1 σ H1 _ _ g1.rl h1 fun b ρ2 v H2 h2 g2 rv => q _ _ _ _ h2 (g1.trans g2) rv
/-- and, or, not as values (truth values) -/
def dBool (t : DT) : DE := fun ρ Q => t ρ fun c ρ1 => Q (.d (.bool c)) ρ1
def dAndV (a b : DE) : DE := fun ρ Q => dB a ρ fun c ρ1 => cond c (b ρ1 Q) (Q (.d (.bool false)) ρ1)
def dOrV (a b : DE) : DE := fun ρ Q => dB a ρ fun c ρ1 => cond c (Q (.d (.bool true)) ρ1) (b ρ1 Q)
theorem pd_one {op} (h : PD X C a ta da) : PD X C (.BoolOp op [a] pos) ta da := ⟨pe_one h.pe, h.re⟩
theorem pd_and (ha : PD X C a ta da) (hb : PD X C (.BoolOp .And (b :: rest) pos) tb db) : PD X C (.BoolOp .And (a :: b :: rest) pos) (tAndV ta tb) (dAndV da db) := by
  refine ⟨pe_and ha.pe hb.pe, ⟨fun O Z ρ σ H Q k R hk q => ?_⟩⟩
  refine (rt_b ha.re).run O Z ρ σ H (fun c H1 => if c = true then tb σ H1 Q else Q (.bl false) H1) _ R hk fun c ρ1 H1 h1 g1 => ?_
  cases c with
  | true =>
    rw [if_pos rfl]
    exact hb.re.run O Z ρ1 σ H1 _ _ g1.rl h1 fun b ρ2 v H2 h2 g2 rv => q _ _ _ _ h2 (g1.trans g2) rv
  | false =>
    rw [if_neg (by decide)]
    exact q _ _ _ _ h1 g1 (.bl false)
theorem pd_or (ha : PD X C a ta da) (hb : PD X C (.BoolOp .Or (b :: rest) pos) tb db) : PD X C (.BoolOp .Or (a :: b :: rest) pos) (tOrV ta tb) (dOrV da db) := by
  refine ⟨pe_or ha.pe hb.pe, ⟨fun O Z ρ σ H Q k R hk q => ?_⟩⟩
  refine (rt_b ha.re).run O Z ρ σ H (fun c H1 => if c = true then Q (.bl true) H1 else tb σ H1 Q) _ R hk fun c ρ1 H1 h1 g1 => ?_
  cases c with
  | false =>
    rw [if_neg (by decide)]
    exact hb.re.run O Z ρ1 σ H1 _ _ g1.rl h1 fun b ρ2 v H2 h2 g2 rv => q _ _ _ _ h2 (g1.trans g2) rv
  | true =>
    rw [if_pos rfl]
    exact q _ _ _ _ h1 g1 (.bl true)
def dNotV (a : DE) : DE := fun ρ Q => dB a ρ fun c ρ1 => Q (.d (.bool (!c))) ρ1
theorem pd_not (ha : PD X C a ta da) : PD X C (.UnaryOp .Not a pos) (tNotV ta) (dNotV da) := by
  refine ⟨pe_not ha.pe, ⟨fun O Z ρ σ H Q k R hk q => ?_⟩⟩
  exact (rt_b ha.re).run O Z ρ σ H (fun c H1 => Q (.bl (!c)) H1) _ R hk fun c ρ1 H1 h1 g1 => q _ _ _ _ h1 g1 (.bl _)
end
end
end DL

set_option Elab.async false
set_option linter.all false
set_option maxRecDepth 100000
set_option maxHeartbeats 4000000
namespace DL
open PySem PySem.Spec PyProof.Rows L2
/-! ### statements -/
structure DEnds where
  nx : Rho → Prop
  rt : RV → Rho → Prop
  bk : Rho → Prop := fun _ => False
  ct : Rho → Prop := fun _ => False
abbrev DS := DEnds → Rho → Prop
structure Comp (C : Fc) (Z : Zp) (D : Ends) (DD : DEnds) : Prop where
  nx : ∀ O ρ σ H, Rl C O Z ρ σ H → DD.nx ρ → D.nx σ H
  rt : ∀ O ρ σ H v r, Rl C O Z ρ σ H → RvR C.K H (C.av Z O) σ v r → DD.rt r ρ → D.rt v H
  bk : ∀ O ρ σ H, Rl C O Z ρ σ H → DD.bk ρ → D.bk σ H
  ct : ∀ O ρ σ H, Rl C O Z ρ σ H → DD.ct ρ → D.ct σ H
structure RS (C : Fc) (ts : TS) (ds : DS) : Prop where
  run : ∀ (O : List Addr) (Z : Zp) (D : Ends) (DD : DEnds) (ρ : Rho) (σ : L2.St) (H : Hp), Rl C O Z ρ σ H → Comp C Z D DD → ds DD ρ → ts D σ H
structure PDs (X : Cx) (C : Fc) (st : Stmt) (ts : TS) (ds : DS) : Prop where
  ps : PS X st ts
  rs : RS C ts ds
structure PDb (X : Cx) (C : Fc) (b : List Stmt) (ts : TS) (ds : DS) : Prop where
  ps : PSs X b ts
  rs : RS C ts ds
/-! ### targets -/
abbrev DG := PyData → Rho → (Rho → Prop) → Prop
structure RG (C : Fc) (g : TG) (dg : DG) : Prop where
  run : ∀ (O : List Addr) (Z : Zp) (ρ : Rho) (σ : L2.St) (H : Hp) (v : V) (x : PyData) (Q : L2.St → Hp → Prop) (k : Rho → Prop), Rl C O Z ρ σ H → Dv C.K H (C.av Z O) v x → dg x ρ k → (∀ ρ' σ', k ρ' → Sh ρ ρ' → Rl C O Z ρ' σ' H → Q σ' H) → g v σ H Q
structure PDg (X : Cx) (C : Fc) (e : Expr) (g : TG) (dg : DG) : Prop where
  pg : PG X e g
  rg : RG C g dg
abbrev DGs := List PyData → Rho → (Rho → Prop) → Prop
structure RGs (C : Fc) (g : TGs) (dg : DGs) : Prop where
  run : ∀ (O : List Addr) (Z : Zp) (ρ : Rho) (σ : L2.St) (H : Hp) (vs : List V) (xs : List PyData) (Q : L2.St → Hp → Prop) (k : Rho → Prop), Rl C O Z ρ σ H → DvAll C.K H (C.av Z O) vs xs → dg xs ρ k → (∀ ρ' σ', k ρ' → Sh ρ ρ' → Rl C O Z ρ' σ' H → Q σ' H) → g vs σ H Q
structure PDgs (X : Cx) (C : Fc) (es : List Expr) (g : TGs) (dg : DGs) : Prop where
  pg : PGs X es g
  rg : RGs C g dg
def dgName (i : Nat) : DG := fun x ρ k => k (ρ.set i (some (.d x)))
def dgNil : DGs := fun xs ρ k => match xs with
  | [] => k ρ
  | _ => False
def dgCons (g : DG) (gs : DGs) : DGs := fun xs ρ k => match xs with
  | x :: r => g x ρ fun ρ1 => gs r ρ1 k
  | [] => False
def dgTup (n : Nat) (gs : DGs) : DG := fun x ρ k => match x with
  | .tuple xs => xs.length = n ∧ gs xs ρ k
  | _ => False
section
variable {X : Cx} {C : Fc} {O : List Addr} {Z : Zp} {ρ : Rho} {σ : L2.St} {H : Hp}
theorem get_set {α : Type} {l : List α} {i j : Nat} {x y : α} (h : (l.set i x)[j]? = some y) : (i = j ∧ y = x ∧ i < l.length) ∨ (i ≠ j ∧ l[j]? = some y) := by
  rw [List.getElem?_set] at h
  by_cases e : i = j
  · rw [if_pos e] at h
    by_cases z : i < l.length
    · rw [if_pos z] at h
      exact .inl ⟨e, (Option.some.inj h).symm, z⟩
    · rw [if_neg z] at h
      cases h
  · rw [if_neg e] at h
    exact .inr ⟨e, h⟩
theorem Rl.set_d (R : Rl C O Z ρ σ H) {v : V} {x : PyData} (i : Nat) (h : Dv C.K H (C.av Z O) v x) : Rl C O Z (ρ.set i (some (.d x))) (σ.set i (some v)) H := by
  refine ⟨R.fr, R.own, R.sub, R.tb, R.al, R.alB, by rw [List.length_set, List.length_set]; exact R.len, fun j dv e => ?_, R.gA, R.gO, R.zz, fun j l a s s' e1 e2 e3 e4 => ?_⟩
  · rcases get_set e with ⟨e2, q, z⟩ | ⟨n, e⟩
    · cases q
      subst e2
      exact ⟨v, by rw [List.getElem?_set_self (by rw [R.len]; exact z)], h⟩
    · rw [List.getElem?_set_ne n]
      exact R.sl j dv e
  · rcases get_set e3 with ⟨_, q, _⟩ | ⟨n, e3⟩
    · cases q
    rcases get_set e4 with ⟨_, q, _⟩ | ⟨m, e4⟩
    · cases q
    rw [List.getElem?_set_ne n] at e1
    rw [List.getElem?_set_ne m] at e2
    exact R.ds j l a s s' e1 e2 e3 e4
theorem Rl.set_o {p : Addr} {vs : List V} {ds : List PyData} (R0 : Rl C O (Z.guard p) ρ σ H) (i : Nat) (n : p ∉ C.av Z O) (h0 : C.H0 p = none) (e : H p = some (.lst vs)) (g : DvAll C.K H (C.av (Z.guard p) O) vs ds) : Rl C (p :: O) Z (ρ.set i (some (.ow (.lst none ds)))) (σ.set i (some (.ref p))) H := by
  have R := R0.take n h0 e
  have g := g.sub guard_take
  have other : ∀ (j : Nat) (a : Addr) (s : OS), ρ[j]? = some (some (.ow s)) → σ[j]? = some (some (.ref a)) → a ≠ p := fun j a s e1 e2 z => by
    obtain ⟨a', e3, m, _⟩ := R0.own_slot e1
    rw [e2] at e3
    cases e3
    exact n (List.mem_append_left _ (by rw [← z]; exact m))
  refine ⟨R.fr, R.own, R.sub, R.tb, R.al, R.alB, by rw [List.length_set, List.length_set]; exact R.len, fun j dv e' => ?_, R.gA, R.gO, R.zz, fun j l a s s' e1 e2 e3 e4 => ?_⟩
  · rcases get_set e' with ⟨e3, q, z⟩ | ⟨n, e'⟩
    · cases q
      subst e3
      exact ⟨.ref p, by rw [List.getElem?_set_self (by rw [R.len]; exact z)], p, rfl, List.mem_cons_self, h0, vs, e, g⟩
    · rw [List.getElem?_set_ne n]
      exact R.sl j dv e'
  · rcases get_set e3 with ⟨q1, _, z1⟩ | ⟨n1, e3⟩ <;> rcases get_set e4 with ⟨q2, _, z2⟩ | ⟨n2, e4⟩
    · exact q1.symm.trans q2
    · subst q1
      rw [List.getElem?_set_self (by rw [R.len]; exact z1)] at e1
      rw [List.getElem?_set_ne n2] at e2
      cases e1
      exact absurd rfl (other l _ _ e4 e2)
    · subst q2
      rw [List.getElem?_set_self (by rw [R.len]; exact z2)] at e2
      rw [List.getElem?_set_ne n1] at e1
      cases e2
      exact absurd rfl (other j _ _ e3 e1)
    · rw [List.getElem?_set_ne n1] at e1
      rw [List.getElem?_set_ne n2] at e2
      exact R.ds j l a s s' e1 e2 e3 e4
theorem Sh.set_d {x : PyData} (i : Nat) : Sh ρ (ρ.set i (some (.d x))) := fun j s e => by
  rcases get_set e with ⟨_, q, _⟩ | ⟨_, e⟩
  · cases q
  · exact ⟨s, e⟩
theorem pdg_name {i : Nat} {e : Expr} (h : PG X e (gName i)) : PDg X C e (gName i) (dgName i) := ⟨h, ⟨fun _ _ _ _ _ _ _ _ _ R dv hk q => q _ _ hk (Sh.set_d i) (R.set_d i dv)⟩⟩
theorem pdgs_nil : PDgs X C [] gNil dgNil := by
  refine ⟨pgs_nil, ⟨fun O Z ρ σ H vs xs Q k R dv hk q => ?_⟩⟩
  cases dv with
  | nil => exact ⟨rfl, q _ _ hk (Sh.refl _) R⟩
  | cons _ _ => exact hk.elim
theorem pdgs_cons {e : Expr} {es : List Expr} {g : TG} {gs : TGs} {dg : DG} {dgs : DGs} (h1 : PDg X C e g dg) (h2 : PDgs X C es gs dgs) (hs : (assignEach (e :: es) X.env).map (·.2) = assign e X.env :: (assignEach es X.env).map (·.2) := by rfl) : PDgs X C (e :: es) (gCons g gs) (dgCons dg dgs) := by
  refine ⟨pgs_cons h1.pg h2.pg hs, ⟨fun O Z ρ σ H vs xs Q k R dv hk q => ?_⟩⟩
  cases dv with
  | nil => exact hk.elim
  | cons h t => exact ⟨_, _, rfl, h1.rg.run O Z ρ σ H _ _ _ _ R h hk fun ρ1 σ1 h1 s1 R1 => h2.rg.run O Z ρ1 σ1 H _ _ Q k R1 t h1 fun ρ2 σ2 h2 s2 R2 => q _ _ h2 (s1.trans s2) R2⟩
theorem rg_tup {n : Nat} {gs : TGs} {dgs : DGs} (h : RGs C gs dgs) : RG C (gTup C.K n gs) (dgTup n dgs) := by
  refine ⟨fun O Z ρ σ H v x Q k R dv hk q => ?_⟩
  cases dv with
  | tup l g => exact ⟨_, _, rfl, l.sq, by rw [g.length]; exact hk.1, h.run O Z ρ σ H _ _ Q k R g hk.2 q⟩
  | _ => exact hk.elim
theorem pdg_tup {es : List Expr} {kk : Nat} {pos : Pos} {n : Nat} {gs : TGs} {dgs : DGs} (hc : X.calm = true) (h : PDgs X C es gs dgs) (hn : (assignEach es X.env).length = n := by rfl) (hst : (assignEach es X.env).findIdx? (·.1) = none := by rfl) (hk : X.K = C.K := by rfl) : PDg X C (.Tuple es kk pos) (gTup C.K n gs) (dgTup n dgs) := by
  rw [← hk]
  exact ⟨pg_tup hc h.pg hn hst, by rw [hk]; exact rg_tup h.rg⟩
/-! ### the statements' rules -/
def dSkip : DS := fun DD ρ => DD.nx ρ
def dSeq (d e : DS) : DS := fun DD ρ => d { DD with nx := e DD } ρ
theorem pdb_nil : PDb X C [] tNext dSkip := ⟨pss_nil, ⟨fun _ _ _ _ _ _ _ R c h => c.nx _ _ _ _ R h⟩⟩
theorem pdb_one {st : Stmt} {t : TS} {d : DS} (h : PDs X C st t d) : PDb X C [st] t d := ⟨pss_one h.ps, h.rs⟩
theorem pdb_cons {st : Stmt} {rest : List Stmt} {t u : TS} {d e : DS} (h : PDs X C st t d) (g : PDb X C rest u e) : PDb X C (st :: rest) (tSeq t u) (dSeq d e) :=
  ⟨pss_cons h.ps g.ps, ⟨fun O Z D DD ρ σ H R c hk => h.rs.run O Z _ { DD with nx := e DD } ρ σ H R ⟨fun O ρ σ H R hk => g.rs.run O Z D DD ρ σ H R c hk, c.rt, c.bk, c.ct⟩ hk⟩⟩
/-- a word between: what follows is shown once, from Mid -/
def dCut (d e : DS) : DS := fun DD ρ => ∃ Mid : Rho → Prop, d { DD with nx := Mid } ρ ∧ ∀ ρ', Mid ρ' → e DD ρ'
theorem pdb_cut {st : Stmt} {rest : List Stmt} {t u : TS} {d e : DS} (h : PDs X C st t d) (g : PDb X C rest u e) : PDb X C (st :: rest) (tSeq t u) (dCut d e) :=
  ⟨pss_cons h.ps g.ps, ⟨fun O Z D DD ρ σ H R c ⟨Mid, hm, hu⟩ => h.rs.run O Z _ { DD with nx := Mid } ρ σ H R ⟨fun O ρ σ H R hk => g.rs.run O Z D DD ρ σ H R c (hu ρ hk), c.rt, c.bk, c.ct⟩ hm⟩⟩
/-- an owned list of this def's own making becomes a datum -/
def dFreeze (i : Nat) (e : DS) : DS := fun DD ρ => match ρ[i]? with
  | some (some (.ow (.lst none ds))) => e DD (ρ.set i (some (.d (.list ds))))
  | _ => False
theorem erase_sub {a : Addr} {O : List Addr} : ∀ x ∈ O.filter (fun y => decide (y ≠ a)), x ∈ O := fun x m => (List.mem_filter.mp m).1
theorem Rl.freeze {i : Nat} {ds : List PyData} (R : Rl C O Z ρ σ H) (e : ρ[i]? = some (some (.ow (.lst none ds)))) : ∃ O', Rl C O' Z (ρ.set i (some (.d (.list ds)))) σ H := by
  obtain ⟨a, e1, m, f, vs, e2, g⟩ := R.own_slot e
  have h0 : C.H0 a = none := f
  have hB : a ∉ C.B := fun z => C.bh a z h0
  have hM : a ∉ C.M := fun z => C.mh a z h0
  have sub : ∀ x ∈ C.av Z (O.filter fun y => decide (y ≠ a)), x ∈ C.av Z O := fun x m => (List.mem_append.mp m).elim (fun m => List.mem_append_left _ (erase_sub x m)) (List.mem_append_right _)
  have na : a ∉ C.av Z (O.filter fun y => decide (y ≠ a)) := fun z => (List.mem_append.mp z).elim (fun z => by have := (List.mem_filter.mp z).2; simp at this) fun z => (List.mem_append.mp z).elim (fun z => R.gO a z m) hB
  refine ⟨O.filter fun y => decide (y ≠ a), R.fr, fun b m => R.own b (erase_sub b m), fun b m => List.mem_filter.mpr ⟨R.sub b m, decide_eq_true fun z => hM (by rw [← z]; exact m)⟩, R.tb, fun b m => R.al b (erase_sub b m), R.alB, by rw [List.length_set]; exact R.len, fun j dv e' => ?_, R.gA, fun b m z => R.gO b m (erase_sub b z), fun p m => (R.zz p m).sub sub, fun j l b s s' e3 e4 e5 e6 => ?_⟩
  · rcases get_set e' with ⟨e3, q, z⟩ | ⟨n, e'⟩
    · cases q
      subst e3
      exact ⟨_, e1, .lst ⟨na, e2⟩ (g.sub sub)⟩
    · obtain ⟨v, e3, h⟩ := R.sl j dv e'
      refine ⟨v, e3, ?_⟩
      cases dv with
      | d x => exact Dv.sub h sub
      | ow s =>
        obtain ⟨b, rfl, mb, ob⟩ := h
        have nb : b ≠ a := fun z => n (R.ds i j a _ _ e1 (by rw [e3, z]) e e')
        refine ⟨b, rfl, List.mem_filter.mpr ⟨mb, decide_eq_true nb⟩, ?_⟩
        cases s with
        | lst q ds => obtain ⟨f, vs, e2, g⟩ := ob; exact ⟨f, vs, e2, g.sub sub⟩
  · rcases get_set e5 with ⟨_, q, _⟩ | ⟨n, e5⟩
    · cases q
    rcases get_set e6 with ⟨_, q, _⟩ | ⟨m, e6⟩
    · cases q
    exact R.ds j l b s s' e3 e4 e5 e6
theorem pdb_freeze (i : Nat) {b : List Stmt} {t : TS} {d : DS} (h : PDb X C b t d) : PDb X C b t (dFreeze i d) := by
  refine ⟨h.ps, ⟨fun O Z D DD ρ σ H R c hk => ?_⟩⟩
  unfold dFreeze at hk
  split at hk
  · rename_i ds e
    obtain ⟨O', R'⟩ := R.freeze e
    exact h.rs.run O' Z D DD _ σ H R' c hk
  · exact hk.elim
def dAsg (de : DE) (dg : DG) : DS := fun DD ρ => de ρ fun r ρ1 => match r with
  | .d x => dg x ρ1 DD.nx
  | .ow _ => False
theorem rs_asg {te : TE} {de : DE} {g : TG} {dg : DG} (he : RE C te de) (hg : RG C g dg) : RS C (tAsg te g) (dAsg de dg) := by
  refine ⟨fun O Z D DD ρ σ H R c hk => ?_⟩
  refine he.run O Z ρ σ H _ _ R hk fun r ρ1 v H1 h1 g1 rv => ?_
  cases r with
  | d x => exact hg.run O Z ρ1 σ H1 v x _ _ g1.rl rv h1 fun ρ2 σ2 h2 _ R2 => c.nx _ _ _ _ R2 h2
  | ow i => exact h1.elim
theorem pds_asg {tg e : Expr} {te : TE} {de : DE} {g : TG} {dg : DG} {pos : Pos} (he : PD X C e te de) (hg : PDg X C tg g dg) (hs : swapsWithSole [tg] e pos.line X.env = pure false := by rfl) (hw : swappedStores [tg] e X.env = pure none := by rfl)
    (h1 : (assignEach [tg] X.env).map (·.2) = [assign tg X.env] := by rfl) : PDs X C (.Assign [tg] e pos) (tAsg te g) (dAsg de dg) := ⟨ps_asg he.pe hg.pg hs hw h1, rs_asg he.re hg.rg⟩
theorem rg_name (i : Nat) : RG C (gName i) (dgName i) := ⟨fun _ _ _ _ _ _ _ _ _ R dv hk q => q _ _ hk (Sh.set_d i) (R.set_d i dv)⟩
theorem pds_set {st : Stmt} {te : TE} {de : DE} {i : Nat} (hp : PS X st (tAsg te (gName i))) (he : RE C te de) : PDs X C st (tAsg te (gName i)) (dAsg de (dgName i)) := ⟨hp, rs_asg he (rg_name i)⟩
def dOwn (i : Nat) (df : DF) : DS := fun DD ρ => df ρ fun ds ρ1 => DD.nx (ρ1.set i (some (.ow (.lst none ds))))
theorem pds_own {st : Stmt} {te : TE} {df : DF} {i : Nat} (hp : PS X st (tAsg te (gName i))) (he : RF C te df) : PDs X C st (tAsg te (gName i)) (dOwn i df) := by
  refine ⟨hp, ⟨fun O Z D DD ρ σ H R c hk => ?_⟩⟩
  refine he.run O Z ρ σ H _ _ R hk fun ds ρ1 vs a H1 h1 g1 R1 n h0 e dv => ?_
  exact c.nx _ _ _ _ (R1.set_o i n h0 e dv) h1
def dIfS (t : DT) (d e : DS) : DS := fun DD ρ => t ρ fun c ρ1 => cond c (d DD ρ1) (e DD ρ1)
theorem pds_if {c : Expr} {a b : List Stmt} {tc : TT} {dc : DT} {t u : TS} {d e : DS} {pos : Pos} (hc : PDt X C c tc dc) (ha : PDb X C a t d) (hb : PDb X C b u e) : PDs X C (.If c a b pos) (tIfS tc t u) (dIfS dc d e) := by
  refine ⟨ps_if hc.pe ha.ps hb.ps, ⟨fun O Z D DD ρ σ H R c hk => ?_⟩⟩
  refine hc.re.run O Z ρ σ H _ _ R hk fun k ρ1 H1 h1 g1 => ?_
  cases k with
  | true =>
    rw [if_pos rfl]
    exact ha.rs.run O Z D DD ρ1 σ H1 g1.rl c h1
  | false =>
    rw [if_neg (by decide)]
    exact hb.rs.run O Z D DD ρ1 σ H1 g1.rl c h1
def dRet (de : DE) : DS := fun DD ρ => de ρ DD.rt
theorem pds_ret {e : Expr} {te : TE} {de : DE} {pos : Pos} (h : PD X C e te de) : PDs X C (.Return (some e) pos) (tRet te) (dRet de) :=
  ⟨ps_ret h.pe, ⟨fun O Z D DD ρ σ H R c hk => h.re.run O Z ρ σ H _ _ R hk fun r ρ1 v H1 h1 g1 rv => c.rt _ _ _ _ _ _ g1.rl rv h1⟩⟩
def dRetN : DS := fun DD ρ => DD.rt (.d .none) ρ
theorem pds_retN {pos : Pos} : PDs X C (.Return none pos) tRetN dRetN := ⟨ps_retN, ⟨fun O Z D DD ρ σ H R c hk => c.rt _ _ _ _ .non (.d .none) R Dv.non hk⟩⟩
def dDrop (de : DE) : DS := fun DD ρ => de ρ fun _ ρ1 => DD.nx ρ1
theorem pds_expr {e : Expr} {te : TE} {de : DE} {pos : Pos} (h : PD X C e te de) (hs : swapsWith e none pos.line X.env = pure false := by rfl) : PDs X C (.Expr e pos) (tDrop te) (dDrop de) :=
  ⟨ps_expr h.pe hs, ⟨fun O Z D DD ρ σ H R c hk => h.re.run O Z ρ σ H _ _ R hk fun r ρ1 v H1 h1 g1 rv => c.nx _ _ _ _ g1.rl h1⟩⟩
theorem pds_pass {pos : Pos} : PDs X C (.Pass pos) tNext dSkip := ⟨ps_pass, ⟨fun _ _ _ _ _ _ _ R c h => c.nx _ _ _ _ R h⟩⟩
theorem pds_break {pos : Pos} : PDs X C (.Break pos) tBreak (fun DD ρ => DD.bk ρ) := ⟨ps_break, ⟨fun _ _ _ _ _ _ _ R c h => c.bk _ _ _ _ R h⟩⟩
theorem pds_continue {pos : Pos} : PDs X C (.Continue pos) tCont (fun DD ρ => DD.ct ρ) := ⟨ps_continue, ⟨fun _ _ _ _ _ _ _ R c h => c.ct _ _ _ _ R h⟩⟩
def dPar (i j : Nat) (da : DA) : DS := fun DD ρ => da ρ fun rs ρ1 => match rs with
  | [.d x, .d y] => DD.nx ((ρ1.set i (some (.d x))).set j (some (.d y)))
  | _ => False
theorem pds_par {st : Stmt} {i j : Nat} {ta : TA} {da : DA} (hp : PS X st (tPar i j ta)) (ha : RA C ta da) : PDs X C st (tPar i j ta) (dPar i j da) := by
  refine ⟨hp, ⟨fun O Z D DD ρ σ H R c hk => ?_⟩⟩
  refine ha.run O Z ρ σ H _ _ R hk fun rs ρ1 vs H1 h1 g1 rv => ?_
  split at h1
  · cases rv with
    | cons a t => cases t with
      | cons b t => cases t; exact ⟨_, _, rfl, c.nx _ _ _ _ ((g1.rl.set_d i a).set_d j b) h1⟩
  · exact h1.elim
/-- x += e for data -/
def dAug (i : Nat) (dr : PyData → PyData → (PyData → Prop) → Prop) (de : DE) : DS := fun DD ρ => match ρ[i]? with
  | some (some (.d x)) => de ρ fun r ρ1 => dView r ρ1 fun y => dr x y fun z => DD.nx (ρ1.set i (some (.d z)))
  | _ => False
theorem pds_aug {st : Stmt} {i : Nat} {te : TE} {de : DE} {ti : TIp} {dr : PyData → PyData → (PyData → Prop) → Prop} (hp : PS X st (tAug i te ti)) (ho : OpD C.K ti dr) (he : RE C te de) : PDs X C st (tAug i te ti) (dAug i dr de) := by
  refine ⟨hp, ⟨fun O Z D DD ρ σ H R c hk => ?_⟩⟩
  unfold dAug at hk
  split at hk
  · rename_i x e
    obtain ⟨v, e1, dv⟩ := R.sl i _ e
    refine ⟨v, e1, he.run O Z ρ σ H _ _ R hk fun r ρ1 y H1 h1 g1 rv => ?_⟩
    unfold dView at h1
    split at h1
    · rename_i dy e2
      refine ho (C.av Z O) H1 v y x dy _ _ g1.rl.alN (.inl (Dv.kp dv g1.kp fun x m => List.mem_append_left _ m)) (rv.dz g1.rl e2) h1 fun z w H2 hz kp dz => ?_
      exact c.nx _ _ _ _ ((g1.rl.kp0 kp).set_d i dz) hz
    · exact h1.elim
  · exact hk.elim
def dWhile (t : DT) (b : DS) : DS := fun DD ρ => ∃ W : Nat → Rho → Prop, (∃ m, W m ρ) ∧ ∀ m ρ, W m ρ → t ρ fun c ρ1 => cond c
  (b { DD with nx := fun ρ' => ∃ m', m' < m ∧ W m' ρ', ct := fun ρ' => ∃ m', m' < m ∧ W m' ρ', bk := DD.nx } ρ1) (DD.nx ρ1)
theorem pds_while {c : Expr} {body : List Stmt} {tc : TT} {dc : DT} {tb : TS} {db : DS} {pos : Pos} (hp : PassesOwn (model X.prog X.w) X.A X.env X.xe) (hc : PDt X C c tc dc) (hb : PDb X C body tb db) : PDs X C (.While c body [] pos) (tWhile tc tb) (dWhile dc db) := by
  refine ⟨ps_while hp hc.pe hb.ps, ⟨fun O Z D DD ρ σ H R c ⟨W, ⟨m0, w0⟩, turn⟩ => ?_⟩⟩
  refine ⟨fun m σ H => ∃ O ρ, Rl C O Z ρ σ H ∧ W m ρ, ⟨m0, O, ρ, R, w0⟩, fun m σ1 H1 ⟨O1, ρ1, R1, w1⟩ => ?_⟩
  refine hc.re.run O1 Z ρ1 σ1 H1 _ _ R1 (turn m ρ1 w1) fun k ρ2 H2 h2 g2 => ?_
  cases k with
  | true =>
    rw [if_pos rfl]
    refine ⟨fun σ' H' => ∃ O ρ, Rl C O Z ρ σ' H' ∧ ∃ m', m' < m ∧ W m' ρ, fun σ' H' ⟨O', ρ', R', m', lt, w'⟩ => ⟨m', lt, O', ρ', R', w'⟩, ?_⟩
    exact hb.rs.run O1 Z _ { DD with nx := fun ρ' => ∃ m', m' < m ∧ W m' ρ', ct := fun ρ' => ∃ m', m' < m ∧ W m' ρ', bk := DD.nx } ρ2 σ1 H2 g2.rl ⟨fun O ρ σ H R h => ⟨O, ρ, R, h⟩, c.rt, fun O ρ σ H R h => c.nx _ _ _ _ R h, fun O ρ σ H R h => ⟨O, ρ, R, h⟩⟩ h2
  | false =>
    rw [if_neg (by decide)]
    exact c.nx _ _ _ _ g2.rl h2
/-! ### for -/
/-- a walk over data, wherever the pinned data stand -/
def WalkD (K : PySem.W.Frag) (J : It) (xs : List PyData) (Z0 : List (V × PyData)) : Prop := ∀ (H : Hp) (A : List Addr), (∀ a ∈ A, H a ≠ none) → (∀ p ∈ Z0, Dv K H A p.1 p.2) →
  (∀ i, i < xs.length → J.go i H) ∧ J.stop xs.length H ∧ ∀ i v H2, i < xs.length → J.yld i H v H2 → ∃ d, xs[i]? = some d ∧ Kp H H2 [] ∧ Dv K H2 A v d
abbrev DI := Rho → (List PyData → Rho → Prop) → Prop
structure RI (C : Fc) (wi : TI) (di : DI) : Prop where
  run : ∀ (O : List Addr) (Z : Zp) (ρ : Rho) (σ : L2.St) (H : Hp) (Q : It → Hp → Prop) (k : List PyData → Rho → Prop), Rl C O Z ρ σ H → di ρ k →
    (∀ xs ρ' J H' Z0, k xs ρ' → Go C O Z σ ρ H ρ' H' → (∀ p ∈ Z0, Dv C.K H' (C.av Z O) p.1 p.2) → WalkD C.K J xs Z0 → Q J H') → wi σ H Q
structure PDi (X : Cx) (C : Fc) (tg iter : Expr) (wi : TI) (di : DI) : Prop where
  pi : PI X tg iter wi
  ri : RI C wi di
theorem SlV.pin {Z0 : List (V × PyData)} {v : V} {dv : DV} (h : SlV C Z H O v dv) : SlV C (Z.pin Z0) H O v dv := h.to (fun _ m => m) fun _ m => m
theorem SlV.unpin {Z0 : List (V × PyData)} {v : V} {dv : DV} (h : SlV C (Z.pin Z0) H O v dv) : SlV C Z H O v dv := h.to (fun _ m => m) fun _ m => m
theorem Rl.pin {Z0 : List (V × PyData)} (R : Rl C O Z ρ σ H) (h : ∀ p ∈ Z0, Dv C.K H (C.av Z O) p.1 p.2) : Rl C O (Z.pin Z0) ρ σ H :=
  ⟨R.fr, R.own, R.sub, R.tb, R.al, R.alB, R.len, fun i dv e => let ⟨v, e1, h⟩ := R.sl i dv e; ⟨v, e1, h.pin⟩, R.gA, R.gO, fun p m => (List.mem_append.mp m).elim (h p) (R.zz p), R.ds⟩
theorem Rl.unpin {Z0 : List (V × PyData)} (R : Rl C O (Z.pin Z0) ρ σ H) : Rl C O Z ρ σ H := ⟨R.fr, R.own, R.sub, R.tb, R.al, R.alB, R.len, fun i dv e => let ⟨v, e1, h⟩ := R.sl i dv e; ⟨v, e1, h.unpin⟩, R.gA, R.gO, fun p m => R.zz p (List.mem_append_right _ m), R.ds⟩
/-- for: Pv by the turn -/
def dFor (di : DI) (dg : DG) (db : DS) : DS := fun DD ρ => di ρ fun xs ρ1 => ∃ Pv : Nat → Rho → Prop, Pv 0 ρ1 ∧
  (∀ i x ρ, xs[i]? = some x → Pv i ρ → dg x ρ fun ρ2 => db { DD with nx := Pv (i + 1), ct := Pv (i + 1), bk := DD.nx } ρ2) ∧ ∀ ρ, Pv xs.length ρ → DD.nx ρ
theorem rs_for {wi : TI} {di : DI} {g : TG} {dg : DG} {tb : TS} {db : DS} (hi : RI C wi di) (hg : RG C g dg) (hb : RS C tb db) : RS C (tFor wi g tb) (dFor di dg db) := by
  refine ⟨fun O Z D DD ρ σ H R c hk => ?_⟩
  refine hi.run O Z ρ σ H _ _ R hk fun xs ρ1 J H1 Z0 ⟨Pv, p0, turn, fin⟩ g1 hz w => ?_
  have R1 := g1.rl.pin hz
  refine ⟨fun i m σ H => m = xs.length - i ∧ i ≤ xs.length ∧ ∃ O ρ, Rl C O (Z.pin Z0) ρ σ H ∧ Pv i ρ, ⟨xs.length, by simp, Nat.zero_le _, O, ρ1, R1, p0⟩, ?_⟩
  rintro i m σ2 H2 ⟨rfl, hi, O2, ρ2, R2, p2⟩
  obtain ⟨wg, ws, wy⟩ := w H2 (C.av (Z.pin Z0) O2) R2.alN fun p m => R2.zz p (List.mem_append_left _ m)
  by_cases hlt : i < xs.length
  · refine .inr ⟨wg i hlt, fun σ' H' => ∃ O ρ, Rl C O (Z.pin Z0) ρ σ' H' ∧ Pv (i + 1) ρ, fun σ' H' ⟨O', ρ', R', p'⟩ => ⟨xs.length - (i + 1), by omega, rfl, hlt, O', ρ', R', p'⟩, fun v H3 hy => ?_⟩
    obtain ⟨d, hd, kp, dv⟩ := wy i v H3 hlt hy
    refine hg.run O2 (Z.pin Z0) ρ2 σ2 H3 v d _ _ (R2.kp0 kp) dv (turn i d ρ2 hd p2) fun ρ4 σ4 h4 _ R4 => ?_
    exact hb.run O2 (Z.pin Z0) _ { DD with nx := Pv (i + 1), ct := Pv (i + 1), bk := DD.nx } ρ4 σ4 H3 R4 ⟨fun O ρ σ H R h => ⟨O, ρ, R, h⟩, fun O ρ σ H v r R => c.rt O ρ σ H v r R.unpin, fun O ρ σ H R h => c.nx O ρ σ H R.unpin h, fun O ρ σ H R h => ⟨O, ρ, R, h⟩⟩ h4
  · have e : i = xs.length := by omega
    subst e
    exact .inl ⟨ws, c.nx _ _ _ _ R2.unpin (fin ρ2 p2)⟩
theorem pds_for {tg iter : Expr} {wi : TI} {di : DI} {g : TG} {dg : DG} {body : List Stmt} {tb : TS} {db : DS} {pos : Pos} (hp : PassesOwn (model X.prog X.w) X.A X.env X.xe) (hc : X.calm = true) (hi : PDi X C tg iter wi di) (hg : PDg X C tg g dg) (hb : PDb X C body tb db)
    (hs : ∀ x, foldedSetIterable iter X.env x = pure x := by intro _; rfl) : PDs X C (.For tg iter body [] pos) (tFor wi g tb) (dFor di dg db) := ⟨ps_for hp hc hi.pi hg.pg hb.ps hs, rs_for hi.ri hg.rg hb.rs⟩
end
end DL

set_option Elab.async false
set_option linter.all false
set_option maxRecDepth 100000
set_option maxHeartbeats 4000000
namespace DL
open PySem PySem.Spec PyProof.Rows L2
/-! ### what is walked -/
def diV (k : PyData → Option (List PyData)) (de : DE) : DI := fun ρ Q => de ρ fun r ρ1 => match r with
  | .d x => (match k x with
    | some xs => Q xs ρ1
    | none => False)
  | .ow _ => False
def asList : PyData → Option (List PyData)
  | .list xs => some xs
  | _ => none
def asTup : PyData → Option (List PyData)
  | .tuple xs => some xs
  | _ => none
def sgn (c : Nat) : PyData := .str ⟨#[c]⟩
def asStr : PyData → Option (List PyData)
  | .str x => some (x.cps.toList.map sgn)
  | _ => none
section
variable {K : PySem.W.Frag}
theorem sqL_get {H : Hp} {A : List Addr} {a : Addr} {xs : List PyData} (h : Dv K H A (.ref a) (.list xs)) : ∃ vs, SqL K H a vs ∧ DvAll K H A vs xs := by
  cases h with | lst l g => exact ⟨_, l.sq, g⟩
theorem sqT_get {H : Hp} {A : List Addr} {a : Addr} {xs : List PyData} (h : Dv K H A (.ref a) (.tuple xs)) : ∃ vs, SqT K H a vs ∧ DvAll K H A vs xs := by
  cases h with | tup l g => exact ⟨_, l.sq, g⟩
theorem walkD_list (a : Addr) (xs : List PyData) : WalkD K (Itl K a) xs [(.ref a, .list xs)] := by
  intro H A _ hz
  obtain ⟨vs, l, g⟩ := sqL_get (hz _ List.mem_cons_self)
  refine ⟨fun i hi => ⟨vs, vs[i]'(by rw [g.length]; exact hi), l, by simp [g.length, hi]⟩, ⟨vs, l, by rw [g.length]; exact Nat.le_refl _⟩, ?_⟩
  rintro i v H2 hi ⟨rfl, y⟩
  obtain ⟨d, hd, dv⟩ := g.get i (y vs l)
  exact ⟨d, hd, Kp.refl _, dv⟩
theorem walkD_tup (a : Addr) (xs : List PyData) : WalkD K (Itt K a) xs [(.ref a, .tuple xs)] := by
  intro H A _ hz
  obtain ⟨vs, l, g⟩ := sqT_get (hz _ List.mem_cons_self)
  refine ⟨fun i hi => ⟨vs, vs[i]'(by rw [g.length]; exact hi), l, by simp [g.length, hi]⟩, ⟨vs, l, by rw [g.length]; exact Nat.le_refl _⟩, ?_⟩
  rintro i v H2 hi ⟨rfl, y⟩
  obtain ⟨d, hd, dv⟩ := g.get i (y vs l)
  exact ⟨d, hd, Kp.refl _, dv⟩
theorem walkD_str (x : Str) : WalkD K (Its x) (x.cps.toList.map sgn) [] := by
  intro H A _ _
  refine ⟨fun i hi => by show i < x.cps.size; simpa using hi, by show x.cps.size ≤ _; simp, ?_⟩
  rintro i v H2 hi ⟨rfl, c, hc, rfl⟩
  refine ⟨sgn c, ?_, Kp.refl _, .str _⟩
  rw [List.getElem?_map, Array.getElem?_toList, hc]
  rfl
def intsD (lo : Int) (n : Nat) : List PyData := (List.range n).map fun (i : Nat) => .int (lo + (i : Int))
theorem walkD_range (lo : Int) (n : Nat) : WalkD K (Itr lo n) (intsD lo n) [] := by
  intro H A _ _
  have el : (intsD lo n).length = n := by simp [intsD]
  rw [el]
  refine ⟨fun i hi => hi, Nat.le_refl _, ?_⟩
  rintro i v H2 hi ⟨rfl, rfl⟩
  refine ⟨.int (lo + i), ?_, Kp.refl _, .int _⟩
  simp [intsD, hi]
def pairs2 : List PyData → List PyData → List PyData
  | x :: xs, y :: ys => .tuple [x, y] :: pairs2 xs ys
  | _, _ => []
theorem pairs2_length : ∀ (xs ys : List PyData), (pairs2 xs ys).length = min xs.length ys.length
  | [], ys => by simp [pairs2]
  | x :: xs, [] => by simp [pairs2]
  | x :: xs, y :: ys => by simp [pairs2, pairs2_length xs ys]
theorem pairs2_get : ∀ {xs ys : List PyData} {i : Nat} {x y : PyData}, xs[i]? = some x → ys[i]? = some y → (pairs2 xs ys)[i]? = some (.tuple [x, y])
  | [], ys, i, x, y, h, _ => by simp at h
  | _ :: xs, [], i, x, y, _, h => by simp at h
  | _ :: xs, _ :: ys, 0, x, y, h, g => by cases h; cases g; rfl
  | _ :: xs, _ :: ys, i + 1, x, y, h, g => pairs2_get (xs := xs) (ys := ys) (i := i) h g
theorem walkD_zipT (a b : Addr) (xs ys : List PyData) : WalkD K (RZ.ItzT K a b) (pairs2 xs ys) [(.ref a, .tuple xs), (.ref b, .tuple ys)] := by
  intro H A al hz
  obtain ⟨vs, l, g⟩ := sqT_get (hz _ List.mem_cons_self)
  obtain ⟨us, m, k⟩ := sqT_get (hz _ (List.mem_cons_of_mem _ List.mem_cons_self))
  have gl := g.length
  have kl := k.length
  rw [pairs2_length]
  refine ⟨fun i hi => ⟨vs, us, vs[i]'(by omega), us[i]'(by omega), l, m, List.getElem?_eq_getElem (by omega), List.getElem?_eq_getElem (by omega)⟩, ⟨vs, us, l, m, by omega⟩, ?_⟩
  rintro i v H2 hi ⟨T, x, y, rfl, hT, rfl, hx, hy⟩
  obtain ⟨dx, h1, d1⟩ := g.get i (hx vs l)
  obtain ⟨dy, h2, d2⟩ := k.get i (hy us m)
  exact ⟨_, pairs2_get h1 h2, Kp.new hT, Dv.tupNew hT al (.cons d1 (.cons d2 .nil))⟩
theorem walkD_zipL (a b : Addr) (xs ys : List PyData) : WalkD K (Itz K a b) (pairs2 xs ys) [(.ref a, .list xs), (.ref b, .list ys)] := by
  intro H A al hz
  obtain ⟨vs, l, g⟩ := sqL_get (hz _ List.mem_cons_self)
  obtain ⟨us, m, k⟩ := sqL_get (hz _ (List.mem_cons_of_mem _ List.mem_cons_self))
  have gl := g.length
  have kl := k.length
  rw [pairs2_length]
  refine ⟨fun i hi => ⟨vs, us, vs[i]'(by omega), us[i]'(by omega), l, m, List.getElem?_eq_getElem (by omega), List.getElem?_eq_getElem (by omega)⟩, ⟨vs, us, l, m, by omega⟩, ?_⟩
  rintro i v H2 hi ⟨T, x, y, rfl, hT, rfl, hx, hy⟩
  obtain ⟨dx, h1, d1⟩ := g.get i (hx vs l)
  obtain ⟨dy, h2, d2⟩ := k.get i (hy us m)
  exact ⟨_, pairs2_get h1 h2, Kp.new hT, Dv.tupNew hT al (.cons d1 (.cons d2 .nil))⟩
end
section
variable {X : Cx} {C : Fc} {tg e : Expr} {te : TE} {de : DE}
theorem pin1 {K : PySem.W.Frag} {H : Hp} {A : List Addr} {v : V} {x : PyData} (h : Dv K H A v x) : ∀ p ∈ [(v, x)], Dv K H A p.1 p.2 := fun p m => by rw [List.mem_singleton.mp m]; exact h
theorem ri_list (h : RE C te de) : RI C (iList C.K te) (diV asList de) := by
  refine ⟨fun O Z ρ σ H Q k R hk q => ?_⟩
  refine h.run O Z ρ σ H _ _ R hk fun r ρ1 v H1 h1 g1 rv => ?_
  cases r with
  | ow i => exact h1.elim
  | d x =>
    have rv : Dv C.K H1 (C.av Z O) v x := rv
    cases x with
    | list xs =>
      cases rv with
      | @lst a vs _ l g => exact ⟨a, rfl, ⟨vs, l.sq⟩, q xs ρ1 _ H1 _ h1 g1 (pin1 (.lst l g)) (walkD_list a xs)⟩
    | _ => exact h1.elim
theorem ri_tup (h : RE C te de) : RI C (iTup C.K te) (diV asTup de) := by
  refine ⟨fun O Z ρ σ H Q k R hk q => ?_⟩
  refine h.run O Z ρ σ H _ _ R hk fun r ρ1 v H1 h1 g1 rv => ?_
  cases r with
  | ow i => exact h1.elim
  | d x =>
    have rv : Dv C.K H1 (C.av Z O) v x := rv
    cases x with
    | tuple xs =>
      cases rv with
      | @tup a vs _ l g => exact ⟨a, rfl, ⟨vs, l.sq⟩, q xs ρ1 _ H1 _ h1 g1 (pin1 (.tup l g)) (walkD_tup a xs)⟩
    | _ => exact h1.elim
theorem ri_str (h : RE C te de) : RI C (iStr te) (diV asStr de) := by
  refine ⟨fun O Z ρ σ H Q k R hk q => ?_⟩
  refine h.run O Z ρ σ H _ _ R hk fun r ρ1 v H1 h1 g1 rv => ?_
  cases r with
  | ow i => exact h1.elim
  | d x =>
    have rv : Dv C.K H1 (C.av Z O) v x := rv
    cases x with
    | str z =>
      cases rv with
      | str => exact ⟨z, rfl, q _ ρ1 _ H1 [] h1 g1 (fun _ m => nomatch m) (walkD_str z)⟩
    | _ => exact h1.elim
theorem pdi_list (h : PD X C e te de) (hk : X.K = C.K := by rfl) : PDi X C tg e (iList C.K te) (diV asList de) := ⟨by rw [← hk]; exact pi_list h.pe, ri_list h.re⟩
theorem pdi_tup (h : PD X C e te de) (hk : X.K = C.K := by rfl) : PDi X C tg e (iTup C.K te) (diV asTup de) := ⟨by rw [← hk]; exact pi_tup h.pe, ri_tup h.re⟩
theorem pdi_str (h : PD X C e te de) : PDi X C tg e (iStr te) (diV asStr de) := ⟨pi_str h.pe, ri_str h.re⟩
/-- range -/
def diRng1 (da : DA) : DI := fun ρ Q => da ρ fun rs ρ1 => match dViews rs ρ1 with
  | some [.int j] => (-(2 ^ 62) ≤ j ∧ j < 2 ^ 62) ∧ Q (intsD 0 j.toNat) ρ1
  | _ => False
def diRng2 (da : DA) : DI := fun ρ Q => da ρ fun rs ρ1 => match dViews rs ρ1 with
  | some [.int i, .int j] => (-(2 ^ 62) ≤ i ∧ i < 2 ^ 62 ∧ -(2 ^ 62) ≤ j ∧ j < 2 ^ 62) ∧ Q (intsD i (j - i).toNat) ρ1
  | _ => False
theorem pdi_range1 {a : Expr} {ta : TA} {da : DA} {p pos : Pos} (hg : Gl X "range") (hm : X.mg "range" = none) (ha : PDa X C [a] ta da) (hs : starEach [a] X.env = [(false, eval a X.env)] := by rfl) : PDi X C tg (.Call (.Name "range" p) [a] [] pos) (iRng1 ta) (diRng1 da) := by
  refine ⟨pi_range1 hg hm ha.pe hs, ⟨fun O Z ρ σ H Q k R hk q => ?_⟩⟩
  refine ha.re.run O Z ρ σ H _ _ R hk fun rs ρ1 vs H1 h1 g1 rv => ?_
  split at h1
  · rename_i j e
    have dz := dViews_all g1.rl rv e
    cases dz with
    | cons a t => cases t; exact ⟨j, by rw [a.int], h1.1.1, h1.1.2, q _ ρ1 _ H1 [] h1.2 g1 (fun _ m => nomatch m) (walkD_range 0 _)⟩
  · exact h1.elim
theorem pdi_range2 {a b : Expr} {ta : TA} {da : DA} {p pos : Pos} (hg : Gl X "range") (hm : X.mg "range" = none) (ha : PDa X C [a, b] ta da) (hs : starEach [a, b] X.env = [(false, eval a X.env), (false, eval b X.env)] := by rfl) (hs2 : starEach [b] X.env = [(false, eval b X.env)] := by rfl) :
    PDi X C tg (.Call (.Name "range" p) [a, b] [] pos) (iRng2 ta) (diRng2 da) := by
  refine ⟨pi_range2 hg hm ha.pe hs hs2, ⟨fun O Z ρ σ H Q k R hk q => ?_⟩⟩
  refine ha.re.run O Z ρ σ H _ _ R hk fun rs ρ1 vs H1 h1 g1 rv => ?_
  split at h1
  · rename_i i j e
    have dz := dViews_all g1.rl rv e
    cases dz with
    | cons a t => cases t with
      | cons b t => cases t; exact ⟨i, j, by rw [a.int, b.int], h1.1, q _ ρ1 _ H1 [] h1.2 g1 (fun _ m => nomatch m) (walkD_range i _)⟩
  · exact h1.elim
/-- zip of two tuples, or of two lists -/
def diZip (da : DA) : DI := fun ρ Q => da ρ fun rs ρ1 => match rs with
  | [.d (.tuple xs), .d (.tuple ys)] => Q (pairs2 xs ys) ρ1
  | [.d (.list xs), .d (.list ys)] => Q (pairs2 xs ys) ρ1
  | _ => False
theorem pin2 {K : PySem.W.Frag} {H : Hp} {A : List Addr} {v u : V} {x y : PyData} (h : Dv K H A v x) (g : Dv K H A u y) : ∀ p ∈ [(v, x), (u, y)], Dv K H A p.1 p.2 := fun p m => by
  simp only [List.mem_cons, List.not_mem_nil, or_false] at m
  rcases m with rfl | rfl
  · exact h
  · exact g
theorem pdi_zip {a b : Expr} {ta : TA} {da : DA} {p pos tpos : Pos} {elts : List Expr} {kk : Nat} (hg : Gl X "zip") (hm : X.mg "zip" = none) (ha : PDa X C [a, b] ta da)
    (hs : starEach [a, b] X.env = (false, eval a X.env) :: starEach [b] X.env := by rfl) (hpl : (backTo pos (starEach [b] X.env)).any (·.1) = false := by rfl) (hk : X.K = C.K := by rfl) :
    PDi X C (.Tuple elts kk tpos) (.Call (.Name "zip" p) [a, b] [] pos) (RZ.iZipA C.K ta) (diZip da) := by
  refine ⟨by rw [← hk]; exact RZ.pi_zipA hg hm ha.pe hs hpl, ⟨fun O Z ρ σ H Q k R hk q => ?_⟩⟩
  refine ha.re.run O Z ρ σ H _ _ R hk fun rs ρ1 vs H1 h1 g1 rv => ?_
  split at h1
  · rename_i xs ys
    cases rv with
    | cons a t => cases t with
      | cons b t =>
        cases t
        have a : Dv C.K H1 (C.av Z O) _ (.tuple xs) := a
        have b : Dv C.K H1 (C.av Z O) _ (.tuple ys) := b
        cases a with
        | @tup pa va _ l g => cases b with
          | @tup pb vb _ m k => exact ⟨pa, pb, va, vb, rfl, .inr ⟨l.sq, m.sq, q _ ρ1 _ H1 _ h1 g1 (pin2 (.tup l g) (.tup m k)) (walkD_zipT pa pb xs ys)⟩⟩
  · rename_i xs ys
    cases rv with
    | cons a t => cases t with
      | cons b t =>
        cases t
        have a : Dv C.K H1 (C.av Z O) _ (.list xs) := a
        have b : Dv C.K H1 (C.av Z O) _ (.list ys) := b
        cases a with
        | @lst pa va _ l g => cases b with
          | @lst pb vb _ m k => exact ⟨pa, pb, va, vb, rfl, .inl ⟨l.sq, m.sq, q _ ρ1 _ H1 _ h1 g1 (pin2 (.lst l g) (.lst m k)) (walkD_zipL pa pb xs ys)⟩⟩
  · exact h1.elim
end
/-! ### comprehensions -/
def wipeR (ρ : Rho) : List Nat → Rho
  | [] => ρ
  | v :: vs => (wipeR ρ vs).set v none
def back (ρ : Rho) (vs : List Nat) (ρ' : Rho) : Rho := match vs with
  | [] => ρ'
  | v :: vs => (back ρ vs ρ').set v (match ρ[v]? with
    | some (some (.d x)) => some (.d x)
    | _ => none)
theorem wipeR_some {ρ : Rho} {i : Nat} {dv : DV} : ∀ {vs : List Nat}, (wipeR ρ vs)[i]? = some (some dv) → ρ[i]? = some (some dv) ∧ i ∉ vs
  | [], h => ⟨h, by simp⟩
  | v :: vs, h => by
    rcases get_set h with ⟨_, q, _⟩ | ⟨n, h⟩
    · cases q
    · obtain ⟨a, b⟩ := wipeR_some h
      exact ⟨a, fun m => (List.mem_cons.mp m).elim (fun z => n z.symm) b⟩
theorem wipeR_length {ρ : Rho} : ∀ vs : List Nat, (wipeR ρ vs).length = ρ.length
  | [] => rfl
  | v :: vs => by rw [wipeR, List.length_set, wipeR_length vs]
theorem back_length {ρ ρ' : Rho} : ∀ vs : List Nat, (back ρ vs ρ').length = ρ'.length
  | [] => rfl
  | v :: vs => by rw [back, List.length_set, back_length vs]
theorem back_some {ρ ρ' : Rho} {i : Nat} {dv : DV} : ∀ {vs : List Nat}, (back ρ vs ρ')[i]? = some (some dv) → (i ∉ vs ∧ ρ'[i]? = some (some dv)) ∨ (i ∈ vs ∧ ∃ x, dv = .d x ∧ ρ[i]? = some (some (.d x)))
  | [], h => .inl ⟨by simp, h⟩
  | v :: vs, h => by
    rw [back] at h
    rcases get_set h with ⟨e, q, _⟩ | ⟨n, h⟩
    · subst e
      refine .inr ⟨List.mem_cons_self, ?_⟩
      split at q
      · rename_i x e
        cases q
        exact ⟨x, rfl, e⟩
      · cases q
    · rcases back_some h with ⟨a, b⟩ | ⟨a, b⟩
      · exact .inl ⟨fun m => (List.mem_cons.mp m).elim (fun z => n z.symm) a, b⟩
      · exact .inr ⟨List.mem_cons_of_mem _ a, b⟩
section
variable {C : Fc} {O : List Addr} {Z : Zp} {ρ ρ1 ρ4 : Rho} {σ σ2 : L2.St} {H H4 : Hp}
theorem Rl.wipe (R : Rl C O Z ρ σ H) (vs : List Nat) : Rl C O Z (wipeR ρ vs) (L2.wipe σ vs) H :=
  ⟨R.fr, R.own, R.sub, R.tb, R.al, R.alB, by rw [wipe_length, wipeR_length]; exact R.len, fun i dv e => by
    obtain ⟨e1, n⟩ := wipeR_some e
    obtain ⟨v, e2, h⟩ := R.sl i dv e1
    exact ⟨v, by rw [wipe_out n]; exact e2, h⟩, R.gA, R.gO, R.zz, fun i j a s s' e1 e2 e3 e4 => by
    obtain ⟨e3, n⟩ := wipeR_some e3
    obtain ⟨e4, m⟩ := wipeR_some e4
    rw [wipe_out n] at e1
    rw [wipe_out m] at e2
    exact R.ds i j a s s' e1 e2 e3 e4⟩
theorem Rl.back {vs : List Nat} (R : Rl C O Z ρ σ H) (k : Kp H H4 O) (R4 : Rl C O Z ρ4 σ2 H4) (w : L2.wipe σ2 vs = L2.wipe σ vs) : Rl C O Z (back ρ vs ρ4) σ H4 := by
  have out : ∀ i, i ∉ vs → σ2[i]? = σ[i]? := fun i n => by rw [← wipe_out (σ := σ2) n, w, wipe_out n]
  have len : σ2.length = σ.length := by
    have := congrArg List.length w
    rwa [wipe_length, wipe_length] at this
  refine ⟨R4.fr, R4.own, R4.sub, R4.tb, R4.al, R4.alB, by rw [back_length, ← R4.len, len], fun i dv e => ?_, R4.gA, R4.gO, R4.zz, fun i j a s s' e1 e2 e3 e4 => ?_⟩
  · rcases back_some e with ⟨n, e5⟩ | ⟨m, x, rfl, e5⟩
    · obtain ⟨v, e1, h⟩ := R4.sl i dv e5
      exact ⟨v, by rw [← out i n]; exact e1, h⟩
    · obtain ⟨v, e1, h⟩ := R.sl i _ e5
      exact ⟨v, e1, Dv.kp h k fun x m => List.mem_append_left _ m⟩
  · rcases back_some e3 with ⟨n, e3⟩ | ⟨_, x, q, _⟩
    · rcases back_some e4 with ⟨m, e4⟩ | ⟨_, x, q, _⟩
      · rw [← out i n] at e1
        rw [← out j m] at e2
        exact R4.ds i j a s s' e1 e2 e3 e4
      · cases q
    · cases q
theorem Sh.back {vs : List Nat} (h : Sh ρ ρ4) : Sh ρ (DL.back ρ vs ρ4) := fun i s e => by
  rcases back_some e with ⟨_, e⟩ | ⟨_, x, q, _⟩
  · exact h i s e
  · cases q
theorem Sh.wipe (vs : List Nat) : Sh ρ (wipeR ρ vs) := fun i s e => ⟨s, (wipeR_some e).1⟩
end
theorem wipe_set {σ : L2.St} {i : Nat} {x : Option V} : ∀ {vs : List Nat}, i ∈ vs → L2.wipe (σ.set i x) vs = L2.wipe σ vs
  | [], h => nomatch h
  | v :: vs, h => by
    show (L2.wipe (σ.set i x) vs).set v none = (L2.wipe σ vs).set v none
    by_cases m : i ∈ vs
    · rw [wipe_set m]
    · have e : i = v := (List.mem_cons.mp h).resolve_right m
      subst e
      apply List.ext_getElem?
      intro j
      by_cases z : i = j
      · subst z
        rw [List.getElem?_set, List.getElem?_set, wipe_length, wipe_length, List.length_set, if_pos rfl, if_pos rfl]
      · rw [List.getElem?_set_ne z, List.getElem?_set_ne z]
        by_cases mj : j ∈ vs
        · have a : ∀ τ : L2.St, (L2.wipe τ vs)[j]? = if j < τ.length then some none else none := fun τ => by
            have q : ∀ us : List Nat, j ∈ us → (L2.wipe τ us)[j]? = if j < τ.length then some none else none := fun us => by
              induction us with
              | nil => exact fun h => nomatch h
              | cons u us ih =>
                intro hm
                show ((L2.wipe τ us).set u none)[j]? = _
                rw [List.getElem?_set, wipe_length]
                by_cases y : u = j
                · rw [if_pos y, y]
                · rw [if_neg y]
                  exact ih ((List.mem_cons.mp hm).resolve_left fun z => y z.symm)
            exact q vs mj
          rw [a, a, List.length_set]
        · rw [wipe_out mj, wipe_out mj, List.getElem?_set_ne z]
theorem wipe_wipe (σ : L2.St) : ∀ vs : List Nat, L2.wipe (L2.wipe σ vs) vs = L2.wipe σ vs := fun vs => by
  have q : ∀ us : List Nat, (∀ u ∈ us, u ∈ vs) → L2.wipe (L2.wipe σ us) vs = L2.wipe σ vs := fun us => by
    induction us with
    | nil => exact fun _ => rfl
    | cons u us ih =>
      intro h
      show L2.wipe ((L2.wipe σ us).set u none) vs = _
      rw [wipe_set (h u List.mem_cons_self)]
      exact ih fun u' m => h u' (List.mem_cons_of_mem _ m)
  exact q vs fun _ h => h
/-- a target that stores within vs alone -/
def GW (g : TG) (vs : List Nat) : Prop := ∀ (v : V) (σ : L2.St) (H : Hp) (Q Q' : L2.St → Hp → Prop), (∀ σ' H', Q σ' H' → L2.wipe σ' vs = L2.wipe σ vs → Q' σ' H') → g v σ H Q → g v σ H Q'
def GWs (g : TGs) (vs : List Nat) : Prop := ∀ (us : List V) (σ : L2.St) (H : Hp) (Q Q' : L2.St → Hp → Prop), (∀ σ' H', Q σ' H' → L2.wipe σ' vs = L2.wipe σ vs → Q' σ' H') → g us σ H Q → g us σ H Q'
theorem gw_name {i : Nat} {vs : List Nat} (h : i ∈ vs := by simp) : GW (gName i) vs := fun _ _ _ _ _ f q => f _ _ q (wipe_set h)
theorem gws_nil {vs : List Nat} : GWs gNil vs := fun _ _ _ _ _ f q => ⟨q.1, f _ _ q.2 rfl⟩
theorem gws_cons {t : TG} {u : TGs} {vs : List Nat} (a : GW t vs) (b : GWs u vs) : GWs (gCons t u) vs := fun us σ H Q Q' f ⟨v, r, e, q⟩ =>
  ⟨v, r, e, a v σ H (fun σ' H' => u r σ' H' Q) (fun σ' H' => u r σ' H' Q') (fun σ' H' h w => b r σ' H' Q Q' (fun σ2 H2 q w2 => f σ2 H2 q (w2.trans w)) h) q⟩
theorem gw_tup {K : PySem.W.Frag} {n : Nat} {t : TGs} {vs : List Nat} (a : GWs t vs) : GW (gTup K n t) vs := fun v σ H Q Q' f ⟨p, xs, e, h, l, q⟩ => ⟨p, xs, e, h, l, a xs σ H Q Q' f q⟩
structure PDts (X : Cx) (C : Fc) (ifs : List Expr) (tt : TT) (dt : DT) : Prop where
  pe : PTs X ifs tt
  re : RT C tt dt
def dYes : DT := fun ρ Q => Q true ρ
theorem rt_yes {C : Fc} : RT C tYes dYes := ⟨fun _ _ _ _ _ _ _ R hk q => q _ _ _ hk (Go.refl R)⟩
theorem pdts_nil {X : Cx} {C : Fc} : PDts X C [] tYes dYes := ⟨pts_nil, rt_yes⟩
theorem pdts_one {X : Cx} {C : Fc} {c : Expr} {tt : TT} {dt : DT} (h : PDt X C c tt dt) : PDts X C [c] tt dt := ⟨pts_one h.pe, h.re⟩
/-- [elt for target in iter if ..] -/
def dLc (di : DI) (vs : List Nat) (dg : DG) (dt : DT) (de : DE) : DF := fun ρ Q => di ρ fun xs ρ1 => ∃ Iv : Nat → List PyData → Rho → Prop, Iv 0 [] ρ1 ∧
  (∀ i x acc ρ, xs[i]? = some x → Iv i acc ρ → dg x (wipeR ρ vs) fun ρ2 => dt ρ2 fun b ρ3 => cond b (de ρ3 fun r ρ4 => match r with
    | .d y => acc.length < sizeLine ∧ Iv (i + 1) (acc ++ [y]) (back ρ vs ρ4)
    | .ow _ => False) (Iv (i + 1) acc (back ρ vs ρ3))) ∧ ∀ acc ρ, Iv xs.length acc ρ → Q acc ρ
theorem rf_lc {C : Fc} {wi : TI} {di : DI} {vs : List Nat} {g : TG} {dg : DG} {tt : TT} {dt : DT} {te : TE} {de : DE} (hi : RI C wi di) (hg : RG C g dg) (hw : GW g vs) (ht : RT C tt dt) (he : RE C te de) : RF C (tLc wi g tt te vs) (dLc di vs dg dt de) := by
  refine ⟨fun O Z ρ0 σ H0 Q k R0 hk q => ?_⟩
  refine hi.run O Z ρ0 σ H0 _ _ R0 hk fun xs ρ1 J H1 Z0 ⟨Iv, i0, turn, fin⟩ g1 hz w => ?_
  intro D hD
  obtain ⟨RD, h0D, nD⟩ := (g1.rl.pin hz).guard_new (vs := []) hD
  have kD : Kp H1 (upd H1 D (.lst [])) [] := Kp.new hD
  generalize hZ : (Z.pin Z0).guard D = Z' at RD
  have hp : ∀ p ∈ Z0, p ∈ Z'.pins := fun p m => by rw [← hZ]; exact List.mem_append_left _ m
  have hDg : D ∈ Z'.gd := by rw [← hZ]; exact List.mem_cons_self
  have nO : ∀ {ρ σ H}, Rl C O Z' ρ σ H → D ∉ O := fun R => R.gO D hDg
  refine ⟨fun i m H => m = xs.length - i ∧ i ≤ xs.length ∧ ∃ acc av ρ, Iv i acc ρ ∧ Sh ρ1 ρ ∧ Rl C O Z' ρ σ H ∧ Kp H1 H O ∧ H D = some (.lst av) ∧ DvAll C.K H (C.av Z' O) av acc,
    ⟨xs.length, by simp, Nat.zero_le _, [], [], ρ1, i0, Sh.refl _, RD, kD.up0, upd_same, .nil⟩, ?_⟩
  rintro i m H ⟨rfl, hi, acc, av, ρ, iv, sh, R, kp, eD, da⟩
  obtain ⟨wg, ws, wy⟩ := w H (C.av Z' O) R.alN fun p m => R.zz p (hp p m)
  by_cases hlt : i < xs.length
  · refine .inr ⟨wg i hlt, fun H => ∃ acc av ρ, Iv (i + 1) acc ρ ∧ Sh ρ1 ρ ∧ Rl C O Z' ρ σ H ∧ Kp H1 H O ∧ H D = some (.lst av) ∧ DvAll C.K H (C.av Z' O) av acc, fun H' ⟨acc, av, ρ, z⟩ => ⟨xs.length - (i + 1), by omega, rfl, hlt, acc, av, ρ, z⟩, fun v H2 hy => ?_⟩
    obtain ⟨d, hd, kp2, dv⟩ := wy i v H2 hlt hy
    have R2 := R.kp0 kp2
    have t1 := turn i d acc ρ hd iv
    refine hw v (L2.wipe σ vs) H2 (fun σ2 H2' => H2' = H2 ∧ ∃ ρ2, (dt ρ2 fun b ρ3 => cond b (de ρ3 fun r ρ4 => match r with
      | .d y => acc.length < sizeLine ∧ Iv (i + 1) (acc ++ [y]) (back ρ vs ρ4)
      | .ow _ => False) (Iv (i + 1) acc (back ρ vs ρ3))) ∧ Sh (wipeR ρ vs) ρ2 ∧ Rl C O Z' ρ2 σ2 H2) _ ?_ ?_
    · rintro σ2 _ ⟨rfl, ρ2, t2, sh2, R2'⟩ we
      rw [wipe_wipe] at we
      refine ⟨we, ht.run O Z' ρ2 σ2 _ _ _ R2' t2 fun b ρ3 H3 t3 g3 => ?_⟩
      have sh3 : Sh ρ ρ3 := ((Sh.wipe vs).trans sh2).trans g3.sh
      have k3 := (kp2.up0 (L := O)).both g3.kp
      cases b with
      | false =>
        rw [if_neg (by decide)]
        exact ⟨acc, av, _, t3, sh.trans sh3.back, R.back k3 g3.rl we, kp.both k3, k3.lst eD (nO R), da.kp k3 fun x m => List.mem_append_left _ m⟩
      | true =>
        rw [if_pos rfl]
        refine he.run O Z' ρ3 σ2 H3 _ _ g3.rl t3 fun r ρ4 y H4 t4 g4 ry => ?_
        cases r with
        | ow _ => exact t4.elim
        | d y' =>
          have ry : Dv C.K H4 (C.av Z' O) y y' := ry
          have k4 := k3.both g4.kp
          have eD4 := k4.lst eD (nO R)
          have da4 := da.kp k4 fun x m => List.mem_append_left _ m
          have kw : Kp H4 (upd H4 D (.lst (av ++ [y]))) [D] := Kp.wl eD4
          have inD : ∀ x ∈ [D], x ∈ C.av Z' O := fun x m => by rw [List.mem_singleton.mp m]; exact List.mem_append_right _ (List.mem_append_left _ hDg)
          have R4 := R.back k4 g4.rl we
          have nDO := nO R
          refine ⟨av, eD4, by rw [da.length]; exact t4.1, acc ++ [y'], av ++ [y], _, t4.2, sh.trans (sh3.trans g4.sh).back, ?_, ?_, upd_same, (da4.snoc ry).kp kw inD⟩
          · refine ⟨?_, R4.own, R4.sub, fun P h => kw.tabG (R4.tb P h), fun a m => ?_, fun a m z => ?_, R4.len, fun i dv e => ?_, fun a m => ?_, R4.gO, fun p m => (R4.zz p m).kp kw inD, R4.ds⟩
            · refine R4.fr.trans kw (fun _ h => h) fun x m => .inr ?_
              rw [List.mem_singleton.mp m]
              exact h0D
            · obtain ⟨o, e, t⟩ := R4.al a m
              exact ⟨o, kw.keep a o e t (by simp; exact fun z => nDO (by rw [← z]; exact m)), t⟩
            · by_cases e : a = D
              · rw [e, upd_same] at z; cases z
              · rw [upd_ne e] at z; exact R4.alB a m z
            · obtain ⟨v, e1, h⟩ := R4.sl i dv e
              refine ⟨v, e1, ?_⟩
              cases dv with
              | d x => exact Dv.kp h kw inD
              | ow s =>
                obtain ⟨a, e2, m, g⟩ := h
                exact ⟨a, e2, m, g.kp kw (by simp; exact fun z => nDO (by rw [← z]; exact m)) inD⟩
            · by_cases e : a = D
              · rw [e, upd_same]; exact fun z => nomatch z
              · rw [upd_ne e]; exact R4.gA a m
          · exact (kp.both k4).trans kw (fun _ h => h) fun x m => .inr (by rw [List.mem_singleton.mp m]; exact hD)
    · exact hg.run O Z' (wipeR ρ vs) (L2.wipe σ vs) H2 v d _ _ (R2.wipe vs) dv t1 fun ρ2 σ2 h2 s2 R3 => ⟨rfl, ρ2, h2, s2, R3⟩
  · have e : i = xs.length := by omega
    subst e
    subst hZ
    refine .inl ⟨ws, ?_⟩
    have RG : Rl C O (Z.guard D) ρ σ H := Rl.unpin (Z := Z.guard D) (Z0 := Z0) R
    exact q acc ρ av D H (fin acc ρ iv) (g1.trans ⟨sh, RG.unguard, kp⟩) RG nD h0D eD da
section
variable {X : Cx} {C : Fc}
theorem pf_lc {elt tg iter : Expr} {ifs : List Expr} {scope : Scope} {own : List (Str × Nat)} {pos : Pos} {wi : TI} {g : TG} {tt : TT} {te : TE} {di : DI} {dg : DG} {dt : DT} {de : DE} (hc : X.calm = true) (hN : X.N.Nodup) (hi : PDi X C tg iter wi di) (ok : BlkOk X.N X.env.scope scope own)
    (hg : ∀ (s : Shared) (H : Hp) (a : Addr) (cl : List (Str × Addr)) (fp : List Addr), PDg (X.blk s H scope (compEnvC scope cl a X.env) fp) C tg g dg) (hw : GW g (own.map (·.2)))
    (ht : ∀ (s : Shared) (H : Hp) (a : Addr) (cl : List (Str × Addr)) (fp : List Addr), PDts (X.blk s H scope (compEnvC scope cl a X.env) fp) C ifs tt dt)
    (he : ∀ (s : Shared) (H : Hp) (a : Addr) (cl : List (Str × Addr)) (fp : List Addr), PD (X.blk s H scope (compEnvC scope cl a X.env) fp) C elt te de) (s0 : Shared) (hs : ∀ x, foldedSetIterable iter X.env x = pure x := by intro _; rfl) :
    PF X C (.ListComp elt [⟨tg, iter, ifs, 0⟩] scope pos) (tLc wi g tt te (own.map (·.2))) (dLc di (own.map (·.2)) dg dt de) :=
  ⟨pe_lc hc hN hi.pi ok (fun s H a cl fp => (hg s H a cl fp).pg) (fun s H a cl fp => (ht s H a cl fp).pe) (fun s H a cl fp => (he s H a cl fp).pe) hs, rf_lc hi.ri (hg s0 (fun _ => none) 0 [] []).rg hw (ht s0 (fun _ => none) 0 [] []).re (he s0 (fun _ => none) 0 [] []).re⟩
end
end DL

set_option Elab.async false
set_option linter.all false
set_option maxRecDepth 100000
set_option maxHeartbeats 4000000
namespace DL
open PySem PySem.Spec PyProof.Rows L2
/-! ### promises over data -/
/-- an argument: a datum, or a list to be written -/
inductive AV
  | d (x : PyData)
  | ow (ds : List PyData)
/-- a promise: from the arguments, the wish for the answer and the lists behind, the wish for an exception's class -/
abbrev DSp := List AV → (PyData → List (List PyData) → Prop) → (Addr → Prop) → Prop
inductive ArgR (K : PySem.W.Frag) (H : Hp) (A : List Addr) : List Addr → List V → List AV → Prop
  | nil : ArgR K H A [] [] []
  | d {M : List Addr} {vs : List V} {as : List AV} {v : V} {x : PyData} : Dv K H A v x → ArgR K H A M vs as → ArgR K H A M (v :: vs) (.d x :: as)
  | ow {M : List Addr} {vs us : List V} {as : List AV} {a : Addr} {ds : List PyData} : H a = some (.lst us) → DvAll K H A us ds → ArgR K H A M vs as → ArgR K H A (a :: M) (.ref a :: vs) (.ow ds :: as)
def StR (K : PySem.W.Frag) (H : Hp) (A : List Addr) : List Addr → List (List PyData) → Prop := Paired fun a ds => ∃ us, H a = some (.lst us) ∧ DvAll K H A us ds
def spD (K : PySem.W.Frag) (tabs : List Addr) (S : DSp) : Sp := fun vs H Q E => ∃ (A M : List Addr) (as : List AV) (k : PyData → List (List PyData) → Prop) (W : Addr → Prop),
  ArgR K H A M vs as ∧ (∀ a ∈ M, a ∈ A) ∧ M.Nodup ∧ (∀ a ∈ A, H a ≠ none) ∧ (∀ P ∈ tabs, GxR.TabG H P) ∧ S as k W ∧
  (∀ x ss v H', k x ss → Kp H H' M → Dv K H' A v x → StR K H' A M ss → Q v H') ∧ (∀ c H', Kp H H' M → W c → E (.ref c) none H')
theorem ArgR.length {K : PySem.W.Frag} {H : Hp} {A M : List Addr} {vs : List V} {as : List AV} (h : ArgR K H A M vs as) : vs.length = as.length := by
  induction h with
  | nil => rfl
  | d _ _ ih => simp [ih]
  | ow _ _ _ ih => simp [ih]
theorem ArgR.lists {K : PySem.W.Frag} {H : Hp} {A M : List Addr} {vs : List V} {as : List AV} (h : ArgR K H A M vs as) : ∀ a ∈ M, ∃ us, H a = some (.lst us) := by
  induction h with
  | nil => exact fun _ m => nomatch m
  | d _ _ ih => exact ih
  | ow e _ _ ih =>
    intro a m
    rcases List.mem_cons.mp m with rfl | m
    · exact ⟨_, e⟩
    · exact ih a m
def mkRho : List AV → Nat → Rho
  | [], _ => []
  | .d x :: as, p => some (.d x) :: mkRho as p
  | .ow ds :: as, p => some (.ow (.lst (some p) ds)) :: mkRho as (p + 1)
/-- the state of the p-th list that was handed in -/
def argSt (ρ : Rho) (p : Nat) : Option (List PyData) := ρ.findSome? fun
  | some (.ow (.lst (some q) ds)) => if q = p then some ds else none
  | _ => none
def outs (ρ : Rho) : List Nat → Option (List (List PyData))
  | [] => some []
  | p :: ps => match argSt ρ p, outs ρ ps with
    | some ds, some ss => some (ds :: ss)
    | _, _ => none
def nOw : List AV → Nat
  | [] => 0
  | .d _ :: as => nOw as
  | .ow _ :: as => nOw as + 1
/-- what the body is to reach -/
def dEnd (n : Nat) (k : PyData → List (List PyData) → Prop) (r : RV) (ρ : Rho) : Prop := match outs ρ (List.range n) with
  | some ss => (match r with
    | .d x => k x ss
    | .ow i => (match ρ[i]? with
      | some (some (.ow (.lst none ds))) => k (.list ds) ss
      | _ => False))
  | none => False
theorem mkRho_at {K : PySem.W.Frag} {H : Hp} {A M : List Addr} {vs : List V} {as : List AV} (h : ArgR K H A M vs as) : ∀ (p i : Nat) (dv : DV), (mkRho as p)[i]? = some (some dv) → ∃ v, vs[i]? = some v ∧ match dv with
    | .d x => Dv K H A v x
    | .ow (.lst g ds) => ∃ (q : Nat) (a : Addr) (us : List V), g = some (p + q) ∧ M[q]? = some a ∧ v = .ref a ∧ H a = some (.lst us) ∧ DvAll K H A us ds := by
  induction h with
  | nil => intro p i dv e; simp [mkRho] at e
  | @d M vs as v x hx _ ih =>
    intro p i dv e
    cases i with
    | zero => cases e; exact ⟨v, rfl, hx⟩
    | succ i => exact ih p i dv e
  | @ow M vs us as a ds e1 e2 _ ih =>
    intro p i dv e
    cases i with
    | zero => cases e; exact ⟨_, rfl, 0, a, us, rfl, rfl, rfl, e1, e2⟩
    | succ i =>
      obtain ⟨v, ev, q⟩ := ih (p + 1) i dv e
      refine ⟨v, ev, ?_⟩
      cases dv with
      | d x => exact q
      | ow s => cases s with
        | lst g ds =>
          obtain ⟨q, b, us, h1, h2, h3⟩ := q
          exact ⟨q + 1, b, us, by rw [h1]; congr 1; omega, h2, h3⟩
theorem mkRho_inj {as : List AV} : ∀ (p i j : Nat) (g : Nat) (ds es : List PyData), (mkRho as p)[i]? = some (some (.ow (.lst (some g) ds))) → (mkRho as p)[j]? = some (some (.ow (.lst (some g) es))) → i = j := by
  have low : ∀ (as : List AV) (p i g : Nat) (ds : List PyData), (mkRho as p)[i]? = some (some (.ow (.lst (some g) ds))) → p ≤ g := fun as => by
    induction as with
    | nil => intro p i g ds e; simp [mkRho] at e
    | cons a as ih =>
      intro p i g ds e
      cases a with
      | d x => cases i with
        | zero => cases e
        | succ i => exact ih p i g ds e
      | ow l => cases i with
        | zero => cases e; exact Nat.le_refl _
        | succ i => have := ih (p + 1) i g ds e; omega
  induction as with
  | nil => intro p i j g ds es e; simp [mkRho] at e
  | cons a as ih =>
    intro p i j g ds es e1 e2
    cases a with
    | d x => cases i with
      | zero => cases e1
      | succ i => cases j with
        | zero => cases e2
        | succ j => exact congrArg Nat.succ (ih p i j g ds es e1 e2)
    | ow l => cases i with
      | zero => cases j with
        | zero => rfl
        | succ j => cases e1; have := low as _ j _ es e2; omega
      | succ i => cases j with
        | zero => cases e2; have := low as _ i _ ds e1; omega
        | succ j => exact congrArg Nat.succ (ih (p + 1) i j g ds es e1 e2)
theorem mkRho_length : ∀ (as : List AV) (p : Nat), (mkRho as p).length = as.length
  | [], _ => rfl
  | .d _ :: as, p => by simp [mkRho, mkRho_length as p]
  | .ow _ :: as, p => by simp [mkRho, mkRho_length as (p + 1)]
theorem get_app_none {α : Type} {l : List (Option α)} {n i : Nat} {x : α} (h : (l ++ List.replicate n none)[i]? = some (some x)) : l[i]? = some (some x) := by
  by_cases z : i < l.length
  · rwa [List.getElem?_append_left z] at h
  · rw [List.getElem?_append_right (by omega), List.getElem?_replicate] at h
    split at h <;> cases h
theorem Rl.start {K : PySem.W.Frag} {tabs A M : List Addr} {H : Hp} {E : XK} {W : Addr → Prop} {xs : ∀ c H', Kp H H' M → W c → E (.ref c) none H'} {mh : ∀ a ∈ M, H a ≠ none} {bh : ∀ a ∈ A, H a ≠ none} {vs : List V} {as : List AV} {N : List Str}
    (h : ArgR K H A M vs as) (sub : ∀ a ∈ M, a ∈ A) (nd : M.Nodup) (tb : ∀ P ∈ tabs, GxR.TabG H P) :
    Rl ⟨K, tabs, H, M, A, E, W, xs, mh, bh⟩ M ⟨[], []⟩ (mkRho as 0 ++ List.replicate (N.length - vs.length) none) (L2.start N vs) H := by
  have ss : ∀ x ∈ M ++ ([] ++ A), x ∈ A := fun x m => (List.mem_append.mp m).elim (sub x) id
  refine ⟨(Kp.refl H).up0, fun a m => .inl m, fun a m => m, tb, fun a m => ?_, bh, by simp [L2.start, mkRho_length, h.length], fun i dv e => ?_, fun _ m => (nomatch m), fun _ m => (nomatch m), fun _ m => (nomatch m), fun i j a s s' e1 e2 e3 e4 => ?_⟩
  · obtain ⟨us, e⟩ := h.lists a m
    exact ⟨_, e, fun _ z => nomatch z⟩
  · obtain ⟨v, ev, q⟩ := mkRho_at h 0 i dv (get_app_none e)
    refine ⟨v, ?_, ?_⟩
    · unfold L2.start
      rw [List.getElem?_append_left (by rw [List.length_map]; exact (List.getElem?_eq_some_iff.mp ev).1), List.getElem?_map, ev]
      rfl
    · cases dv with
      | d x => exact Dv.sub q ss
      | ow s => cases s with
        | lst g ds =>
          obtain ⟨p, a, us, rfl, h2, rfl, h3, h4⟩ := q
          refine ⟨a, rfl, List.mem_of_getElem? h2, ?_, us, h3, h4.sub ss⟩
          show M[0 + p]? = some a
          rw [Nat.zero_add]
          exact h2
  · cases s with
    | lst g ds => cases s' with
      | lst g' es =>
        obtain ⟨v, ev, p, b, us, rfl, h2, rfl, _⟩ := mkRho_at h 0 i _ (get_app_none e3)
        obtain ⟨v', ev', p', b', us', rfl, h2', rfl, _⟩ := mkRho_at h 0 j _ (get_app_none e4)
        have st : ∀ {i : Nat} {b : Addr}, vs[i]? = some (.ref b) → (L2.start N vs)[i]? = some (some (.ref b)) := fun {i b} ev => by
          unfold L2.start
          rw [List.getElem?_append_left (by rw [List.length_map]; exact (List.getElem?_eq_some_iff.mp ev).1), List.getElem?_map, ev]
          rfl
        rw [st ev] at e1
        rw [st ev'] at e2
        cases e1
        cases e2
        have pp : p = p' := by
          have l1 := (List.getElem?_eq_some_iff.mp h2)
          have l2 := (List.getElem?_eq_some_iff.mp h2')
          exact (List.getElem_inj nd).mp (l1.2.trans l2.2.symm)
        subst pp
        exact mkRho_inj 0 i j _ ds es (get_app_none e3) (get_app_none e4)
theorem argSt_some {ρ : Rho} {p : Nat} {ds : List PyData} (h : argSt ρ p = some ds) : ∃ i : Nat, ρ[i]? = some (some (DV.ow (.lst (some p) ds))) := by
  unfold argSt at h
  obtain ⟨x, hx, e⟩ := List.exists_of_findSome?_eq_some h
  obtain ⟨i, hi, ei⟩ := List.mem_iff_getElem.mp hx
  refine ⟨i, ?_⟩
  rw [List.getElem?_eq_getElem hi, ei]
  split at e
  · split at e
    · rename_i q; cases e; rw [q]
    · cases e
  · cases e
theorem outs_st {C : Fc} {O : List Addr} {Z : Zp} {ρ : Rho} {σ : L2.St} {H : Hp} (R : Rl C O Z ρ σ H) {A : List Addr} (hA : ∀ x ∈ A, x ∈ C.av Z O) : ∀ {ps : List Nat} {ss : List (List PyData)} {Ms : List Addr}, outs ρ ps = some ss → Paired (fun p a => C.M[p]? = some a) ps Ms → StR C.K H A Ms ss
  | [], _, _, e, .nil => by cases e; exact .nil
  | p :: ps, ss, a :: Ms, e, .cons h t => by
    unfold outs at e
    split at e
    · rename_i ds ss' q1 q2
      cases e
      obtain ⟨i, ei⟩ := argSt_some q1
      obtain ⟨b, e1, m, f, us, e2, g⟩ := R.own_slot ei
      have : C.M[p]? = some b := f
      rw [h] at this
      cases this
      exact .cons ⟨us, e2, g.sub hA⟩ (outs_st R hA q2 t)
    · cases e
theorem paired_range {α : Type} (M : List α) : Paired (fun p a => M[p]? = some a) (List.range M.length) M := by
  have : ∀ (l : List α) (n : Nat), (∀ i a, l[i]? = some a → M[n + i]? = some a) → Paired (fun p a => M[p]? = some a) ((List.range l.length).map (n + ·)) l := fun l => by
    induction l with
    | nil => exact fun _ _ => .nil
    | cons a l ih =>
      intro n h
      rw [List.length_cons, List.range_succ_eq_map, List.map_cons, List.map_map]
      refine .cons (h 0 a rfl) ?_
      have e : ((fun x => n + x) ∘ Nat.succ) = (fun x => n + 1 + x) := by funext x; simp only [Function.comp]; omega
      rw [e]
      exact ih (n + 1) fun i b hb => by rw [show n + 1 + i = n + (i + 1) by omega]; exact h (i + 1) b hb
  have h := this M 0 fun i a h => by rw [Nat.zero_add]; exact h
  have e : (List.range M.length).map (0 + ·) = List.range M.length := by
    rw [show (fun x => 0 + x) = (id : Nat → Nat) by funext x; simp, List.map_id]
  rw [e] at h
  exact h
theorem nOw_eq {K : PySem.W.Frag} {H : Hp} {A M : List Addr} {vs : List V} {as : List AV} (h : ArgR K H A M vs as) : nOw as = M.length := by
  induction h with
  | nil => rfl
  | d _ _ ih => exact ih
  | ow _ _ _ ih => simp [nOw, ih]
/-- the end of a body -/
theorem end_comp {K : PySem.W.Frag} {tabs A M : List Addr} {H : Hp} {E : XK} {W : Addr → Prop} {xs : ∀ c H', Kp H H' M → W c → E (.ref c) none H'} {mh : ∀ a ∈ M, H a ≠ none} {bh : ∀ a ∈ A, H a ≠ none} {vs : List V} {as : List AV} {Q : VK} {k : PyData → List (List PyData) → Prop}
    (h : ArgR K H A M vs as) (hq : ∀ x ss v H', k x ss → Kp H H' M → Dv K H' A v x → StR K H' A M ss → Q v H') :
    Comp ⟨K, tabs, H, M, A, E, W, xs, mh, bh⟩ ⟨[], []⟩ { nx := fun _ H' => Q .non H', rt := Q } { nx := fun ρ => dEnd (nOw as) k (.d .none) ρ, rt := dEnd (nOw as) k } := by
  have fin : ∀ O ρ σ H' v r, Rl ⟨K, tabs, H, M, A, E, W, xs, mh, bh⟩ O ⟨[], []⟩ ρ σ H' → RvR K H' (O ++ ([] ++ A)) σ v r → dEnd (nOw as) k r ρ → Q v H' := fun O ρ σ H' v r R rv e => by
    have sA : ∀ x ∈ A, x ∈ O ++ ([] ++ A) := fun x m => List.mem_append_right _ m
    unfold dEnd at e
    split at e
    · rename_i ss q
      rw [nOw_eq h] at q
      have st := outs_st R (A := A) sA q (paired_range M)
      cases r with
      | d x => exact hq x ss v H' e R.fr (Dv.sub rv sA) st
      | ow i =>
        have e : (match ρ[i]? with
          | some (some (.ow (.lst none ds))) => k (.list ds) ss
          | _ => False) := e
        split at e
        · rename_i ds q2
          obtain ⟨a, e1, m, f, us, e2, g⟩ := R.own_slot q2
          have rv : σ[i]? = some (some v) := rv
          rw [e1] at rv
          cases rv
          have f : H a = none := f
          exact hq _ ss _ H' e R.fr (.lst ⟨fun z => bh a z f, e2⟩ (g.sub sA)) st
        · exact e.elim
    · exact e.elim
  exact ⟨fun O ρ σ H' R e => fin O ρ σ H' .non (.d .none) R .non e, fun O ρ σ H' v r R rv e => fin O ρ σ H' v r R rv e, fun _ _ _ _ _ h => h.elim, fun _ _ _ _ _ h => h.elim⟩
section
variable {P : Program} {w : World} {K : PySem.W.Frag} {mg : Str → Option Value} {base : Heap} {tabs : List Addr}
/-- THE RULE for a def that raises nothing -/
theorem Fun.okD {x qual : Str} {st : Stmt} {f : Addr} {fd : FuncData} {N ps : List Str} {k : Nat} {S : DSp} (F : Fun K x qual st f fd) (SC : FnScope N ps (defScope st)) (len : ∀ as q W, S as q W → as.length = ps.length)
    (hbody : ∀ (cdv : Value) (A : Around) (outer : List Env) (s : Shared) (H : Hp) (E : XK) (M B : List Addr) (W : Addr → Prop) (xs : ∀ c H', Kp H H' M → W c → E (.ref c) none H') (mh : ∀ a ∈ M, H a ≠ none) (bh : ∀ a ∈ B, H a ≠ none),
      Room k (A.deeper (PyProof.Rows.envOfC qual (defScope st) s.heap.objs.size f cdv)) →
      ∃ t d, PDb (cxOf CX0 P w K mg base N qual (defScope st) f cdv A outer s H E).nox ⟨K, tabs, H, M, B, E, W, xs, mh, bh⟩ (defBody st) t d ∧
        ∀ as q, S as q W → d { nx := fun ρ => dEnd (nOw as) q (.d .none) ρ, rt := dEnd (nOw as) q } (mkRho as 0 ++ List.replicate (N.length - as.length) none)) :
    FnOk P w K mg base CX0 (k + 1) f fd ps (spD K tabs S) := by
  refine F.ok SC (fun vs H Q E h => ?_) (fun cdv A outer s H vs Q E hr h => ?_)
  · obtain ⟨B, M, as, q, W, ha, _, _, _, _, hS, _⟩ := h
    rw [ha.length]
    exact len as q W hS
  · obtain ⟨B, M, as, q, W, ha, sub, nd, al, tb, hS, hq, xs⟩ := h
    obtain ⟨t, d, hd, go⟩ := hbody cdv A outer s H E M B W xs (fun a m => al a (sub a m)) al hr
    refine ⟨t, hd.ps, hd.rs.run M ⟨[], []⟩ _ _ _ _ H (Rl.start ha sub nd tb) (end_comp ha hq) ?_⟩
    rw [ha.length]
    exact go as q hS
end
end DL

set_option Elab.async false
set_option linter.all false
set_option maxRecDepth 100000
set_option maxHeartbeats 4000000
namespace DL
open PySem PySem.Spec PyProof.Rows L2
/-! ### a def whose code object's table is tracked; a def that may raise -/
structure FunC (K : PySem.W.Frag) (x qual : Str) (st : Stmt) (f : Addr) (fd : FuncData) (c : Addr) : Prop where
  ex : ∃ (oc : Value) (od : Option Addr) (kV doc pm : Value) (an : Option Addr) (ct : Value) (osl : Array (Option Value)),
    fd = PySem.W.fnOf x qual (defArgs st) (defBody st) (defScope st) .none kV doc pm an (.ref c) ct ∧ K.lookup f = some ⟨oc, od, .func fd, osl⟩ ∧ PySem.W.codeIn K (.ref c) qual = true
  kp : PySem.W.keepIn K (.ref f) = true
theorem FunC.fun {K : PySem.W.Frag} {x qual : Str} {st : Stmt} {f : Addr} {fd : FuncData} {c : Addr} (F : FunC K x qual st f fd c) : Fun K x qual st f fd := by
  obtain ⟨⟨oc, od, kV, doc, pm, an, ct, osl, e, l, h⟩, kp⟩ := F
  exact ⟨⟨oc, od, kV, doc, pm, an, .ref c, ct, osl, e, l, h⟩, kp⟩
section
variable {P : Program} {w : World} {K : PySem.W.Frag} {mg : Str → Option Value} {base : Heap} {tabs : List Addr}
theorem FunC.okD {x qual : Str} {st : Stmt} {f c : Addr} {fd : FuncData} {N ps : List Str} {k : Nat} {S : DSp} (F : FunC K x qual st f fd c) (SC : FnScope N ps (defScope st)) (len : ∀ as q W, S as q W → as.length = ps.length)
    (hbody : ∀ (A : Around) (outer : List Env) (s : Shared) (H : Hp) (E : XK) (M B : List Addr) (W : Addr → Prop) (xs : ∀ c H', Kp H H' M → W c → E (.ref c) none H') (mh : ∀ a ∈ M, H a ≠ none) (bh : ∀ a ∈ B, H a ≠ none),
      Room k (A.deeper (PyProof.Rows.envOfC qual (defScope st) s.heap.objs.size f (.ref c))) →
      ∃ t d, PDb (cxOf CX0 P w K mg base N qual (defScope st) f (.ref c) A outer s H E).nox ⟨K, tabs, H, M, B, E, W, xs, mh, bh⟩ (defBody st) t d ∧
        ∀ as q, S as q W → d { nx := fun ρ => dEnd (nOw as) q (.d .none) ρ, rt := dEnd (nOw as) q } (mkRho as 0 ++ List.replicate (N.length - as.length) none)) :
    FnOk P w K mg base CX0 (k + 1) f fd ps (spD K tabs S) := by
  obtain ⟨oc, od, kV, doc, pm, an, ct, osl, rfl, lk, hcd⟩ := F.ex
  refine fn_of lk hcd SC (fun vs H Q E h => ?_) fun A outer s H vs Q E hr h => ?_
  · obtain ⟨B, M, as, q, W, ha, _, _, _, _, hS, _⟩ := h
    rw [ha.length]
    exact len as q W hS
  · obtain ⟨B, M, as, q, W, ha, sub, nd, al, tb, hS, hq, xs⟩ := h
    obtain ⟨t, d, hd, go⟩ := hbody A outer s H E M B W xs (fun a m => al a (sub a m)) al hr
    refine ⟨t, hd.ps.nox, hd.rs.run M ⟨[], []⟩ _ _ _ _ H (Rl.start ha sub nd tb) (end_comp ha hq) ?_⟩
    rw [ha.length]
    exact go as q hS
theorem Fun.okX {x qual : Str} {st : Stmt} {f : Addr} {fd : FuncData} {N ps : List Str} {k : Nat} {S : DSp} (F : Fun K x qual st f fd) (SC : FnScope N ps (defScope st)) (len : ∀ as q W, S as q W → as.length = ps.length)
    (hbody : ∀ (cdv : Value) (A : Around) (outer : List Env) (s : Shared) (H : Hp) (E : XK) (M B : List Addr) (W : Addr → Prop) (xs : ∀ c H', Kp H H' M → W c → E (.ref c) none H') (mh : ∀ a ∈ M, H a ≠ none) (bh : ∀ a ∈ B, H a ≠ none),
      Room k (A.deeper (PyProof.Rows.envOfC qual (defScope st) s.heap.objs.size f cdv)) →
      ∃ t d, PDb (cxOf (L2N.CX P w) P w K mg base N qual (defScope st) f cdv A outer s H E) ⟨K, tabs, H, M, B, E, W, xs, mh, bh⟩ (defBody st) t d ∧
        ∀ as q, S as q W → d { nx := fun ρ => dEnd (nOw as) q (.d .none) ρ, rt := dEnd (nOw as) q } (mkRho as 0 ++ List.replicate (N.length - as.length) none)) :
    FnOk P w K mg base (L2N.CX P w) (k + 1) f fd ps (spD K tabs S) := by
  obtain ⟨oc, od, kV, doc, pm, an, cdv, ct, osl, rfl, lk, hcd⟩ := F.ex
  refine fn_of lk hcd SC (fun vs H Q E h => ?_) fun A outer s H vs Q E hr h => ?_
  · obtain ⟨B, M, as, q, W, ha, _, _, _, _, hS, _⟩ := h
    rw [ha.length]
    exact len as q W hS
  · obtain ⟨B, M, as, q, W, ha, sub, nd, al, tb, hS, hq, xs⟩ := h
    obtain ⟨t, d, hd, go⟩ := hbody cdv A outer s H E M B W xs (fun a m => al a (sub a m)) al hr
    refine ⟨t, hd.ps, hd.rs.run M ⟨[], []⟩ _ _ _ _ H (Rl.start ha sub nd tb) (end_comp ha hq) ?_⟩
    rw [ha.length]
    exact go as q hS
theorem okNever {CX : CXT} {k : Nat} {f : Addr} {fd : FuncData} {ps : List Str} {S : DSp} (h : ∀ as q W, ¬ S as q W) : FnOk P w K mg base CX k f fd ps (spD K tabs S) :=
  ⟨fun vs H Q E ⟨_, _, as, q, W, _, _, _, _, _, z, _⟩ => (h as q W z).elim, fun _ _ _ _ _ _ _ _ _ _ _ _ _ ⟨_, _, as, q, W, _, _, _, _, _, z, _⟩ => (h as q W z).elim⟩
/-- another promise -/
theorem okImp {CX : CXT} {k : Nat} {f : Addr} {fd : FuncData} {ps : List Str} {S S' : DSp} (F : FnOk P w K mg base CX k f fd ps (spD K tabs S)) (h : ∀ as q W, S' as q W → S as q W) : FnOk P w K mg base CX k f fd ps (spD K tabs S') :=
  F.imp fun vs H Q E ⟨A, M, as, q, W, a, b, c, d, e, z, r⟩ => ⟨A, M, as, q, W, a, b, c, d, e, h as q W z, r⟩
end
/-! ### calls -/
/-- the arguments of a call, the slots of the things that are handed in to be written -/
def dArgs : List RV → Rho → Option (List AV × List Nat)
  | [], _ => some ([], [])
  | .d x :: rs, ρ => (dArgs rs ρ).map fun p => (.d x :: p.1, p.2)
  | .ow i :: rs, ρ => match ρ[i]? with
    | some (some (.ow (.lst _ ds))) => (dArgs rs ρ).map fun p => (.ow ds :: p.1, i :: p.2)
    | _ => none
/-- the slots is have new states -/
def setSt (ρ : Rho) (is : List Nat) (ss : List (List PyData)) : Rho := match is, ss with
  | i :: is, ds :: ss => setSt (match ρ[i]? with
    | some (some (.ow (.lst g _))) => ρ.set i (some (.ow (.lst g ds)))
    | _ => ρ) is ss
  | _, _ => ρ
def dCall (S : DSp) (W : Addr → Prop) (da : DA) : DE := fun ρ Q => da ρ fun rs ρ1 => match dArgs rs ρ1 with
  | some (as, is) => is.Nodup ∧ S as (fun x ss => Q (.d x) (setSt ρ1 is ss)) W
  | none => False
section
variable {C : Fc} {O : List Addr} {Z : Zp} {σ : L2.St} {H H' : Hp}
theorem dArgs_r {ρ : Rho} (R : Rl C O Z ρ σ H) : ∀ {vs : List V} {rs : List RV} {as : List AV} {is : List Nat}, Paired (RvR C.K H (C.av Z O) σ) vs rs → dArgs rs ρ = some (as, is) →
    ∃ M, ArgR C.K H (C.av Z O) M vs as ∧ Paired (fun (a : Addr) (i : Nat) => σ[i]? = some (some (.ref a)) ∧ a ∈ O ∧ ∃ g ds, ρ[i]? = some (some (.ow (.lst g ds)))) M is
  | _, [], _, _, .nil, e => by cases e; exact ⟨[], .nil, .nil⟩
  | _, .d x :: rs, as, is, .cons h t, e => by
    unfold dArgs at e
    cases q : dArgs rs ρ with
    | none => rw [q] at e; cases e
    | some p =>
      rw [q] at e
      cases e
      obtain ⟨M, a, b⟩ := dArgs_r R t q
      exact ⟨M, .d h a, b⟩
  | _, .ow i :: rs, as, is, .cons h t, e => by
    unfold dArgs at e
    split at e
    · rename_i g ds q1
      cases q : dArgs rs ρ with
      | none => rw [q] at e; cases e
      | some p =>
        rw [q] at e
        cases e
        obtain ⟨M, a, b⟩ := dArgs_r R t q
        obtain ⟨ad, e1, m, f, us, e2, k⟩ := R.own_slot q1
        have h : σ[i]? = some (some _) := h
        rw [e1] at h
        cases h
        exact ⟨ad :: M, .ow e2 k a, .cons ⟨e1, m, g, ds, q1⟩ b⟩
    · cases e
/-- all but the states at is is kept, and these are told by ss -/
theorem Rl.states : ∀ {M : List Addr} {is : List Nat} {ss : List (List PyData)} {ρ : Rho}, Paired (fun (a : Addr) (i : Nat) => σ[i]? = some (some (.ref a)) ∧ a ∈ O ∧ ∃ g ds, ρ[i]? = some (some (.ow (.lst g ds)))) M is → is.Nodup → StR C.K H (C.av Z O) M ss →
    (C.K = C.K → Kp C.H0 H C.M) → (∀ P ∈ C.tabs, GxR.TabG H P) → (∀ a ∈ O, ∃ o, H a = some o ∧ ∀ q, o ≠ .tbl q) → (∀ a ∈ C.B, H a ≠ none) → (∀ a ∈ Z.gd, H a ≠ none) → (∀ p ∈ Z.pins, Dv C.K H (C.av Z O) p.1 p.2) →
    (∀ a ∈ O, a ∈ C.M ∨ C.H0 a = none) → (∀ a ∈ C.M, a ∈ O) → (∀ a ∈ Z.gd, a ∉ O) → σ.length = ρ.length →
    (∀ (i : Nat) (dv : DV), ρ[i]? = some (some dv) → i ∉ is → ∃ v, σ[i]? = some (some v) ∧ SlV C Z H O v dv) →
    (∀ (i : Nat) (g : Option Nat) (ds : List PyData) (a : Addr), ρ[i]? = some (some (.ow (.lst g ds))) → σ[i]? = some (some (.ref a)) → GrR C a g) →
    (∀ (i j : Nat) (a : Addr) (s s' : OS), σ[i]? = some (some (.ref a)) → σ[j]? = some (some (.ref a)) → ρ[i]? = some (some (.ow s)) → ρ[j]? = some (some (.ow s')) → i = j) →
    Rl C O Z (setSt ρ is ss) σ H
  | _, [], [], ρ, .nil, _, _, fr, tb, al, alB, gA, zz, own, sub, gO, len, sl, gr, ds => ⟨fr rfl, own, sub, tb, al, alB, len, fun i dv e => sl i dv e (by simp), gA, gO, zz, ds⟩
  | _, [], _ :: _, ρ, .nil, _, st, _, _, _, _, _, _, _, _, _, _, _, _, _ => nomatch st
  | _, i :: is, [], ρ, .cons _ _, _, st, _, _, _, _, _, _, _, _, _, _, _, _, _ => nomatch st
  | a :: M, i :: is, es :: ss, ρ, .cons ⟨e1, m, g, ds0, q1⟩ t, nd, .cons ⟨us, e2, ke⟩ st, fr, tb, al, alB, gA, zz, own, sub, gO, len, sl, gr, ds => by
    have ni : i ∉ is := (List.nodup_cons.mp nd).1
    have nn := (List.nodup_cons.mp nd).2
    have unf : setSt ρ (i :: is) (es :: ss) = setSt (ρ.set i (some (.ow (.lst g es)))) is ss := by
      show setSt (match ρ[i]? with
        | some (some (.ow (.lst g _))) => ρ.set i (some (.ow (.lst g es)))
        | _ => ρ) is ss = _
      rw [q1]
    rw [unf]
    have il : i < ρ.length := (List.getElem?_eq_some_iff.mp q1).1
    have keep : ∀ {M : List Addr} {is : List Nat}, i ∉ is → Paired (fun (a : Addr) (i : Nat) => σ[i]? = some (some (.ref a)) ∧ a ∈ O ∧ ∃ g ds, ρ[i]? = some (some (.ow (.lst g ds)))) M is → Paired (fun (a : Addr) (j : Nat) => σ[j]? = some (some (.ref a)) ∧ a ∈ O ∧ ∃ g' ds, ((ρ.set i (some (.ow (.lst g es))) : Rho))[j]? = some (some (DV.ow (.lst g' ds)))) M is := by
      intro M is
      induction is generalizing M with
      | nil => intro _ h; cases h; exact .nil
      | cons j js ih =>
        intro hn h
        cases h with
        | cons h t =>
          have nj : i ≠ j := fun z => hn (by rw [z]; exact List.mem_cons_self)
          obtain ⟨h1, h2, g', d', h3⟩ := h
          exact .cons ⟨h1, h2, g', d', by rw [List.getElem?_set_ne nj]; exact h3⟩ (ih (fun z => hn (List.mem_cons_of_mem _ z)) t)
    refine Rl.states (M := M) (ρ := ρ.set i (some (.ow (.lst g es)))) (keep ni t) nn st fr tb al alB gA zz own sub gO (by rw [List.length_set]; exact len) (fun j dv e hn => ?_) (fun j g' ds' b e3 e4 => ?_) (fun j l b s s' e3 e4 e5 e6 => ?_)
    · rcases get_set e with ⟨e3, q, _⟩ | ⟨n, e3⟩
      · cases q
        subst e3
        exact ⟨_, e1, a, rfl, m, gr i g ds0 a q1 e1, us, e2, ke⟩
      · exact sl j dv e3 fun z => (List.mem_cons.mp z).elim (fun z => n z.symm) hn
    · rcases get_set e3 with ⟨e5, q, _⟩ | ⟨n, e5⟩
      · cases q
        subst e5
        exact gr i g ds0 b q1 e4
      · exact gr j g' ds' b e5 e4
    · have back : ∀ {j : Nat} {s : OS}, (ρ.set i (some (.ow (.lst g es))))[j]? = some (some (.ow s)) → ∃ s, ρ[j]? = some (some (.ow s)) := fun {j s} e => by
        rcases get_set e with ⟨e5, q, _⟩ | ⟨n, e5⟩
        · subst e5; exact ⟨_, q1⟩
        · exact ⟨s, e5⟩
      obtain ⟨s1, h1⟩ := back e5
      obtain ⟨s2, h2⟩ := back e6
      exact ds j l b s1 s2 e3 e4 h1 h2
theorem setSt_sh : ∀ {is : List Nat} {ss : List (List PyData)} {ρ : Rho}, Sh ρ (setSt ρ is ss)
  | [], _, ρ => by unfold setSt; exact Sh.refl _
  | _ :: _, [], ρ => by unfold setSt; exact Sh.refl _
  | i :: is, ds :: ss, ρ => by
    unfold setSt
    refine Sh.trans ?_ setSt_sh
    split
    · rename_i g d0 q
      intro j s e
      rcases get_set e with ⟨e5, _, _⟩ | ⟨_, e5⟩
      · subst e5; exact ⟨_, q⟩
      · exact ⟨s, e5⟩
    · exact Sh.refl _
theorem re_call {S : DSp} {W : Addr → Prop} {E : XK} {ta : TA} {da : DA} (ha : RA C ta da) (hE : ∀ c H', Kp C.H0 H' C.M → W c → E (.ref c) none H') : RE C (tCall (spD C.K C.tabs S) [] E ta) (dCall S W da) := by
  refine ⟨fun O Z ρ σ H Q k R hk q => ?_⟩
  refine ha.run O Z ρ σ H _ _ R hk fun rs ρ1 vs H1 h1 g1 rv => ?_
  split at h1
  · rename_i as is e
    obtain ⟨nd, hS⟩ := h1
    obtain ⟨M, ar, pm⟩ := dArgs_r g1.rl rv e
    have R1 := g1.rl
    have MO : ∀ a ∈ M, a ∈ O := fun a m => by
      have : ∀ {M : List Addr} {is : List Nat}, Paired (fun (a : Addr) (i : Nat) => σ[i]? = some (some (.ref a)) ∧ a ∈ O ∧ ∃ g ds, ρ1[i]? = some (some (.ow (.lst g ds)))) M is → ∀ a ∈ M, a ∈ O := by
        intro M is h
        induction h with
        | nil => exact fun _ m => nomatch m
        | cons h _ ih =>
          intro a m
          rcases List.mem_cons.mp m with rfl | m
          · exact h.2.1
          · exact ih a m
      exact this pm a m
    have nM : M.Nodup := by
      have : ∀ {M : List Addr} {is : List Nat}, Paired (fun (a : Addr) (i : Nat) => σ[i]? = some (some (.ref a)) ∧ a ∈ O ∧ ∃ g ds, ρ1[i]? = some (some (.ow (.lst g ds)))) M is → is.Nodup → M.Nodup ∧ ∀ a ∈ M, ∃ i ∈ is, σ[i]? = some (some (.ref a)) ∧ ∃ s, ρ1[i]? = some (some (.ow s)) := by
        intro M is h
        induction h with
        | nil => exact fun _ => ⟨List.nodup_nil, fun _ m => nomatch m⟩
        | @cons a i M is h _ ih =>
          intro nd
          obtain ⟨n1, n2⟩ := ih (List.nodup_cons.mp nd).2
          obtain ⟨h1, _, g, ds, h3⟩ := h
          refine ⟨List.nodup_cons.mpr ⟨fun m => ?_, n1⟩, fun b m => ?_⟩
          · obtain ⟨j, mj, e1, s, e2⟩ := n2 a m
            have := R1.ds i j a _ _ h1 e1 h3 e2
            exact (List.nodup_cons.mp nd).1 (by rw [this]; exact mj)
          · rcases List.mem_cons.mp m with rfl | m
            · exact ⟨i, List.mem_cons_self, h1, _, h3⟩
            · obtain ⟨j, mj, r⟩ := n2 b m
              exact ⟨j, List.mem_cons_of_mem _ mj, r⟩
      exact (this pm nd).1
    have nb : ∀ {i : Nat} {s : OS} {a : Addr}, ρ1[i]? = some (some (.ow s)) → σ[i]? = some (some (.ref a)) → i ∉ is → a ∉ M := fun {i s a} e1 e2 hn m => by
      have : ∀ {M : List Addr} {is : List Nat}, Paired (fun (a : Addr) (i : Nat) => σ[i]? = some (some (.ref a)) ∧ a ∈ O ∧ ∃ g ds, ρ1[i]? = some (some (.ow (.lst g ds)))) M is → a ∈ M → i ∈ is := by
        intro M is h
        induction h with
        | nil => exact fun m => nomatch m
        | cons h _ ih =>
          intro m
          rcases List.mem_cons.mp m with rfl | m
          · obtain ⟨h1, _, g, ds, h3⟩ := h
            rw [R1.ds i _ _ _ _ e2 h1 e1 h3]
            exact List.mem_cons_self
          · exact List.mem_cons_of_mem _ (ih m)
      exact hn (this pm m)
    have MA : ∀ a ∈ M, a ∈ C.av Z O := fun a m => List.mem_append_left _ (MO a m)
    refine ⟨C.av Z O, M, as, _, W, by rw [List.append_nil]; exact ar, MA, nM, R1.alN, R1.tb, hS, fun x ss v H2 hx kp dv st => ?_, fun c H2 kp hw => hE c H2 ?_ hw⟩
    · have kO : Kp H1 H2 O := kp.up MO
      refine q _ _ _ _ hx (g1.trans ⟨setSt_sh, ?_, kO⟩) dv
      refine Rl.states pm nd st (fun _ => ?_) (fun P h => kp.tabG (R1.tb P h)) (fun a m => ?_) (fun a h z => ?_) (fun a h z => ?_) (fun p m => (R1.zz p m).kp kp MA) R1.own R1.sub R1.gO R1.len (fun i dv e hn => ?_) (fun i g ds a e1 e2 => ?_) R1.ds
      · exact R1.fr.trans kp (fun _ h => h) fun x m => R1.own x (MO x m)
      · by_cases z : a ∈ M
        · have : ∀ {M : List Addr} {ss : List (List PyData)}, StR C.K H2 (C.av Z O) M ss → a ∈ M → ∃ us, H2 a = some (.lst us) := by
            intro M ss h
            induction h with
            | nil => exact fun m => nomatch m
            | cons h _ ih =>
              intro m
              rcases List.mem_cons.mp m with rfl | m
              · exact ⟨_, h.choose_spec.1⟩
              · exact ih m
          obtain ⟨us, e⟩ := this st z
          exact ⟨_, e, fun _ z => nomatch z⟩
        · obtain ⟨o, e, t⟩ := R1.al a m
          exact ⟨o, kp.keep a o e t z, t⟩
      · have nm : a ∉ M ∨ a ∈ M := (Classical.em (a ∈ M)).symm
        rcases nm with nm | nm
        · exact R1.alB a h (kp.free z nm)
        · have : ∀ {M : List Addr} {ss : List (List PyData)}, StR C.K H2 (C.av Z O) M ss → a ∈ M → ∃ us, H2 a = some (.lst us) := by
            intro M ss h
            induction h with
            | nil => exact fun m => nomatch m
            | cons h _ ih =>
              intro m
              rcases List.mem_cons.mp m with rfl | m
              · exact ⟨_, h.choose_spec.1⟩
              · exact ih m
          obtain ⟨us, e⟩ := this st nm
          rw [z] at e
          cases e
      · exact R1.gA a h (kp.free z fun m => R1.gO a h (MO a m))
      · obtain ⟨v, e1, h⟩ := R1.sl i dv e
        refine ⟨v, e1, ?_⟩
        cases dv with
        | d x => exact Dv.kp h kp MA
        | ow s =>
          obtain ⟨a, rfl, m, g⟩ := h
          exact ⟨a, rfl, m, g.kp kp (nb e e1 hn) MA⟩
      · obtain ⟨a', e3, _, f, _⟩ := R1.own_slot e1
        rw [e2] at e3
        cases e3
        exact f
    · exact R1.fr.trans kp (fun _ h => h) fun x m => R1.own x (MO x m)
  · exact h1.elim
end
section
variable {X : Cx} {C : Fc} {e : Expr} {es : List Expr} {ta : TA} {da : DA} {x : Str} {p pos : Pos} {k : Nat} {f : Addr} {fd : FuncData} {ps : List Str} {S : DSp}
/-- f(..) of a def that raises nothing -/
theorem pd_call (F : FnOk X.prog X.w X.K X.mg X.base CX0 k f fd ps (spD C.K C.tabs S)) (hr : Room k X.A) (hg : Gl X x) (hm : X.mg x = some (.ref f)) (hk : PySem.W.keepIn X.K (.ref f) = true) (hb : Binds X.K fd ps []) (ha : PDa X C (e :: es) ta da)
    (hdb : (x == ("__debug__" : Str)) = false := by decide) (he : starEach (e :: es) X.env = (false, eval e X.env) :: starEach es X.env := by rfl) (hpl : (backTo pos (starEach es X.env)).any (·.1) = false := by rfl) :
    PD X C (.Call (.Name x p) (e :: es) [] pos) (tCall (spD C.K C.tabs S) [] E0 ta) (dCall S (fun _ => False) da) := ⟨pe_call F hr hg hm hk hb .nil pass0 ha.pe hdb he hpl, re_call ha.re fun _ _ _ z => z.elim⟩
/-- .. of one that may raise, in a def that may -/
theorem pd_callX {CX : CXT} (F : FnOk X.prog X.w X.K X.mg X.base CX k f fd ps (spD C.K C.tabs S)) (hr : Room k X.A) (hg : Gl X x) (hm : X.mg x = some (.ref f)) (hk : PySem.W.keepIn X.K (.ref f) = true) (hb : Binds X.K fd ps []) (hx : Passes CX X C.E) (ha : PDa X C (e :: es) ta da)
    (hdb : (x == ("__debug__" : Str)) = false := by decide) (he : starEach (e :: es) X.env = (false, eval e X.env) :: starEach es X.env := by rfl) (hpl : (backTo pos (starEach es X.env)).any (·.1) = false := by rfl) :
    PD X C (.Call (.Name x p) (e :: es) [] pos) (tCall (spD C.K C.tabs S) [] C.E ta) (dCall S C.W da) := ⟨pe_call F hr hg hm hk hb .nil hx ha.pe hdb he hpl, re_call ha.re C.xs⟩
end
end DL

set_option Elab.async false
set_option linter.all false
set_option maxRecDepth 100000
set_option maxHeartbeats 4000000
namespace DL
open PySem PySem.Spec PyProof.Rows L2
/-! ### operations on data -/
def toV : PyData → Option V
  | .none => some .non
  | .bool b => some (.bl b)
  | .int i => some (.int i)
  | .str x => some (.str x)
  | _ => none
section
variable {K : PySem.W.Frag} {O : List Addr} {H : Hp} {v : V} {d : PyData}
theorem toV_dz {u : V} (h : Dz K H O v d) (e : toV d = some u) : v = u := by
  cases d with
  | none => cases e; exact h.non
  | bool b => cases e; exact h.bool
  | int i => cases e; exact h.int
  | str x => cases e; exact h.str
  | _ => cases e
theorem toV_dv {u : V} (e : toV d = some u) : Dv K H O u d := by
  cases d with
  | none => cases e; exact .non
  | bool b => cases e; exact .bl b
  | int i => cases e; exact .int i
  | str x => cases e; exact .str x
  | _ => cases e
theorem toV_flat {u : V} (e : toV d = some u) : flatV u = true := by
  cases d <;> cases e <;> rfl
def toVs : List PyData → Option (List V)
  | [] => some []
  | d :: ds => match toV d, toVs ds with
    | some v, some vs => some (v :: vs)
    | _, _ => none
theorem toVs_dv : ∀ {ds : List PyData} {vs us : List V}, DvAll K H O vs ds → toVs ds = some us → vs = us ∧ us.all flatV = true
  | [], _, _, .nil, e => by cases e; exact ⟨rfl, rfl⟩
  | d :: ds, _, _, .cons h t, e => by
    unfold toVs at e
    split at e
    · rename_i u us q1 q2
      cases e
      obtain ⟨e1, f1⟩ := toVs_dv t q2
      rw [toV_dz (.inl h) q1, e1]
      exact ⟨rfl, by rw [List.all_cons, toV_flat q1, f1]; rfl⟩
    · cases e
end
/-- x == y of None, truth values, ints, texts -/
def dEqF (x y : PyData) (k : PyData → Prop) : Prop := match toV x, toV y with
  | some u, some v => scal u v = true ∧ k (.bool (decide (u = v)))
  | _, _ => False
def dNeF (x y : PyData) (k : PyData → Prop) : Prop := match toV x, toV y with
  | some u, some v => scal u v = true ∧ k (.bool (!decide (u = v)))
  | _, _ => False
def dEqD (x y : PyData) (k : PyData → Prop) : Prop := SeqAt.shaped x = true ∧ SeqAt.shaped y = true ∧ k (.bool (PyData.eqv x y))
def dNeD (x y : PyData) (k : PyData → Prop) : Prop := SeqAt.shaped x = true ∧ SeqAt.shaped y = true ∧ k (.bool (!PyData.eqv x y))
def dI (f : Int → Int → PyData) (x y : PyData) (k : PyData → Prop) : Prop := match x, y with
  | .int i, .int j => k (f i j)
  | _, _ => False
def dIC (C : Int → Int → Prop) (f : Int → Int → PyData) (x y : PyData) (k : PyData → Prop) : Prop := match x, y with
  | .int i, .int j => C i j ∧ k (f i j)
  | _, _ => False
def dLtS (x y : PyData) (k : PyData → Prop) : Prop := match x, y with
  | .str a, .str b => k (.bool (decide (a.cps.toList < b.cps.toList)))
  | _, _ => False
def dInSgn (neg : Bool) (x y : PyData) (k : PyData → Prop) : Prop := match x, y with
  | .str a, .str b => (match a.cps.toList with
    | [c] => k (.bool (if neg = true then !decide (c ∈ b.cps.toList) else decide (c ∈ b.cps.toList)))
    | _ => False)
  | _, _ => False
def dIn (neg : Bool) (x y : PyData) (k : PyData → Prop) : Prop := match toV x, (match y with
    | .list ys => toVs ys
    | .tuple ys => toVs ys
    | _ => none) with
  | some v, some vs => k (.bool (if neg then !inV v vs else inV v vs))
  | _, _ => False
def dInD (neg : Bool) (x y : PyData) (k : PyData → Prop) : Prop := match y with
  | .list ys => SeqAt.shaped x = true ∧ SeqAt.shaped (.list ys) = true ∧ k (.bool (if neg = true then !(ys.any fun z => PyData.eqv z x) else ys.any fun z => PyData.eqv z x))
  | _ => False
def isNon : PyData → Bool
  | .none => true
  | _ => false
def dIsN (x y : PyData) (k : PyData → Prop) : Prop := match y with
  | .none => k (.bool (isNon x))
  | _ => False
def dNotN (x y : PyData) (k : PyData → Prop) : Prop := match y with
  | .none => k (.bool (!isNon x))
  | _ => False
def dIsB (x y : PyData) (k : PyData → Prop) : Prop := match x, y with
  | .bool a, .bool b => k (.bool (decide (a = b)))
  | _, _ => False
def dNotB (x y : PyData) (k : PyData → Prop) : Prop := match x, y with
  | .bool a, .bool b => k (.bool (!decide (a = b)))
  | _, _ => False
def dAddS (x y : PyData) (k : PyData → Prop) : Prop := match x, y with
  | .str a, .str b => a.length + b.length ≤ sizeLine ∧ k (.str (a ++ b))
  | _, _ => False
def dCat (x y : PyData) (k : PyData → Prop) : Prop := match x, y with
  | .list a, .list b => a.length + b.length ≤ sizeLine ∧ k (.list (a ++ b))
  | _, _ => False
def dCatT (x y : PyData) (k : PyData → Prop) : Prop := match x, y with
  | .tuple a, .tuple b => a.length + b.length ≤ sizeLine ∧ k (.tuple (a ++ b))
  | _, _ => False
def dIx (x y : PyData) (k : PyData → Prop) : Prop := match x, y with
  | .list xs, .int i => (match atI xs i with
    | some d => k d
    | none => False)
  | .tuple xs, .int i => (match atI xs i with
    | some d => k d
    | none => False)
  | .str z, .int i => z.length ≤ sizeLine ∧ (match atI z.cps.toList i with
    | some c => k (sgn c)
    | none => False)
  | _, _ => False
section
variable {K : PySem.W.Frag}
theorem bres {O : List Addr} {H : Hp} {Q : VK} {k : PyData → Prop} {b : Bool} (q : ∀ z v H', k z → Kp H H' [] → Dv K H' O v z → Q v H') (h : k (.bool b)) : Q (.bl b) H := q _ _ _ h (Kp.refl H) (.bl b)
theorem od_eqF : OpD K rEq dEqF := fun O H x y dx dy Q k _ hx hy h q => by
  unfold dEqF at h
  split at h
  · rename_i u v e1 e2
    rw [toV_dz hx e1, toV_dz hy e2]
    exact ⟨h.1, bres q h.2⟩
  · exact h.elim
theorem od_neF : OpD K rNe dNeF := fun O H x y dx dy Q k _ hx hy h q => by
  unfold dNeF at h
  split at h
  · rename_i u v e1 e2
    rw [toV_dz hx e1, toV_dz hy e2]
    exact ⟨h.1, bres q h.2⟩
  · exact h.elim
theorem od_eqD : OpD K (rEqD K) dEqD := fun O H x y dx dy Q k _ hx hy h q => ⟨dx, dy, hx.dp (SeqAt.canLay_of_shaped h.1), hy.dp (SeqAt.canLay_of_shaped h.2.1), h.1, h.2.1, bres q h.2.2⟩
theorem od_neD : OpD K (rNeD K) dNeD := fun O H x y dx dy Q k _ hx hy h q => ⟨dx, dy, hx.dp (SeqAt.canLay_of_shaped h.1), hy.dp (SeqAt.canLay_of_shaped h.2.1), h.1, h.2.1, bres q h.2.2⟩
theorem od_cmpI {p : Int → Int → Bool} : OpD K (rI0 fun i j => .bl (p i j)) (dI fun i j => .bool (p i j)) := fun O H x y dx dy Q k _ hx hy h q => by
  unfold dI at h
  split at h
  · exact ⟨_, _, hx.int, hy.int, bres q h⟩
  · exact h.elim
theorem od_int {f : Int → Int → Int} : OpD K (rI0 fun i j => .int (f i j)) (dI fun i j => .int (f i j)) := fun O H x y dx dy Q k _ hx hy h q => by
  unfold dI at h
  split at h
  · exact ⟨_, _, hx.int, hy.int, q _ _ _ h (Kp.refl H) (.int _)⟩
  · exact h.elim
theorem od_intC {C : Int → Int → Prop} {f : Int → Int → Int} : OpD K (rI C fun i j => .int (f i j)) (dIC C fun i j => .int (f i j)) := fun O H x y dx dy Q k _ hx hy h q => by
  unfold dIC at h
  split at h
  · exact ⟨_, _, hx.int, hy.int, h.1, q _ _ _ h.2 (Kp.refl H) (.int _)⟩
  · exact h.elim
theorem od_ltS : OpD K (fun x y H Q => ∃ i j, x = .str i ∧ y = .str j ∧ Q (.bl (decide (i.cps.toList < j.cps.toList))) H) dLtS := fun O H x y dx dy Q k _ hx hy h q => by
  unfold dLtS at h
  split at h
  · exact ⟨_, _, hx.str, hy.str, bres q h⟩
  · exact h.elim
theorem sgn_of {a : Str} {c : Nat} (h : a.cps.toList = [c]) : a = ⟨#[c]⟩ := by
  cases a with
  | mk cps => exact congrArg Str.mk (Array.toList_inj.mp h)
theorem od_inSgn : OpD K (fun x y H Q => ∃ (c : Nat) (z : Str), x = .str ⟨#[c]⟩ ∧ y = .str z ∧ Q (.bl (decide (c ∈ z.cps.toList))) H) (dInSgn false) := fun O H x y dx dy Q k _ hx hy h q => by
  unfold dInSgn at h
  split at h
  · split at h
    · rename_i c e
      exact ⟨c, _, by rw [hx.str, sgn_of e], hy.str, bres q h⟩
    · exact h.elim
  · exact h.elim
theorem od_notInSgn : OpD K (fun x y H Q => ∃ (c : Nat) (z : Str), x = .str ⟨#[c]⟩ ∧ y = .str z ∧ Q (.bl (!decide (c ∈ z.cps.toList))) H) (dInSgn true) := fun O H x y dx dy Q k _ hx hy h q => by
  unfold dInSgn at h
  split at h
  · split at h
    · rename_i c e
      exact ⟨c, _, by rw [hx.str, sgn_of e], hy.str, bres q h⟩
    · exact h.elim
  · exact h.elim
theorem od_in {neg : Bool} : OpD K (rIn K neg) (dIn neg) := fun O H x y dx dy Q k _ hx hy h q => by
  unfold dIn at h
  split at h
  · rename_i v vs e1 e2
    have fx := toV_flat e1
    cases dy with
    | list ys =>
      obtain ⟨a, us, rfl, l, g⟩ := hy.list
      obtain ⟨e3, f3⟩ := toVs_dv g e2
      subst e3
      exact ⟨a, _, rfl, .inl (SqL.of l), by rw [toV_dz hx e1]; exact fx, f3, by rw [toV_dz hx e1]; exact bres q h⟩
    | tuple ys =>
      obtain ⟨a, us, rfl, l, g⟩ := hy.tup
      obtain ⟨e3, f3⟩ := toVs_dv g e2
      subst e3
      exact ⟨a, _, rfl, .inr l.sq, by rw [toV_dz hx e1]; exact fx, f3, by rw [toV_dz hx e1]; exact bres q h⟩
    | _ => cases e2
  · exact h.elim
theorem od_inD : OpD K (rInD K) (dInD false) := fun O H x y dx dy Q k _ hx hy h q => by
  unfold dInD at h
  split at h
  · exact ⟨dx, _, hx.dp (SeqAt.canLay_of_shaped h.1), hy.dp (SeqAt.canLay_of_shaped h.2.1), h.1, h.2.1, bres q h.2.2⟩
  · exact h.elim
theorem od_notInD : OpD K (rNotInD K) (dInD true) := fun O H x y dx dy Q k _ hx hy h q => by
  unfold dInD at h
  split at h
  · exact ⟨dx, _, hx.dp (SeqAt.canLay_of_shaped h.1), hy.dp (SeqAt.canLay_of_shaped h.2.1), h.1, h.2.1, bres q h.2.2⟩
  · exact h.elim
theorem dz_non {O : List Addr} {H : Hp} {v : V} {d : PyData} (h : Dz K H O v d) : decide (v = .non) = isNon d := by
  rcases h with h | ⟨a, vs, ds, rfl, rfl, _⟩
  · cases h <;> rfl
  · rfl
theorem od_isN : OpD K (fun x y H Q => y = .non ∧ Q (.bl (decide (x = .non))) H) dIsN := fun O H x y dx dy Q k _ hx hy h q => by
  unfold dIsN at h
  split at h
  · refine ⟨hy.non, ?_⟩
    rw [dz_non hx]
    exact bres q h
  · exact h.elim
theorem od_notN : OpD K (fun x y H Q => y = .non ∧ Q (.bl (!decide (x = .non))) H) dNotN := fun O H x y dx dy Q k _ hx hy h q => by
  unfold dNotN at h
  split at h
  · refine ⟨hy.non, ?_⟩
    rw [dz_non hx]
    exact bres q h
  · exact h.elim
theorem od_isB : OpD K rIsB dIsB := fun O H x y dx dy Q k _ hx hy h q => by
  unfold dIsB at h
  split at h
  · exact ⟨_, _, hx.bool, hy.bool, bres q h⟩
  · exact h.elim
theorem od_notB : OpD K rNotB dNotB := fun O H x y dx dy Q k _ hx hy h q => by
  unfold dNotB at h
  split at h
  · exact ⟨_, _, hx.bool, hy.bool, bres q h⟩
  · exact h.elim
theorem od_addS : OpD K (fun x y H Q => ∃ i j, x = .str i ∧ y = .str j ∧ i.length + j.length ≤ sizeLine ∧ Q (.str (i ++ j)) H) dAddS := fun O H x y dx dy Q k _ hx hy h q => by
  unfold dAddS at h
  split at h
  · exact ⟨_, _, hx.str, hy.str, h.1, q _ _ _ h.2 (Kp.refl H) (.str _)⟩
  · exact h.elim
theorem od_cat : OpD K rCat dCat := fun O H x y dx dy Q k al hx hy h q => by
  unfold dCat at h
  split at h
  · obtain ⟨a, vs, rfl, l, g⟩ := hx.list
    obtain ⟨b, us, rfl, m, f⟩ := hy.list
    refine ⟨a, b, vs, us, rfl, rfl, l, m, by rw [g.length, f.length]; exact h.1, fun p hp => q _ _ _ h.2 (Kp.new hp) (Dv.lstNew hp al (g.append f))⟩
  · exact h.elim
theorem od_catT : OpD K (rCatA K) dCatT := fun O H x y dx dy Q k al hx hy h q => by
  unfold dCatT at h
  split at h
  · rename_i xs ys
    obtain ⟨a, vs, rfl, l, g⟩ := hx.tup
    obtain ⟨b, us, rfl, m, f⟩ := hy.tup
    refine ⟨a, b, vs, us, rfl, rfl, l.sq, m.sq, by rw [g.length, f.length]; exact h.1, fun e => ?_, fun _ e => ?_, fun _ _ p hp => q _ _ _ h.2 (Kp.new hp) (Dv.tupNew hp al (g.append f))⟩
    · subst e
      cases g
      exact q _ _ _ h.2 (Kp.refl H) (.tup m f)
    · subst e
      cases f
      rw [List.append_nil] at h
      exact q _ _ _ h.2 (Kp.refl H) (.tup l g)
  · exact h.elim
theorem atI_get {α β : Type} {xs : List α} {ys : List β} {i : Int} {x : α} (len : xs.length = ys.length) (h : atI xs i = some x) : ∃ j : Nat, xs[j]? = some x ∧ ∀ y, ys[j]? = some y → atI ys i = some y := by
  unfold atI at h ⊢
  cases e : ixN xs.length i with
  | none => rw [e] at h; cases h
  | some j =>
    rw [e] at h
    refine ⟨j, h, fun y hy => ?_⟩
    rw [← len, e]
    exact hy
theorem od_ix : OpD K (rIx K) dIx := fun O H x y dx dy Q k _ hx hy h q => by
  cases dy with
  | int i =>
    cases dx with
    | list xs =>
      have h : (match atI xs i with
        | some d => k d
        | none => False) := h
      cases e : atI xs i with
      | none => rw [e] at h; exact h.elim
      | some d =>
        rw [e] at h
        obtain ⟨a, vs, rfl, l, g⟩ := hx.list
        obtain ⟨j, h1, h2⟩ := atI_get g.length.symm e
        obtain ⟨v, hv, dv⟩ := g.getD j h1
        exact .inl ⟨a, vs, i, v, rfl, hy.int, SqL.of l, h2 v hv, q _ _ _ h (Kp.refl H) dv⟩
    | tuple xs =>
      have h : (match atI xs i with
        | some d => k d
        | none => False) := h
      cases e : atI xs i with
      | none => rw [e] at h; exact h.elim
      | some d =>
        rw [e] at h
        obtain ⟨a, vs, rfl, l, g⟩ := hx.tup
        obtain ⟨j, h1, h2⟩ := atI_get g.length.symm e
        obtain ⟨v, hv, dv⟩ := g.getD j h1
        exact .inr (.inl ⟨a, vs, i, v, rfl, hy.int, l.sq, h2 v hv, q _ _ _ h (Kp.refl H) dv⟩)
    | str z =>
      have h : z.length ≤ sizeLine ∧ (match atI z.cps.toList i with
        | some c => k (sgn c)
        | none => False) := h
      obtain ⟨hz, h⟩ := h
      cases e : atI z.cps.toList i with
      | none => rw [e] at h; exact h.elim
      | some c =>
        rw [e] at h
        exact .inr (.inr ⟨z, i, c, hx.str, hy.int, hz, e, q _ _ _ h (Kp.refl H) (.str _)⟩)
    | _ => exact h.elim
  | _ => cases dx <;> exact h.elim
end
/-! ### slices -/
def cutD {α : Type} (xs : List α) (lo hi : Option Int) : List α := (xs.drop (HT.sIx xs.length 0 lo)).take (HT.sIx xs.length xs.length hi - HT.sIx xs.length 0 lo)
def dSlc (x : PyData) (lo hi : Option Int) (k : PyData → Prop) : Prop := match x with
  | .list xs => k (.list (cutD xs lo hi))
  | .tuple xs => k (.tuple (cutD xs lo hi))
  | .str z => z.length ≤ sizeLine ∧ k (.str (cutS z lo hi))
  | _ => False
abbrev DO := Rho → (Option Int → Rho → Prop) → Prop
structure RO (C : Fc) (t : TO) (d : DO) : Prop where
  run : ∀ (O : List Addr) (Z : Zp) (ρ : Rho) (σ : L2.St) (H : Hp) (Q : Option Int → Hp → Prop) (k : Option Int → Rho → Prop), Rl C O Z ρ σ H → d ρ k → (∀ i ρ' H', k i ρ' → Go C O Z σ ρ H ρ' H' → Q i H') → t σ H Q
structure PDo (X : Cx) (C : Fc) (e : Option Expr) (t : TO) (d : DO) : Prop where
  po : PO X e t
  ro : RO C t d
def doN : DO := fun ρ Q => Q none ρ
def doS (de : DE) : DO := fun ρ Q => de ρ fun r ρ1 => match r with
  | .d (.int i) => Q (some i) ρ1
  | _ => False
/-- what a slice rule does to data -/
def SlD (K : PySem.W.Frag) (r : V → Option Int → Option Int → Hp → VK → Prop) (T : PyData → Bool) : Prop := ∀ (O : List Addr) (H : Hp) (x : V) (dx : PyData) (lo hi : Option Int) (Q : VK) (k : PyData → Prop), (∀ a ∈ O, H a ≠ none) → Dz K H O x dx → T dx = true → dSlc dx lo hi k →
  (∀ z v H', k z → Kp H H' [] → Dv K H' O v z → Q v H') → r x lo hi H Q
def dSl (T : PyData → Bool) (de : DE) (dl dh : DO) : DE := fun ρ Q => de ρ fun r ρ1 => dl ρ1 fun lo ρ2 => dh ρ2 fun hi ρ3 => dView r ρ3 fun x => T x = true ∧ dSlc x lo hi fun z => Q (.d z) ρ3
def isTup : PyData → Bool
  | .tuple _ => true
  | _ => false
def isList : PyData → Bool
  | .list _ => true
  | _ => false
def isStr : PyData → Bool
  | .str _ => true
  | _ => false
def isInt : PyData → Bool
  | .int _ => true
  | .bool _ => true
  | _ => false
def isBool : PyData → Bool
  | .bool _ => true
  | _ => false
section
variable {X : Cx} {C : Fc} {K : PySem.W.Frag} {e : Expr} {te : TE} {de : DE}
theorem pdo_none : PDo X C none tNoPart doN := ⟨po_none, ⟨fun _ _ _ _ _ _ _ R hk q => q _ _ _ hk (Go.refl R)⟩⟩
theorem pdo_some (h : PD X C e te de) : PDo X C (some e) (tPart te) (doS de) := by
  refine ⟨po_some h.pe, ⟨fun O Z ρ σ H Q k R hk q => h.re.run O Z ρ σ H _ _ R hk fun r ρ1 v H1 h1 g1 rv => ?_⟩⟩
  split at h1
  · rename_i i
    have rv : Dv C.K H1 (C.av Z O) v (.int i) := rv
    cases rv
    exact ⟨i, rfl, q _ _ _ h1 g1⟩
  · exact h1.elim
theorem re_sl {r : V → Option Int → Option Int → Hp → VK → Prop} {T : PyData → Bool} {tl th : TO} {dl dh : DO} (hs : SlD C.K r T) (he : RE C te de) (hl : RO C tl dl) (hh : RO C th dh) : RE C (tSl r te tl th) (dSl T de dl dh) := by
  refine ⟨fun O Z ρ σ H Q k R hk q => ?_⟩
  refine he.run O Z ρ σ H _ _ R hk fun r1 ρ1 x H1 h1 g1 rx => ?_
  refine hl.run O Z ρ1 σ H1 _ _ g1.rl h1 fun lo ρ2 H2 h2 g2 => ?_
  refine hh.run O Z ρ2 σ H2 _ _ g2.rl h2 fun hi ρ3 H3 h3 g3 => ?_
  unfold dView at h3
  split at h3
  · rename_i dx e
    exact hs (C.av Z O) H3 x dx lo hi Q _ g3.rl.alN (((rx.go g2).go g3).dz g3.rl e) h3.1 h3.2 fun z v H' hz kp dz => q _ _ _ _ hz (((g1.trans g2).trans g3).new kp) dz
  · exact h3.elim
theorem pd_slice {r : V → Option Int → Option Int → Hp → VK → Prop} {T : PyData → Bool} {tl th : TO} {dl dh : DO} {lo hi : Option Expr} {pos p2 : Pos} (hr : SlR X r) (hs : SlD C.K r T) (he : PD X C e te de) (hl : PDo X C lo tl dl) (hh : PDo X C hi th dh) :
    PD X C (.Subscript e (.Slice lo hi none p2) pos) (tSl r te tl th) (dSl T de dl dh) := ⟨pe_slice hr he.pe hl.po hh.po, re_sl hs he.re hl.ro hh.ro⟩
theorem cutV_eq (xs : List V) (lo hi : Option Int) : cutV xs lo hi = cutD xs lo hi := rfl
theorem cut_dv {O : List Addr} {H : Hp} {vs : List V} {ds : List PyData} (g : DvAll K H O vs ds) (lo hi : Option Int) : DvAll K H O (cutV vs lo hi) (cutD ds lo hi) := by
  rw [cutV_eq]
  unfold cutD
  rw [g.length]
  exact (g.drop _).take _
theorem sd_tup : SlD K (rSlA K) isTup := fun O H x dx lo hi Q k al hx hT h q => by
  cases dx with
  | tuple xs =>
    obtain ⟨a, vs, rfl, l, g⟩ := hx.tup
    have h : k (.tuple (cutD xs lo hi)) := h
    refine ⟨a, vs, rfl, l.sq, fun z => ?_, fun _ p hp => q _ _ _ h (Kp.new hp) (Dv.tupNew hp al (cut_dv g lo hi))⟩
    have e : cutD xs lo hi = xs := by
      unfold cutD
      rw [← g.length, z.1, z.2, List.drop_zero, Nat.sub_zero, g.length, List.take_length]
    rw [e] at h
    exact q _ _ _ h (Kp.refl H) (.tup l g)
  | _ => cases hT
theorem sd_list : SlD K (rSlL K) isList := fun O H x dx lo hi Q k al hx hT h q => by
  cases dx with
  | list xs =>
    obtain ⟨a, vs, rfl, l, g⟩ := hx.list
    exact ⟨a, vs, rfl, SqL.of l, fun p hp => q _ _ _ h (Kp.new hp) (Dv.lstNew hp al (cut_dv g lo hi))⟩
  | _ => cases hT
theorem sd_str : SlD K rSlS isStr := fun O H x dx lo hi Q k al hx hT h q => by
  cases dx with
  | str z =>
    have h : z.length ≤ sizeLine ∧ k (.str (cutS z lo hi)) := h
    exact ⟨z, hx.str, h.1, q _ _ _ h.2 (Kp.refl H) (.str _)⟩
  | _ => cases hT
end
/-! ### built-in functions -/
def CallD (K : PySem.W.Frag) (r : List V → Hp → VK → Prop) (dr : List PyData → (PyData → Prop) → Prop) : Prop := ∀ (O : List Addr) (H : Hp) (vs : List V) (ds : List PyData) (Q : VK) (k : PyData → Prop), (∀ a ∈ O, H a ≠ none) → Paired (Dz K H O) vs ds → dr ds k →
  (∀ z v H', k z → Kp H H' [] → Dv K H' O v z → Q v H') → r vs H Q
def dCB (dr : List PyData → (PyData → Prop) → Prop) (da : DA) : DE := fun ρ Q => da ρ fun rs ρ1 => match dViews rs ρ1 with
  | some ds => dr ds fun z => Q (.d z) ρ1
  | none => False
def dLen (ds : List PyData) (k : PyData → Prop) : Prop := match ds with
  | [.list xs] => k (.int (xs.length : Int))
  | [.tuple xs] => k (.int (xs.length : Int))
  | _ => False
def dLenS (ds : List PyData) (k : PyData → Prop) : Prop := match ds with
  | [.str z] => z.length ≤ sizeLine ∧ k (.int (z.length : Int))
  | _ => False
def dInt1 (ds : List PyData) (k : PyData → Prop) : Prop := match ds with
  | [.int i] => k (.int i)
  | [.bool b] => k (.int (if b then 1 else 0))
  | _ => False
def dAbs (ds : List PyData) (k : PyData → Prop) : Prop := match ds with
  | [.int i] => k (.int (if i < 0 then -i else i))
  | _ => False
def dStrI (ds : List PyData) (k : PyData → Prop) : Prop := match ds with
  | [.int i] => i.natAbs.log2 < 1920 ∧ k (.str (toString i))
  | _ => False
def dTupOf (ds : List PyData) (k : PyData → Prop) : Prop := match ds with
  | [.list xs] => k (.tuple xs)
  | [.tuple xs] => k (.tuple xs)
  | _ => False
def dListOf (ds : List PyData) (k : PyData → Prop) : Prop := match ds with
  | [.list xs] => k (.list xs)
  | [.tuple xs] => k (.list xs)
  | _ => False
section
variable {X : Cx} {C : Fc} {K : PySem.W.Frag} {e : Expr} {es : List Expr} {te : TE} {de : DE} {ta : TA} {da : DA} {x : Str} {p pos : Pos} {r : List V → Hp → VK → Prop} {dr : List PyData → (PyData → Prop) → Prop}
theorem re_cb (hd : CallD C.K r dr) (ha : RA C ta da) : RE C (tCB r ta) (dCB dr da) := by
  refine ⟨fun O Z ρ σ H Q k R hk q => ?_⟩
  refine ha.run O Z ρ σ H _ _ R hk fun rs ρ1 vs H1 h1 g1 rv => ?_
  split at h1
  · rename_i ds e
    exact hd (C.av Z O) H1 vs ds Q _ g1.rl.alN (dViews_all g1.rl rv e) h1 fun z v H' hz kp dz => q _ _ _ _ hz (g1.new kp) dz
  · exact h1.elim
theorem pd_callB {id : String} (hc : CallR X (.builtin id) r) (hd : CallD C.K r dr) (hg : Gl X x) (hm : X.mg x = none) (hv : bootBuiltins x = some (.builtin id)) (ha : PDa X C (e :: es) ta da) (hn : x ≠ "__name__" := by decide) (hdb : (x == ("__debug__" : Str)) = false := by decide)
    (he : starEach (e :: es) X.env = (false, eval e X.env) :: starEach es X.env := by rfl) (hpl : (backTo pos (starEach es X.env)).any (·.1) = false := by rfl) : PD X C (.Call (.Name x p) (e :: es) [] pos) (tCB r ta) (dCB dr da) := ⟨pe_callB hc hg hm hv ha.pe hn hdb he hpl, re_cb hd ha.re⟩
theorem pd_callTy {T : String} (hc : CallR X (.type T) r) (hd : CallD C.K r dr) (hg : Gl X x) (hm : X.mg x = none) (hv : bootBuiltins x = some (.type T)) (ha : PDa X C (e :: es) ta da) (hn : x ≠ "__name__" := by decide) (hdb : (x == ("__debug__" : Str)) = false := by decide)
    (he : starEach (e :: es) X.env = (false, eval e X.env) :: starEach es X.env := by rfl) (hpl : (backTo pos (starEach es X.env)).any (·.1) = false := by rfl) : PD X C (.Call (.Name x p) (e :: es) [] pos) (tCB r ta) (dCB dr da) := ⟨pe_callTy hc hg hm hv ha.pe hn hdb he hpl, re_cb hd ha.re⟩
theorem one {O : List Addr} {H : Hp} {vs : List V} {d : PyData} (h : Paired (Dz K H O) vs [d]) : ∃ v, vs = [v] ∧ Dz K H O v d := by
  cases h with
  | cons a t => cases t; exact ⟨_, rfl, a⟩
theorem cd_len : CallD K (GK.rLen K) dLen := fun O H vs ds Q k _ hv h q => by
  unfold dLen at h
  split at h
  · obtain ⟨v, rfl, dz⟩ := one hv
    obtain ⟨a, us, rfl, l, g⟩ := dz.list
    exact ⟨a, us, rfl, .inl (SqL.of l), by rw [g.length]; exact q _ _ _ h (Kp.refl H) (.int _)⟩
  · obtain ⟨v, rfl, dz⟩ := one hv
    obtain ⟨a, us, rfl, l, g⟩ := dz.tup
    exact ⟨a, us, rfl, .inr l.sq, by rw [g.length]; exact q _ _ _ h (Kp.refl H) (.int _)⟩
  · exact h.elim
theorem cd_lenS : CallD K (fun xs H Q => ∃ z, xs = [.str z] ∧ z.length ≤ sizeLine ∧ Q (.int z.length) H) dLenS := fun O H vs ds Q k _ hv h q => by
  unfold dLenS at h
  split at h
  · obtain ⟨v, rfl, dz⟩ := one hv
    exact ⟨_, by rw [dz.str], h.1, q _ _ _ h.2 (Kp.refl H) (.int _)⟩
  · exact h.elim
theorem cd_int1 : CallD K (fun xs H Q => (∃ i, xs = [.int i] ∧ Q (.int i) H) ∨ ∃ k, xs = [.bl k] ∧ Q (.int (if k then 1 else 0)) H) dInt1 := fun O H vs ds Q k _ hv h q => by
  unfold dInt1 at h
  split at h
  · obtain ⟨v, rfl, dz⟩ := one hv
    exact .inl ⟨_, by rw [dz.int], q _ _ _ h (Kp.refl H) (.int _)⟩
  · obtain ⟨v, rfl, dz⟩ := one hv
    exact .inr ⟨_, by rw [dz.bool], q _ _ _ h (Kp.refl H) (.int _)⟩
  · exact h.elim
theorem cd_abs : CallD K (fun xs H Q => ∃ i, xs = [.int i] ∧ Q (.int (if i < 0 then -i else i)) H) dAbs := fun O H vs ds Q k _ hv h q => by
  unfold dAbs at h
  split at h
  · obtain ⟨v, rfl, dz⟩ := one hv
    exact ⟨_, by rw [dz.int], q _ _ _ h (Kp.refl H) (.int _)⟩
  · exact h.elim
theorem cd_strI : CallD K (fun xs H Q => ∃ i, xs = [.int i] ∧ i.natAbs.log2 < 1920 ∧ Q (.str (toString i)) H) dStrI := fun O H vs ds Q k _ hv h q => by
  unfold dStrI at h
  split at h
  · obtain ⟨v, rfl, dz⟩ := one hv
    exact ⟨_, by rw [dz.int], h.1, q _ _ _ h.2 (Kp.refl H) (.str _)⟩
  · exact h.elim
theorem cd_tupOf : CallD K (GK.rTupOf K) dTupOf := fun O H vs ds Q k al hv h q => by
  unfold dTupOf at h
  split at h
  · obtain ⟨v, rfl, dz⟩ := one hv
    obtain ⟨a, us, rfl, l, g⟩ := dz.list
    exact ⟨a, us, rfl, .inl ⟨SqL.of l, fun p hp => q _ _ _ h (Kp.new hp) (Dv.tupNew hp al g)⟩⟩
  · obtain ⟨v, rfl, dz⟩ := one hv
    obtain ⟨a, us, rfl, l, g⟩ := dz.tup
    exact ⟨a, us, rfl, .inr ⟨l.sq, q _ _ _ h (Kp.refl H) (.tup l g)⟩⟩
  · exact h.elim
theorem cd_listOf : CallD K (GK.rListOf K) dListOf := fun O H vs ds Q k al hv h q => by
  unfold dListOf at h
  split at h
  · obtain ⟨v, rfl, dz⟩ := one hv
    obtain ⟨a, us, rfl, l, g⟩ := dz.list
    exact ⟨a, us, rfl, .inl (SqL.of l), fun p hp => q _ _ _ h (Kp.new hp) (Dv.lstNew hp al g)⟩
  · obtain ⟨v, rfl, dz⟩ := one hv
    obtain ⟨a, us, rfl, l, g⟩ := dz.tup
    exact ⟨a, us, rfl, .inr l.sq, fun p hp => q _ _ _ h (Kp.new hp) (Dv.lstNew hp al g)⟩
  · exact h.elim
/-! ### isinstance -/
def tyN : PyData → String
  | .none => "NoneType"
  | .bool _ => "bool"
  | .int _ => "int"
  | .str _ => "str"
  | .list _ => "list"
  | .tuple _ => "tuple"
  | .dict _ => "dict"
theorem dz_ty {O : List Addr} {H : Hp} {v : V} {d : PyData} (h : Dz K H O v d) : TyX K H v (.type (tyN d)) := by
  rcases h with h | ⟨a, vs, ds, rfl, rfl, e, _⟩
  · cases h with
    | non => exact .base .non
    | bl b => exact .base (.bl b)
    | int i => exact .base (.int i)
    | str x => exact .base (.str x)
    | lst l g => exact .base (.lst l.2)
    | tup l g =>
      rcases l with ⟨_, l | ⟨o, l⟩⟩ | ⟨o, its, n, l, c, _⟩
      · exact .base (.tup l)
      · exact .fTuple l
      · exact .kTuple l c
    | dct l g => exact .base (.dK l.2)
  · exact .base (.lst e)
def dIsi (f : PyData → Bool) (de : DE) : DE := fun ρ Q => de ρ fun r ρ1 => dView r ρ1 fun x => Q (.d (.bool (f x))) ρ1
theorem re_isi {T : String} {f : PyData → Bool} (hT : ∀ d, kitB (tyN d) T = some (f d)) (h : RE C te de) : RE C (tCB (rIsi C.K) (tCons te (tCons (tC (.ty T)) tNil))) (dIsi f de) := by
  refine ⟨fun O Z ρ σ H Q k R hk q => ?_⟩
  refine h.run O Z ρ σ H _ _ R hk fun r1 ρ1 v H1 h1 g1 rv => ?_
  unfold dView at h1
  split at h1
  · rename_i dx e
    exact ⟨v, .ty T, _, _, f dx, rfl, .ty T, dz_ty (rv.dz g1.rl e), kit_ty (hT dx), q _ _ _ _ h1 g1 (.bl _)⟩
  · exact h1.elim
theorem isT_tup : ∀ d, kitB (tyN d) "tuple" = some (isTup d)
  | .none => (by decide +kernel : kitB "NoneType" "tuple" = some false)
  | .bool _ => (by decide +kernel : kitB "bool" "tuple" = some false)
  | .int _ => (by decide +kernel : kitB "int" "tuple" = some false)
  | .str _ => (by decide +kernel : kitB "str" "tuple" = some false)
  | .list _ => (by decide +kernel : kitB "list" "tuple" = some false)
  | .tuple _ => (by decide +kernel : kitB "tuple" "tuple" = some true)
  | .dict _ => (by decide +kernel : kitB "dict" "tuple" = some false)
theorem isT_list : ∀ d, kitB (tyN d) "list" = some (isList d)
  | .none => (by decide +kernel : kitB "NoneType" "list" = some false)
  | .bool _ => (by decide +kernel : kitB "bool" "list" = some false)
  | .int _ => (by decide +kernel : kitB "int" "list" = some false)
  | .str _ => (by decide +kernel : kitB "str" "list" = some false)
  | .list _ => (by decide +kernel : kitB "list" "list" = some true)
  | .tuple _ => (by decide +kernel : kitB "tuple" "list" = some false)
  | .dict _ => (by decide +kernel : kitB "dict" "list" = some false)
theorem isT_str : ∀ d, kitB (tyN d) "str" = some (isStr d)
  | .none => (by decide +kernel : kitB "NoneType" "str" = some false)
  | .bool _ => (by decide +kernel : kitB "bool" "str" = some false)
  | .int _ => (by decide +kernel : kitB "int" "str" = some false)
  | .str _ => (by decide +kernel : kitB "str" "str" = some true)
  | .list _ => (by decide +kernel : kitB "list" "str" = some false)
  | .tuple _ => (by decide +kernel : kitB "tuple" "str" = some false)
  | .dict _ => (by decide +kernel : kitB "dict" "str" = some false)
theorem isT_int : ∀ d, kitB (tyN d) "int" = some (isInt d)
  | .none => (by decide +kernel : kitB "NoneType" "int" = some false)
  | .bool _ => (by decide +kernel : kitB "bool" "int" = some true)
  | .int _ => (by decide +kernel : kitB "int" "int" = some true)
  | .str _ => (by decide +kernel : kitB "str" "int" = some false)
  | .list _ => (by decide +kernel : kitB "list" "int" = some false)
  | .tuple _ => (by decide +kernel : kitB "tuple" "int" = some false)
  | .dict _ => (by decide +kernel : kitB "dict" "int" = some false)
theorem isT_bool : ∀ d, kitB (tyN d) "bool" = some (isBool d)
  | .none => (by decide +kernel : kitB "NoneType" "bool" = some false)
  | .bool _ => (by decide +kernel : kitB "bool" "bool" = some true)
  | .int _ => (by decide +kernel : kitB "int" "bool" = some false)
  | .str _ => (by decide +kernel : kitB "str" "bool" = some false)
  | .list _ => (by decide +kernel : kitB "list" "bool" = some false)
  | .tuple _ => (by decide +kernel : kitB "tuple" "bool" = some false)
  | .dict _ => (by decide +kernel : kitB "dict" "bool" = some false)
theorem pd_isi {T : String} {f : PyData → Bool} {c : Expr} (hT : ∀ d, kitB (tyN d) T = some (f d)) (hi : CallR X (.builtin "isinstance") (rIsi C.K)) (hg : Gl X x) (hm : X.mg x = none) (hv : bootBuiltins x = some (.builtin "isinstance")) (ha : PD X C e te de) (hc : PE X c (tC (.ty T))) (hn : x ≠ "__name__" := by decide) (hdb : (x == ("__debug__" : Str)) = false := by decide)
    (he : starEach (e :: [c]) X.env = (false, eval e X.env) :: starEach [c] X.env := by rfl) (he2 : starEach (c :: []) X.env = (false, eval c X.env) :: starEach [] X.env := by rfl) (hpl : (backTo pos (starEach [c] X.env)).any (·.1) = false := by rfl) :
    PD X C (.Call (.Name x p) (e :: [c]) [] pos) (tCB (rIsi C.K) (tCons te (tCons (tC (.ty T)) tNil))) (dIsi f de) := ⟨pe_callB hi hg hm hv (pa_cons ha.pe (pa_cons hc pa_nil he2) he) hn hdb he hpl, re_isi hT ha.re⟩
end
end DL

set_option Elab.async false
set_option linter.all false
set_option maxRecDepth 100000
set_option maxHeartbeats 4000000
namespace DL
open PySem PySem.Spec PyProof.Rows L2
/-! ### all, any of a generator expression -/
/-- c0: the value with which it goes on -/
def dAA (c0 : Bool) (di : DI) (vs : List Nat) (dg : DG) (dt : DT) (de : DE) : DE := fun ρ Q => di ρ fun xs ρ1 => ∃ Iv : Nat → Rho → Prop, Iv 0 ρ1 ∧
  (∀ i x ρ, xs[i]? = some x → Iv i ρ → dg x (wipeR ρ vs) fun ρ2 => dt ρ2 fun b ρ3 => cond b (dB de ρ3 fun c ρ4 => cond (c == c0) (Iv (i + 1) (back ρ vs ρ4)) (Q (.d (.bool (!c0))) (back ρ vs ρ4))) (Iv (i + 1) (back ρ vs ρ3))) ∧
  ∀ ρ, Iv xs.length ρ → Q (.d (.bool c0)) ρ
theorem gt_data {C : Fc} {J : It} {xs : List PyData} {Z0 : List (V × PyData)} {vs : List Nat} {g : TG} {dg : DG} {tt : TT} {dt : DT} {te : TE} {de : DE} {c0 : Bool} {O : List Addr} {Z : Zp} {ρ1 : Rho} {σ : L2.St} {H1 H2 : Hp} {Q : VK} {k : RV → Rho → Prop} {Iv : Nat → Rho → Prop}
    (w : WalkD C.K J xs Z0) (hg : RG C g dg) (hw : GW g vs) (ht : RT C tt dt) (he : RE C te de) (R1 : Rl C O (Z.pin Z0) ρ1 σ H2) (k12 : Kp H1 H2 O) (i0 : Iv 0 ρ1)
    (turn : ∀ i x ρ, xs[i]? = some x → Iv i ρ → dg x (wipeR ρ vs) fun ρ2 => dt ρ2 fun b ρ3 => cond b (dB de ρ3 fun c ρ4 => cond (c == c0) (Iv (i + 1) (back ρ vs ρ4)) (k (.d (.bool (!c0))) (back ρ vs ρ4))) (Iv (i + 1) (back ρ vs ρ3)))
    (fin : ∀ ρ, Iv xs.length ρ → k (.d (.bool c0)) ρ) (q : ∀ r ρ' v H', k r ρ' → Sh ρ1 ρ' → Rl C O Z ρ' σ H' → Kp H1 H' O → RvR C.K H' (C.av Z O) σ v r → Q v H') :
    ∃ W : Nat → Nat → Hp → Prop, (∃ m, W 0 m H2) ∧ GG.GTurn J g tt te vs σ (fun y => y = .bl c0) (fun y H => y = .bl (!c0) ∧ Q (.bl (!c0)) H) (fun H => Q (.bl c0) H) W := by
  refine ⟨fun i m H => m = xs.length - i ∧ i ≤ xs.length ∧ ∃ ρ, Iv i ρ ∧ Sh ρ1 ρ ∧ Rl C O (Z.pin Z0) ρ σ H ∧ Kp H1 H O, ⟨xs.length, by simp, Nat.zero_le _, ρ1, i0, Sh.refl _, R1, k12⟩, ?_⟩
  rintro i m H ⟨rfl, hi, ρ, iv, sh, R, kp⟩
  obtain ⟨wg, ws, wy⟩ := w H (C.av (Z.pin Z0) O) R.alN fun p m => R.zz p (List.mem_append_left _ m)
  by_cases hlt : i < xs.length
  · refine .inr ⟨wg i hlt, fun H => ∃ ρ, Iv (i + 1) ρ ∧ Sh ρ1 ρ ∧ Rl C O (Z.pin Z0) ρ σ H ∧ Kp H1 H O, fun H' ⟨ρ, z⟩ => ⟨xs.length - (i + 1), by omega, rfl, hlt, ρ, z⟩, fun v H3 hy => ?_⟩
    obtain ⟨d, hd, kp2, dv⟩ := wy i v H3 hlt hy
    have R2 := R.kp0 kp2
    have t1 := turn i d ρ hd iv
    refine hw v (L2.wipe σ vs) H3 (fun σ2 H2' => H2' = H3 ∧ ∃ ρ2, (dt ρ2 fun b ρ3 => cond b (dB de ρ3 fun c ρ4 => cond (c == c0) (Iv (i + 1) (back ρ vs ρ4)) (k (.d (.bool (!c0))) (back ρ vs ρ4))) (Iv (i + 1) (back ρ vs ρ3))) ∧ Sh (wipeR ρ vs) ρ2 ∧ Rl C O (Z.pin Z0) ρ2 σ2 H3) _ ?_ ?_
    · rintro σ2 _ ⟨rfl, ρ2, t2, sh2, R2'⟩ we
      rw [wipe_wipe] at we
      refine ⟨we, ht.run O (Z.pin Z0) ρ2 σ2 _ _ _ R2' t2 fun b ρ3 H4 t3 g3 => ?_⟩
      have sh3 : Sh ρ ρ3 := ((Sh.wipe vs).trans sh2).trans g3.sh
      have k3 := (kp2.up0 (L := O)).both g3.kp
      cases b with
      | false =>
        rw [if_neg (by decide)]
        exact ⟨_, t3, sh.trans sh3.back, R.back k3 g3.rl we, kp.both k3⟩
      | true =>
        rw [if_pos rfl]
        refine he.run O (Z.pin Z0) ρ3 σ2 H4 _ _ g3.rl t3 fun r ρ4 y H5 t4 g4 ry => ?_
        have k4 := k3.both g4.kp
        have R4 := R.back k4 g4.rl we
        unfold dView at t4
        split at t4
        · rename_i x ex
          cases x with
          | bool c =>
            have dz := ry.dz g4.rl ex
            rw [dz.bool]
            have t5 : cond (c == c0) (Iv (i + 1) (back ρ vs ρ4)) (k (.d (.bool (!c0))) (back ρ vs ρ4)) := t4
            clear t4
            by_cases e : c = c0
            · subst e
              rw [beq_self_eq_true] at t5
              exact .inl ⟨rfl, _, t5, sh.trans (sh3.trans g4.sh).back, R4, kp.both k4⟩
            · rw [beq_eq_false_iff_ne.mpr e] at t5
              have ec : c = !c0 := by cases c <;> cases c0 <;> first | rfl | exact absurd rfl e
              subst ec
              exact .inr ⟨rfl, q (.d (.bool (!c0))) _ _ _ t5 (sh.trans (sh3.trans g4.sh).back) R4.unpin (kp.both k4) (Dv.bl _)⟩
          | _ => exact t4.elim
        · exact t4.elim
    · exact hg.run O (Z.pin Z0) (wipeR ρ vs) (L2.wipe σ vs) H3 v d _ _ (R2.wipe vs) dv t1 fun ρ2 σ2 h2 s2 R3 => ⟨rfl, ρ2, h2, s2, R3⟩
  · have e : i = xs.length := by omega
    subst e
    exact .inl ⟨ws, q (.d (.bool c0)) _ _ _ (fin ρ iv) sh R.unpin kp (Dv.bl _)⟩
section
variable {X : Cx} {C : Fc} {wi : TI} {di : DI} {vs : List Nat} {g : TG} {dg : DG} {tt : TT} {dt : DT} {te : TE} {de : DE} {P : Addr}
theorem re_allG (hP : P ∈ C.tabs) (hi : RI C wi di) (hg : RG C g dg) (hw : GW g vs) (ht : RT C tt dt) (he : RE C te de) : RE C (GG.tAllG P wi g tt te vs) (dAA true di vs dg dt de) := by
  refine ⟨fun O Z ρ0 σ H0 Q k R0 hk q => ?_⟩
  refine hi.run O Z ρ0 σ H0 _ _ R0 hk fun xs ρ1 J H1 Z0 ⟨Iv, i0, turn, fin⟩ g1 hz w => ?_
  refine ⟨g1.rl.tb P hP, fun H2 tb => ?_⟩
  have k12 : Kp H1 H2 [] := Kp.tabbed (g1.rl.tb P hP) tb
  exact gt_data w hg hw ht he ((g1.rl.pin hz).kp0 k12) k12.up0 i0 turn fin fun r ρ' v H' hk' sh R kp rv => q r ρ' v H' hk' (g1.trans ⟨sh, R, kp⟩) rv
theorem re_anyG (hP : P ∈ C.tabs) (hi : RI C wi di) (hg : RG C g dg) (hw : GW g vs) (ht : RT C tt dt) (he : RE C te de) : RE C (GG.tAnyG P wi g tt te vs) (dAA false di vs dg dt de) := by
  refine ⟨fun O Z ρ0 σ H0 Q k R0 hk q => ?_⟩
  refine hi.run O Z ρ0 σ H0 _ _ R0 hk fun xs ρ1 J H1 Z0 ⟨Iv, i0, turn, fin⟩ g1 hz w => ?_
  refine ⟨g1.rl.tb P hP, fun H2 tb => ?_⟩
  have k12 : Kp H1 H2 [] := Kp.tabbed (g1.rl.tb P hP) tb
  exact gt_data w hg hw ht he ((g1.rl.pin hz).kp0 k12) k12.up0 i0 turn fin fun r ρ' v H' hk' sh R kp rv => q r ρ' v H' hk' (g1.trans ⟨sh, R, kp⟩) rv
abbrev PDgn (X : Cx) (C : Fc) (scope : Scope) (tg : Expr) (g : TG) (dg : DG) : Prop := ∀ (s : Shared) (H : Hp) (a : Addr) (code : Value) (cl : List (Str × Addr)) (fp : List Addr) (pn : List (Addr × Obj)), PDg (GG.gex X (GG.gA X) s H (genEnv scope cl a code builtinsNs X.env) fp pn) C tg g dg
abbrev PDn (X : Cx) (C : Fc) (scope : Scope) (e : Expr) (te : TE) (de : DE) : Prop := ∀ (s : Shared) (H : Hp) (a : Addr) (code : Value) (cl : List (Str × Addr)) (fp : List Addr) (pn : List (Addr × Obj)), PD (GG.gex X (GG.gA X) s H (genEnv scope cl a code builtinsNs X.env) fp pn) C e te de
abbrev PDtn (X : Cx) (C : Fc) (scope : Scope) (ifs : List Expr) (tt : TT) (dt : DT) : Prop := ∀ (s : Shared) (H : Hp) (a : Addr) (code : Value) (cl : List (Str × Addr)) (fp : List Addr) (pn : List (Addr × Obj)), PDts (GG.gex X (GG.gA X) s H (genEnv scope cl a code builtinsNs X.env) fp pn) C ifs tt dt
theorem pd_all {c : Addr} {elt tg iter : Expr} {ifs : List Expr} {p pos gpos : Pos} {scope : Scope} {own : List (Str × Nat)} {k : Nat} (s0 : Shared)
    (hc : X.calm = true) (hN : X.N.Nodup) (hr : Room k X.A) (hgl : Gl X "all") (hm : X.mg "all" = none) (hb : bootBuiltins "all" = some (.builtin "all")) (TB : GxR.TabB X.base X.mg c P) (hP : P ∈ C.tabs) (hcode : X.env.code = .ref c) (ok : BlkOk X.N X.env.scope scope own)
    (hcell : ∀ y ∈ scope.names, y.2 ≠ .cell) (h0 : scope.names.lookup (".0" : Str) = some NameKind.local) (hco : scope.isCoroutine = false)
    (hi : PDi X C tg iter wi di) (hg : PDgn X C scope tg g dg) (hw : GW g (own.map (·.2))) (ht : PDtn X C scope ifs tt dt) (he : PDn X C scope elt te de) (hs : ∀ v, genFold iter X.env v = pure v)
    (hse : starEach [.GeneratorExp elt [⟨tg, iter, ifs, 0⟩] scope gpos] X.env = (false, eval (.GeneratorExp elt [⟨tg, iter, ifs, 0⟩] scope gpos) X.env) :: starEach [] X.env := by rfl) :
    PD X C (.Call (.Name "all" p) [.GeneratorExp elt [⟨tg, iter, ifs, 0⟩] scope gpos] [] pos) (GG.tAllG P wi g tt te (own.map (·.2))) (dAA true di (own.map (·.2)) dg dt de) :=
  ⟨GG.pe_allG hc hN hr hgl hm hb TB hcode ok hcell h0 hco hi.pi (fun s H a code cl fp pn => (hg s H a code cl fp pn).pg) (fun s H a code cl fp pn => (ht s H a code cl fp pn).pe) (fun s H a code cl fp pn => (he s H a code cl fp pn).pe) hs hse,
   re_allG hP hi.ri (hg s0 (fun _ => none) 0 .none [] [] []).rg hw (ht s0 (fun _ => none) 0 .none [] [] []).re (he s0 (fun _ => none) 0 .none [] [] []).re⟩
theorem pd_any {c : Addr} {elt tg iter : Expr} {ifs : List Expr} {p pos gpos : Pos} {scope : Scope} {own : List (Str × Nat)} {k : Nat} (s0 : Shared)
    (hc : X.calm = true) (hN : X.N.Nodup) (hr : Room k X.A) (hgl : Gl X "any") (hm : X.mg "any" = none) (TB : GxR.TabB X.base X.mg c P) (hP : P ∈ C.tabs) (hcode : X.env.code = .ref c) (ok : BlkOk X.N X.env.scope scope own)
    (hcell : ∀ y ∈ scope.names, y.2 ≠ .cell) (h0 : scope.names.lookup (".0" : Str) = some NameKind.local) (hco : scope.isCoroutine = false)
    (hi : PDi X C tg iter wi di) (hg : PDgn X C scope tg g dg) (hw : GW g (own.map (·.2))) (ht : PDtn X C scope ifs tt dt) (he : PDn X C scope elt te de) (hs : ∀ v, genFold iter X.env v = pure v)
    (hse : starEach [.GeneratorExp elt [⟨tg, iter, ifs, 0⟩] scope gpos] X.env = (false, eval (.GeneratorExp elt [⟨tg, iter, ifs, 0⟩] scope gpos) X.env) :: starEach [] X.env := by rfl) :
    PD X C (.Call (.Name "any" p) [.GeneratorExp elt [⟨tg, iter, ifs, 0⟩] scope gpos] [] pos) (GG.tAnyG P wi g tt te (own.map (·.2))) (dAA false di (own.map (·.2)) dg dt de) :=
  ⟨GG.pe_anyG hc hN hr hgl hm TB hcode ok hcell h0 hco hi.pi (fun s H a code cl fp pn => (hg s H a code cl fp pn).pg) (fun s H a code cl fp pn => (ht s H a code cl fp pn).pe) (fun s H a code cl fp pn => (he s H a code cl fp pn).pe) hs hse,
   re_anyG hP hi.ri (hg s0 (fun _ => none) 0 .none [] [] []).rg hw (ht s0 (fun _ => none) 0 .none [] [] []).re (he s0 (fun _ => none) 0 .none [] [] []).re⟩
end
/-! ### lists that are written -/
def dApp (i : Nat) (de : DE) : DE := fun ρ Q => match ρ[i]? with
  | some (some (.ow (.lst _ _))) => de ρ fun r ρ1 => (match r, ρ1[i]? with
    | .d x, some (some (.ow (.lst g ds))) => ds.length < sizeLine ∧ Q (.d .none) (ρ1.set i (some (.ow (.lst g (ds ++ [x])))))
    | _, _ => False)
  | _ => False
def dPop (i : Nat) : DE := fun ρ Q => match ρ[i]? with
  | some (some (.ow (.lst g ds))) => (match ds[ds.length - 1]? with
    | some x => Q (.d x) (ρ.set i (some (.ow (.lst g ds.dropLast))))
    | none => False)
  | _ => False
def dExt (i : Nat) (df : DF) : DE := fun ρ Q => match ρ[i]? with
  | some (some (.ow (.lst _ _))) => df ρ fun es ρ1 => (match ρ1[i]? with
    | some (some (.ow (.lst g ds))) => ds.length + es.length ≤ sizeLine ∧ Q (.d .none) (ρ1.set i (some (.ow (.lst g (ds ++ es)))))
    | _ => False)
  | _ => False
section
variable {X : Cx} {C : Fc} {O : List Addr} {Z : Zp} {ρ : Rho} {σ : L2.St} {H : Hp}
/-- the list of slot i has a new content -/
theorem Rl.put {i : Nat} {g : Option Nat} {ds es : List PyData} {a : Addr} {us : List V} (R : Rl C O Z ρ σ H) (e : ρ[i]? = some (some (.ow (.lst g ds)))) (ea : σ[i]? = some (some (.ref a))) (k : DvAll C.K H (C.av Z O) us es) :
    Go C O Z σ ρ H (ρ.set i (some (.ow (.lst g es)))) (upd H a (.lst us)) := by
  obtain ⟨b, e1, m, f, vs, e2, gd⟩ := R.own_slot e
  rw [ea] at e1
  cases e1
  have kw : Kp H (upd H a (.lst us)) [a] := Kp.wl e2
  have inA : ∀ x ∈ [a], x ∈ C.av Z O := fun x h => by rw [List.mem_singleton.mp h]; exact List.mem_append_left _ m
  have inO : ∀ x ∈ [a], x ∈ O := fun x h => by rw [List.mem_singleton.mp h]; exact m
  refine ⟨fun j s e3 => ?_, ⟨?_, R.own, R.sub, fun P h => kw.tabG (R.tb P h), fun b h => ?_, fun b h z => ?_, by rw [List.length_set]; exact R.len, fun j dv e3 => ?_, fun b h z => ?_, R.gO, fun p h => (R.zz p h).kp kw inA, fun j l b s s' e3 e4 e5 e6 => ?_⟩, kw.up inO⟩
  · rcases get_set e3 with ⟨q, _, _⟩ | ⟨_, e3⟩
    · subst q; exact ⟨_, e⟩
    · exact ⟨s, e3⟩
  · exact R.fr.trans kw (fun _ h => h) fun x h => by rw [List.mem_singleton.mp h]; exact R.own a m
  · by_cases z : b = a
    · exact ⟨.lst us, by rw [z, upd_same], fun _ z => nomatch z⟩
    · obtain ⟨o, e3, t⟩ := R.al b h
      exact ⟨o, by rw [upd_ne z]; exact e3, t⟩
  · by_cases y : b = a
    · rw [y, upd_same] at z; cases z
    · rw [upd_ne y] at z; exact R.alB b h z
  · rcases get_set e3 with ⟨q, y, _⟩ | ⟨n, e3⟩
    · cases y
      subst q
      exact ⟨_, ea, a, rfl, m, f, us, upd_same, k.kp kw inA⟩
    · obtain ⟨v, e4, h⟩ := R.sl j dv e3
      refine ⟨v, e4, ?_⟩
      cases dv with
      | d x => exact Dv.kp h kw inA
      | ow s =>
        obtain ⟨b, rfl, mb, gb⟩ := h
        refine ⟨b, rfl, mb, gb.kp kw (fun z => n ?_) inA⟩
        rw [List.mem_singleton.mp z] at e4
        exact R.ds i j a _ _ ea e4 e e3
  · by_cases y : b = a
    · rw [y, upd_same] at z; cases z
    · rw [upd_ne y] at z; exact R.gA b h z
  · have back : ∀ {j : Nat} {s : OS}, (ρ.set i (some (.ow (.lst g es))))[j]? = some (some (.ow s)) → ∃ s, ρ[j]? = some (some (.ow s)) := fun {j s} e3 => by
      rcases get_set e3 with ⟨q, _, _⟩ | ⟨_, e3⟩
      · subst q; exact ⟨_, e⟩
      · exact ⟨s, e3⟩
    obtain ⟨s1, h1⟩ := back e5
    obtain ⟨s2, h2⟩ := back e6
    exact R.ds j l b s1 s2 e3 e4 h1 h2
theorem re_app {i : Nat} {te : TE} {de : DE} (h : RE C te de) : RE C (tBM C.K "list" rAppend (tVar i) (tCons te tNil)) (dApp i de) := by
  refine ⟨fun O Z ρ σ H Q k R hk q => ?_⟩
  unfold dApp at hk
  split at hk
  · rename_i g0 ds0 e0
    obtain ⟨a, ea, m, f, vs, e2, gd⟩ := R.own_slot e0
    refine ⟨_, ea, .inl ⟨rfl, _, SqL.of e2⟩, h.run O Z ρ σ H _ _ R hk fun r ρ1 v H1 h1 g1 rv => ?_⟩
    split at h1
    · rename_i x g ds e1
      obtain ⟨b, eb, m, f, us, e3, gd⟩ := g1.rl.own_slot e1
      rw [ea] at eb
      cases eb
      have go := g1.rl.put e1 ea (gd.snoc rv)
      exact ⟨a, us, v, rfl, rfl, e3, by rw [gd.length]; exact h1.1, q _ _ _ _ h1.2 (g1.trans go) .non⟩
    · exact h1.elim
  · exact hk.elim
theorem re_pop {i : Nat} : RE C (tBM0 C.K "list" rPop (tVar i)) (dPop i) := by
  refine ⟨fun O Z ρ σ H Q k R hk q => ?_⟩
  unfold dPop at hk
  split at hk
  · rename_i g ds e0
    split at hk
    · rename_i x ex
      obtain ⟨a, ea, m, f, vs, e2, gd⟩ := R.own_slot e0
      obtain ⟨v, hv, dv⟩ := gd.getD _ ex
      have go := R.put e0 ea gd.dropLast
      refine ⟨_, ea, .inl ⟨rfl, _, SqL.of e2⟩, a, vs, v, rfl, rfl, e2, by rw [gd.length]; exact hv, q _ _ _ _ hk go (Dv.kp dv go.kp fun x m => List.mem_append_left _ m)⟩
    · exact hk.elim
  · exact hk.elim
theorem re_ext {i : Nat} {te : TE} {df : DF} (h : RF C te df) : RE C (tBM C.K "list" rExtend (tVar i) (tCons te tNil)) (dExt i df) := by
  refine ⟨fun O Z ρ σ H Q k R hk q => ?_⟩
  unfold dExt at hk
  split at hk
  · rename_i g0 ds0 e0
    obtain ⟨a, ea, m, f, vs, e2, gd⟩ := R.own_slot e0
    refine ⟨_, ea, .inl ⟨rfl, _, SqL.of e2⟩, h.run O Z ρ σ H _ _ R hk fun es ρ1 ws b H1 h1 g1 R1 n h0 e3 dw => ?_⟩
    split at h1
    · rename_i g ds e1
      obtain ⟨b', eb, m, f, us, e4, gd⟩ := g1.rl.own_slot e1
      rw [ea] at eb
      cases eb
      have go := g1.rl.put e1 ea (gd.append (dw.sub guard_sub))
      exact ⟨a, b, us, ws, rfl, rfl, e4, e3, by rw [gd.length, dw.length]; exact h1.1, q _ _ _ _ h1.2 (g1.trans go) .non⟩
    · exact h1.elim
  · exact hk.elim
theorem pd_app {i : Nat} {e o : Expr} {te : TE} {de : DE} {pos apos cpos : Pos} (hp : PE X (.Call (.Attribute o "append" apos) [e] [] cpos) (tBM C.K "list" rAppend (tVar i) (tCons te tNil))) (h : RE C te de) : PD X C (.Call (.Attribute o "append" apos) [e] [] cpos) (tBM C.K "list" rAppend (tVar i) (tCons te tNil)) (dApp i de) := ⟨hp, re_app h⟩
/-- a raise -/
def dRaise (C : Fc) (c : Addr) : DS := fun _ _ => C.W c
theorem pds_raise {st : Stmt} {c : Addr} (hp : PS X st fun _ _ H => C.E (.ref c) none H) : PDs X C st (fun _ _ H => C.E (.ref c) none H) (dRaise C c) := ⟨hp, ⟨fun O Z D DD ρ σ H R _ hk => C.xs c H R.fr hk⟩⟩
end
end DL

set_option Elab.async false
set_option linter.all false
set_option maxRecDepth 100000
set_option maxHeartbeats 4000000
namespace DL
open PySem PySem.Spec PyProof.Rows L2
section
variable {X : Cx} {C : Fc} {K : PySem.W.Frag} {pos : Pos}
/-! ### rules with K given -/
theorem catAK (K : PySem.W.Frag) (h : X.K = K := by rfl) : OpR X (binaryOp .Add) (rCatA K) := by subst h; exact op_catA
theorem slTAK (K : PySem.W.Frag) (h : X.K = K := by rfl) : SlR X (rSlA K) := by subst h; exact sl_tupA
theorem inDK (K : PySem.W.Frag) (hu : X.A.units + 65 < cLine) (h : X.K = K := by rfl) : OpR X (compareOp .In) (rInD K) := by subst h; exact op_inD hu
theorem notInDK (K : PySem.W.Frag) (hu : X.A.units + 65 < cLine) (h : X.K = K := by rfl) : OpR X (compareOp .NotIn) (rNotInD K) := by subst h; exact op_notInD hu
theorem sumK (K : PySem.W.Frag) (hc : X.calm = true) (h : X.K = K := by rfl) : CallR X (.builtin "sum") (rSum K) := by subst h; exact cr_sum hc
/-! ### names of the module -/
theorem pd_gint {x : Str} {i : Int} {p : Pos} (hg : Gl X x) (h : ∃ t, X.mg x = some (.int i t)) (hd : (x == ("__debug__" : Str)) = false := by decide) : PD X C (.Name x p) (tC (.int i)) (dK (.int i)) :=
  let ⟨t, e⟩ := h
  pd_c (pe_glob hg e ⟨t, rfl⟩ hd) fun _ _ => .int i
theorem pd_gstr {x z : Str} {p : Pos} (hg : Gl X x) (h : ∃ t, X.mg x = some (.str z t)) (hd : (x == ("__debug__" : Str)) = false := by decide) : PD X C (.Name x p) (tC (.str z)) (dK (.str z)) :=
  let ⟨t, e⟩ := h
  pd_c (pe_glob hg e ⟨t, rfl⟩ hd) fun _ _ => .str z
/-- a constant of the module that is a datum -/
structure KD (K : PySem.W.Frag) (mg : Str → Option Value) (x : Str) (a : Addr) (d : PyData) : Prop where
  g : mg x = some (.ref a)
  d : ∀ H O, Dv K H O (.ref a) d
theorem pd_gd {x : Str} {a : Addr} {d : PyData} {p : Pos} (hg : Gl X x) (h : KD C.K X.mg x a d) (hd : (x == ("__debug__" : Str)) = false := by decide) : PD X C (.Name x p) (tC (.ref a)) (dK d) := pd_c (pe_glob hg h.g rfl hd) h.d
/-! ### chains of comparisons -/
def dChain (dr dr' : PyData → PyData → (PyData → Prop) → Prop) (da db dc : DE) : DE := fun ρ Q => da ρ fun r1 ρ1 => db ρ1 fun r2 ρ2 => dView2 r1 r2 ρ2 fun x y => dr x y fun z => match z with
  | .bool b => cond b (dc ρ2 fun r3 ρ3 => dView2 r2 r3 ρ3 fun y z => dr' y z fun u => Q (.d u) ρ3) (Q (.d (.bool false)) ρ2)
  | _ => False
theorem re_chain {r r' : R2} {dr dr' : PyData → PyData → (PyData → Prop) → Prop} {ta tb tc : TE} {da db dc : DE} (ho : OpD C.K r dr) (ho' : OpD C.K r' dr') (ha : RE C ta da) (hb : RE C tb db) (hc : RE C tc dc) : RE C (tChain r r' ta tb tc) (dChain dr dr' da db dc) := by
  refine ⟨fun O Z ρ σ H Q k R hk q => ?_⟩
  refine ha.run O Z ρ σ H _ _ R hk fun r1 ρ1 x H1 h1 g1 rx => ?_
  refine hb.run O Z ρ1 σ H1 _ _ g1.rl h1 fun r2 ρ2 y H2 h2 g2 ry => ?_
  unfold dView2 at h2
  split at h2
  · rename_i dx dy e1 e2
    refine ho (C.av Z O) H2 x y dx dy _ _ g2.rl.alN ((rx.go g2).dz g2.rl e1) (ry.dz g2.rl e2) h2 fun z v H' hz kp dz => ?_
    have g3 := (g1.trans g2).new kp
    cases z with
    | bool b =>
      cases dz
      refine ⟨b, rfl, ?_⟩
      cases b with
      | true =>
        rw [if_pos rfl]
        refine hc.run O Z ρ2 σ H' _ _ g3.rl hz fun r3 ρ3 w H3 h3 g4 rw => ?_
        unfold dView2 at h3
        split at h3
        · rename_i dy' dz' e3 e4
          have ry' : RvR C.K H3 (C.av Z O) σ y r2 := (ry.go ((Go.refl g2.rl).new kp)).go g4
          exact ho' (C.av Z O) H3 y w dy' dz' _ _ g4.rl.alN (ry'.dz g4.rl e3) (rw.dz g4.rl e4) h3 fun u v H4 hu kp4 du => q _ _ _ _ hu ((g3.trans g4).new kp4) du
        · exact h3.elim
      | false =>
        rw [if_neg (by decide)]
        exact q _ _ _ _ hz g3 (.bl false)
    | _ => exact hz.elim
  · exact h2.elim
section
variable {op op' : CmpOp} {a b c : Expr} {r r' : R2} {dr dr' : PyData → PyData → (PyData → Prop) → Prop} {ta tb tc : TE} {da db dc : DE}
theorem pd_chain (h1 : OpR X (compareOp op) r) (h2 : OpR X (compareOp op') r') (ho : OpD C.K r dr) (ho' : OpD C.K r' dr') (ha : PD X C a ta da) (hb : PD X C b tb db) (hc : PD X C c tc dc) (hm : lastMarks [op, op'] [b, c] = false := by with_unfolding_all rfl) :
    PD X C (.Compare a [op, op'] [b, c] pos) (tChain r r' ta tb tc) (dChain dr dr' da db dc) := ⟨pe_chain h1 h2 ha.pe hb.pe hc.pe hm, re_chain ho ho' ha.re hb.re hc.re⟩
theorem pdt_chain (h1 : OpR X (compareOp op) r) (h2 : OpR X (compareOp op') r') (ho : OpD C.K r dr) (ho' : OpD C.K r' dr') (ha : PD X C a ta da) (hb : PD X C b tb db) (hc : PD X C c tc dc) (hm : lastMarks [op, op'] [b, c] = false := by with_unfolding_all rfl) :
    PDt X C (.Compare a [op, op'] [b, c] pos) (tTest (tChain r r' ta tb tc)) (dB (dChain dr dr' da db dc)) := ⟨pt_chain h1 h2 ha.pe hb.pe hc.pe hm, rt_b (re_chain ho ho' ha.re hb.re hc.re)⟩
end
/-! ### stores to a name -/
section
variable {i : Nat} {x : Str} {e : Expr} {te : TE} {de : DE} {df : DF} {pos' : Pos}
theorem pds_setN (hN : X.N.Nodup) (hi : X.N[i]? = some x) (hx : Loc X.env.scope x) (he : PD X C e te de) (hs : swapsWith e (some (.Name x pos')) pos.line X.env = pure false := by rfl) (hf : X.fn x = true ∨ X.env.scope.names.lookup x = some .local := by first | exact .inl rfl | exact .inr rfl | assumption) :
    PDs X C (.Assign [.Name x pos'] e pos) (tAsg te (gName i)) (dAsg de (dgName i)) := pds_set (ps_set hN hi hx he.pe hs hf) he.re
theorem pds_ownN (hN : X.N.Nodup) (hi : X.N[i]? = some x) (hx : Loc X.env.scope x) (he : PF X C e te df) (hs : swapsWith e (some (.Name x pos')) pos.line X.env = pure false := by rfl) (hf : X.fn x = true ∨ X.env.scope.names.lookup x = some .local := by first | exact .inl rfl | exact .inr rfl | assumption) :
    PDs X C (.Assign [.Name x pos'] e pos) (tAsg te (gName i)) (dOwn i df) := pds_own (ps_set hN hi hx he.pe hs hf) he.re
end
section
variable {i : Nat} {y : Str} {py : Pos} {elt tg iter : Expr} {ifs : List Expr} {scope : Scope} {own : List (Str × Nat)} {spos : Pos} {wi : TI} {g : TG} {tt : TT} {te : TE} {di : DI} {dg : DG} {dt : DT} {de : DE}
theorem pds_setLc (hc : X.calm = true) (hN : X.N.Nodup) (hy : X.N[i]? = some y) (hyl : X.env.scope.names.lookup y = some .local)
    (hsw : swapsWith (.ListComp elt [⟨tg, iter, ifs, 0⟩] scope pos) (some (.Name y py)) spos.line X.env = pure true) (hi : PDi X C tg iter wi di) (ok : BlkOk X.N X.env.scope scope own)
    (hg : ∀ (s : Shared) (H : Hp) (a : Addr) (cl : List (Str × Addr)) (fp : List Addr), PDg (X.blk s H scope (compEnvC scope cl a X.env) fp) C tg g dg) (hw : GW g (own.map (·.2)))
    (ht : ∀ (s : Shared) (H : Hp) (a : Addr) (cl : List (Str × Addr)) (fp : List Addr), PDts (X.blk s H scope (compEnvC scope cl a X.env) fp) C ifs tt dt)
    (he : ∀ (s : Shared) (H : Hp) (a : Addr) (cl : List (Str × Addr)) (fp : List Addr), PD (X.blk s H scope (compEnvC scope cl a X.env) fp) C elt te de) (s0 : Shared) (hs : ∀ x, foldedSetIterable iter X.env x = pure x := by intro _; rfl) :
    PDs X C (.Assign [.Name y py] (.ListComp elt [⟨tg, iter, ifs, 0⟩] scope pos) spos) (tAsg (tLc wi g tt te (own.map (·.2))) (gName i)) (dAsg (dFrz (dLc di (own.map (·.2)) dg dt de)) (dgName i)) := by
  have pf := pf_lc hc hN hi ok hg hw ht he s0 hs (pos := pos)
  exact pds_set (ps_setLc hc hN hy hyl hsw hi.pi ok (fun s H a cl fp => (hg s H a cl fp).pg) (fun s H a cl fp => (ht s H a cl fp).pe) (fun s H a cl fp => (he s H a cl fp).pe) hs) (pd_frz pf).re
theorem pds_ownLc (hc : X.calm = true) (hN : X.N.Nodup) (hy : X.N[i]? = some y) (hyl : X.env.scope.names.lookup y = some .local)
    (hsw : swapsWith (.ListComp elt [⟨tg, iter, ifs, 0⟩] scope pos) (some (.Name y py)) spos.line X.env = pure true) (hi : PDi X C tg iter wi di) (ok : BlkOk X.N X.env.scope scope own)
    (hg : ∀ (s : Shared) (H : Hp) (a : Addr) (cl : List (Str × Addr)) (fp : List Addr), PDg (X.blk s H scope (compEnvC scope cl a X.env) fp) C tg g dg) (hw : GW g (own.map (·.2)))
    (ht : ∀ (s : Shared) (H : Hp) (a : Addr) (cl : List (Str × Addr)) (fp : List Addr), PDts (X.blk s H scope (compEnvC scope cl a X.env) fp) C ifs tt dt)
    (he : ∀ (s : Shared) (H : Hp) (a : Addr) (cl : List (Str × Addr)) (fp : List Addr), PD (X.blk s H scope (compEnvC scope cl a X.env) fp) C elt te de) (s0 : Shared) (hs : ∀ x, foldedSetIterable iter X.env x = pure x := by intro _; rfl) :
    PDs X C (.Assign [.Name y py] (.ListComp elt [⟨tg, iter, ifs, 0⟩] scope pos) spos) (tAsg (tLc wi g tt te (own.map (·.2))) (gName i)) (dOwn i (dLc di (own.map (·.2)) dg dt de)) := by
  have pf := pf_lc hc hN hi ok hg hw ht he s0 hs (pos := pos)
  exact pds_own (ps_setLc hc hN hy hyl hsw hi.pi ok (fun s H a cl fp => (hg s H a cl fp).pg) (fun s H a cl fp => (ht s H a cl fp).pe) (fun s H a cl fp => (he s H a cl fp).pe) hs) pf.re
end
/-! ### methods of owned lists -/
section
variable {i : Nat} {o e : Expr} {te : TE} {de : DE} {df : DF} {apos cpos : Pos}
theorem bmK (K : PySem.W.Frag) {T name id : String} {r : V → List V → Hp → VK → Prop} {es : List Expr} {to : TE} {t : TA} (hk : X.K = K) (h : PE X o (tBM X.K T r to t)) : PE X o (tBM K T r to t) := by subst hk; exact h
end
end
/-! ### sums -/
def dSum (ds : List PyData) (k : PyData → Prop) : Prop := match ds with
  | [.list xs] => ∃ ns : List Int, xs = ns.map PyData.int ∧ k (.int ns.sum)
  | _ => False
theorem cd_sum {K : PySem.W.Frag} : CallD K (rSum K) dSum := fun O H vs ds Q k _ hv h q => by
  unfold dSum at h
  split at h
  · obtain ⟨ns, rfl, h⟩ := h
    obtain ⟨v, rfl, dz⟩ := one hv
    obtain ⟨a, us, rfl, l, g⟩ := dz.list
    rw [DvAll.ofInts g] at l
    exact ⟨a, ns, rfl, SqL.of l, q _ _ _ h (Kp.refl H) (.int _)⟩
  · exact h.elim
end DL
namespace DL
open PySem PySem.Spec PyProof.Rows L2
section
variable {X : Cx} {C : Fc} {K : PySem.W.Frag} {pos : Pos}
def dNeg (x : PyData) (k : PyData → Prop) : Prop := match x with
  | .int i => k (.int (-i))
  | _ => False
theorem ud_neg : UnD K (rU fun i => .int (-i)) dNeg := fun O H x dx Q k _ hx h q => by
  unfold dNeg at h
  split at h
  · exact ⟨_, hx.int, q _ _ _ h (Kp.refl H) (.int _)⟩
  · exact h.elim
theorem pds_parN {i j : Nat} {x y : Str} {a b : Expr} {ta : TA} {da : DA} {px py pt : Pos} {kt k2 pt2} (hc : X.calm = true) (hN : X.N.Nodup) (hi : X.N[i]? = some x) (hj : X.N[j]? = some y) (hij : i ≠ j)
    (hx : X.env.scope.names.lookup x = some .local) (hy : X.env.scope.names.lookup y = some .local) (ha : PDa X C [a, b] ta da)
    (hw : swappedStores [.Tuple [.Name x px, .Name y py] kt pt] (.Tuple [a, b] k2 pt2) X.env = pure (some [x, y]))
    (hs : swapsWithSole [.Tuple [.Name x px, .Name y py] kt pt] (.Tuple [a, b] k2 pt2) pos.line X.env = pure false := by rfl) :
    PDs X C (.Assign [.Tuple [.Name x px, .Name y py] kt pt] (.Tuple [a, b] k2 pt2) pos) (tPar i j ta) (dPar i j da) := pds_par (ps_par hc hN hi hj hij hx hy ha.pe hw hs) ha.re
theorem pds_augN {i : Nat} {x : Str} {e : Expr} {te : TE} {de : DE} {op : Operator} {ti : TIp} {pos' : Pos} {dr : PyData → PyData → (PyData → Prop) → Prop} (hN : X.N.Nodup) (hi : X.N[i]? = some x) (hx : Loc X.env.scope x) (he : PD X C e te de) (ho : PIp X op ti) (hd : OpD C.K ti dr) (hf : X.fn x = true ∨ X.env.scope.names.lookup x = some .local := by first | exact .inl rfl | exact .inr rfl | assumption) :
    PDs X C (.AugAssign (.Name x pos') op e pos) (tAug i te ti) (dAug i dr de) := pds_aug (ps_aug hN hi hx he.pe ho hf) hd he.re
/-- list(x), as a new list -/
def dListF (da : DA) : DF := fun ρ Q => da ρ fun rs ρ1 => match dViews rs ρ1 with
  | some [.list xs] => Q xs ρ1
  | some [.tuple xs] => Q xs ρ1
  | _ => False
theorem pf_listOf {x : Str} {e : Expr} {ta : TA} {da : DA} {p : Pos} (hc : CallR X (.type "list") (GK.rListOf C.K)) (hg : Gl X x) (hm : X.mg x = none) (hv : bootBuiltins x = some (.type "list")) (ha : PDa X C [e] ta da) (hn : x ≠ "__name__" := by decide) (hdb : (x == ("__debug__" : Str)) = false := by decide)
    (he : starEach [e] X.env = (false, eval e X.env) :: starEach [] X.env := by rfl) (hpl : (backTo pos (starEach [] X.env)).any (·.1) = false := by rfl) : PF X C (.Call (.Name x p) [e] [] pos) (tCB (GK.rListOf C.K) ta) (dListF da) := by
  refine ⟨pe_callTy hc hg hm hv ha.pe hn hdb he hpl, ⟨fun O Z ρ σ H Q k R hk q => ?_⟩⟩
  refine ha.re.run O Z ρ σ H _ _ R hk fun rs ρ1 vs H1 h1 g1 rv => ?_
  split at h1
  · rename_i xs e
    obtain ⟨v, rfl, dz⟩ := one (dViews_all g1.rl rv e)
    obtain ⟨a, us, rfl, l, g⟩ := dz.list
    refine ⟨a, us, rfl, .inl (SqL.of l), fun p hp => ?_⟩
    obtain ⟨R2, h0, n⟩ := g1.rl.guard_new (vs := us) hp
    exact q _ _ _ _ _ h1 (g1.new (Kp.new hp)) R2 n h0 upd_same (((g.add hp).sub guard_cons).kp0 (Kp.new hp))
  · rename_i xs e
    obtain ⟨v, rfl, dz⟩ := one (dViews_all g1.rl rv e)
    obtain ⟨a, us, rfl, l, g⟩ := dz.tup
    refine ⟨a, us, rfl, .inr l.sq, fun p hp => ?_⟩
    obtain ⟨R2, h0, n⟩ := g1.rl.guard_new (vs := us) hp
    exact q _ _ _ _ _ h1 (g1.new (Kp.new hp)) R2 n h0 upd_same (((g.add hp).sub guard_cons).kp0 (Kp.new hp))
  · exact h1.elim
end
end DL
namespace DL
open PySem PySem.Spec PyProof.Rows L2
section
variable {X : Cx} {C : Fc} {i : Nat} {o e : Expr} {te : TE} {de : DE} {df : DF} {apos cpos : Pos}
theorem pd_appN (ho : PE X o (tVar i)) (he : PD X C e te de) (hbase : attributeBase o "append" X.env (eval o X.env) = eval o X.env := by rfl)
    (hfew : ((backTo cpos (starEach [e] X.env)).all (fun x => !x.1) && (backToKw cpos (keywordEach [] X.env)).all (fun x => x.1.isSome)
      && decide (([e] : List Expr).length + ([] : List Keyword).length + (if ([] : List Keyword).isEmpty then 0 else 1) < 30)) = true := by rfl)
    (hline : (apos.endLine == cpos.line) = true := by rfl) (hs : starEach [e] X.env = (false, eval e X.env) :: starEach [] X.env := by rfl) (hplain : (backTo cpos (starEach [] X.env)).any (·.1) = false := by rfl) (hk : X.K = C.K := by rfl) :
    PD X C (.Call (.Attribute o "append" apos) [e] [] cpos) (tBM C.K "list" rAppend (tVar i) (tCons te tNil)) (dApp i de) :=
  ⟨by rw [← hk]; exact pe_bm PySem.F.plainAttrs_list PySem.F.slot_list_append PySem.F.type_list_append mt_append ho (pa_cons he.pe pa_nil hs) hbase hfew hline hs hplain, re_app he.re⟩
theorem pd_extN (ho : PE X o (tVar i)) (he : PF X C e te df) (hbase : attributeBase o "extend" X.env (eval o X.env) = eval o X.env := by rfl)
    (hfew : ((backTo cpos (starEach [e] X.env)).all (fun x => !x.1) && (backToKw cpos (keywordEach [] X.env)).all (fun x => x.1.isSome)
      && decide (([e] : List Expr).length + ([] : List Keyword).length + (if ([] : List Keyword).isEmpty then 0 else 1) < 30)) = true := by rfl)
    (hline : (apos.endLine == cpos.line) = true := by rfl) (hs : starEach [e] X.env = (false, eval e X.env) :: starEach [] X.env := by rfl) (hplain : (backTo cpos (starEach [] X.env)).any (·.1) = false := by rfl) (hk : X.K = C.K := by rfl) :
    PD X C (.Call (.Attribute o "extend" apos) [e] [] cpos) (tBM C.K "list" rExtend (tVar i) (tCons te tNil)) (dExt i df) :=
  ⟨by rw [← hk]; exact pe_bm PySem.F.plainAttrs_list PySem.F.slot_list_extend PySem.F.type_list_extend mt_extend ho (pa_cons he.pe pa_nil hs) hbase hfew hline hs hplain, re_ext he.re⟩
theorem pd_popN (ho : PE X o (tVar i)) (hbase : attributeBase o "pop" X.env (eval o X.env) = eval o X.env := by rfl) (hline : (apos.endLine == cpos.line) = true := by rfl) (hk : X.K = C.K := by rfl) :
    PD X C (.Call (.Attribute o "pop" apos) [] [] cpos) (tBM0 C.K "list" rPop (tVar i)) (dPop i) :=
  ⟨by rw [← hk]; exact pe_bm0 PySem.F.plainAttrs_list PySem.F.slot_list_pop PySem.F.type_list_pop mt_pop ho hbase hline, re_pop⟩
end
end DL

set_option Elab.async false
set_option linter.all false
set_option maxRecDepth 100000
set_option maxHeartbeats 4000000
namespace DL
open PySem PySem.Spec PyProof.Rows L2
/-! ### int of a text -/
def dIntS (ds : List PyData) (k : PyData → Prop) : Prop := match ds with
  | [.str z] => z.length ≤ 640 ∧ ∃ n, PySem.intText? z = some n ∧ k (.int n)
  | _ => False
theorem cd_intS {K : PySem.W.Frag} : CallD K (fun xs H Q => ∃ a n, xs = [.str a] ∧ PySem.intText? a = some n ∧ a.length ≤ 640 ∧ Q (.int n) H) dIntS := fun O H vs ds Q k _ hv h q => by
  unfold dIntS at h
  split at h
  · obtain ⟨v, rfl, dz⟩ := one hv
    obtain ⟨l, n, e, h⟩ := h
    exact ⟨_, n, by rw [dz.str], e, l, q _ _ _ h (Kp.refl H) (.int _)⟩
  · exact h.elim
end DL

set_option Elab.async false
set_option linter.all false
set_option maxRecDepth 100000
set_option maxHeartbeats 4000000
namespace DL
open PySem PySem.Spec PyProof.Rows L2
/-! ### an evaluator for simp: what comes next is sealed until its data are there -/
section
variable {ρ ρ1 : Rho} {Q : RV → Rho → Prop} {QT : Bool → Rho → Prop} {QA : List RV → Rho → Prop} {QF QI : List PyData → Rho → Prop} {QO : Option Int → Rho → Prop} {DD : DEnds} {da db dc de : DE} {d e : DS} {t u : DT} {das : DA} {df : DF} {di : DI} {dg : DG} {dgs : DGs} {x y z : PyData} {xs ys ds : List PyData} {r r1 r2 : RV} {rs : List RV} {i j : Nat} {vs : List Nat}
  {dr dr' : PyData → PyData → (PyData → Prop) → Prop} {du : PyData → (PyData → Prop) → Prop} {dl : List PyData → (PyData → Prop) → Prop} {k : PyData → Prop} {kr : Rho → Prop} {f : PyData → Bool} {T : PyData → Bool} {lo hi : Option Int} {dlo dhi : DO} {b c : Bool} {S : DSp} {W : Addr → Prop}
def opK4 (Q : RV → Rho → Prop) (ρ : Rho) (z : PyData) : Prop := Q (.d z) ρ
theorem opK4_a : opK4 Q ρ z = Q (.d z) ρ := rfl
def opK3 (dr : PyData → PyData → (PyData → Prop) → Prop) (Q : RV → Rho → Prop) (ρ : Rho) (x y : PyData) : Prop := dr x y (opK4 Q ρ)
theorem opK3_a : opK3 dr Q ρ x y = dr x y (opK4 Q ρ) := rfl
def opK2 (dr : PyData → PyData → (PyData → Prop) → Prop) (Q : RV → Rho → Prop) (r1 r2 : RV) (ρ : Rho) : Prop := dView2 r1 r2 ρ (opK3 dr Q ρ)
theorem opK2_a : opK2 dr Q r1 r2 ρ = dView2 r1 r2 ρ (opK3 dr Q ρ) := rfl
def opK1 (dr : PyData → PyData → (PyData → Prop) → Prop) (db : DE) (Q : RV → Rho → Prop) (r1 : RV) (ρ : Rho) : Prop := db ρ (opK2 dr Q r1)
theorem opK1_a : opK1 dr db Q r1 ρ = db ρ (opK2 dr Q r1) := rfl
theorem dOp_e : dOp dr da db ρ Q = da ρ (opK1 dr db Q) := rfl
theorem dK_e : dK x ρ Q = Q (.d x) ρ := rfl
def varK (Q : RV → Rho → Prop) (ρ : Rho) (i : Nat) : Option (Option DV) → Prop
  | some (some (.d x)) => Q (.d x) ρ
  | some (some (.ow _)) => Q (.ow i) ρ
  | _ => False
theorem dVar_e : dVar i ρ Q = varK Q ρ i ρ[i]? := by unfold dVar varK; split <;> simp_all
theorem varK_d : varK Q ρ i (some (some (.d x))) = Q (.d x) ρ := rfl
theorem varK_o {s : OS} : varK Q ρ i (some (some (.ow s))) = Q (.ow i) ρ := rfl
def vw2 (k : PyData → PyData → Prop) : Option PyData → Option PyData → Prop
  | some x, some y => k x y
  | _, _ => False
theorem dView2_e {k : PyData → PyData → Prop} : dView2 r1 r2 ρ k = vw2 k (r1.view ρ) (r2.view ρ) := by unfold dView2 vw2; split <;> simp_all
theorem vw2_a {k : PyData → PyData → Prop} : vw2 k (some x) (some y) = k x y := rfl
def vw1 (k : PyData → Prop) : Option PyData → Prop
  | some x => k x
  | _ => False
theorem dView_e : dView r ρ k = vw1 k (r.view ρ) := by unfold dView vw1; split <;> simp_all
theorem vw1_a : vw1 k (some x) = k x := rfl
theorem view_d : RV.view ρ (.d x) = some x := rfl
def owL : Option (Option DV) → Option PyData
  | some (some (.ow (.lst _ ds))) => some (.list ds)
  | _ => none
theorem view_o : RV.view ρ (.ow i) = owL ρ[i]? := by
  show (match ρ[i]? with
    | some (some (.ow (.lst _ ds))) => some (PyData.list ds)
    | _ => none) = _
  unfold owL
  rfl
theorem owL_a {g : Option Nat} : owL (some (some (.ow (.lst g ds)))) = some (.list ds) := rfl
def unK2 (du : PyData → (PyData → Prop) → Prop) (Q : RV → Rho → Prop) (ρ : Rho) (x : PyData) : Prop := du x (opK4 Q ρ)
theorem unK2_a : unK2 du Q ρ x = du x (opK4 Q ρ) := rfl
def unK (du : PyData → (PyData → Prop) → Prop) (Q : RV → Rho → Prop) (r : RV) (ρ : Rho) : Prop := dView r ρ (unK2 du Q ρ)
theorem unK_a : unK du Q r ρ = dView r ρ (unK2 du Q ρ) := rfl
theorem dUn_e : dUn du da ρ Q = da ρ (unK du Q) := rfl
theorem dNil_e : dNil ρ QA = QA [] ρ := rfl
def consK2 (QA : List RV → Rho → Prop) (r : RV) (rs : List RV) (ρ : Rho) : Prop := QA (r :: rs) ρ
theorem consK2_a : consK2 QA r rs ρ = QA (r :: rs) ρ := rfl
def consK (das : DA) (QA : List RV → Rho → Prop) (r : RV) (ρ : Rho) : Prop := das ρ (consK2 QA r)
theorem consK_a : consK das QA r ρ = das ρ (consK2 QA r) := rfl
theorem dCons_e : dCons de das ρ QA = de ρ (consK das QA) := rfl
def tupK2 (Q : RV → Rho → Prop) (ρ : Rho) : Option (List PyData) → Prop
  | some ds => ds.length ≤ sizeLine ∧ Q (.d (.tuple ds)) ρ
  | none => False
theorem tupK2_a : tupK2 Q ρ (some ds) = (ds.length ≤ sizeLine ∧ Q (.d (.tuple ds)) ρ) := rfl
def tupK (Q : RV → Rho → Prop) (rs : List RV) (ρ : Rho) : Prop := tupK2 Q ρ (dData rs)
theorem tupK_a : tupK Q rs ρ = tupK2 Q ρ (dData rs) := rfl
theorem dTup_e : dTup das ρ Q = das ρ (tupK Q) := by
  unfold dTup
  congr
def lstK2 (QF : List PyData → Rho → Prop) (ρ : Rho) : Option (List PyData) → Prop
  | some ds => ds.length ≤ sizeLine ∧ QF ds ρ
  | none => False
theorem lstK2_a : lstK2 QF ρ (some ds) = (ds.length ≤ sizeLine ∧ QF ds ρ) := rfl
def lstK (QF : List PyData → Rho → Prop) (rs : List RV) (ρ : Rho) : Prop := lstK2 QF ρ (dData rs)
theorem lstK_a : lstK QF rs ρ = lstK2 QF ρ (dData rs) := rfl
theorem dLst_e : dLst das ρ QF = das ρ (lstK QF) := by unfold dLst; congr
theorem dData_n : dData [] = some [] := rfl
theorem dData_c : dData (.d x :: rs) = (dData rs).map (x :: ·) := rfl
theorem dViews_n : dViews [] ρ = some [] := rfl
def vwc : Option PyData → Option (List PyData) → Option (List PyData)
  | some x, some xs => some (x :: xs)
  | _, _ => none
theorem dViews_c : dViews (r :: rs) ρ = vwc (r.view ρ) (dViews rs ρ) := by unfold vwc; rw [dViews]; try (split <;> simp_all)
theorem vwc_a : vwc (some x) (some xs) = some (x :: xs) := rfl
def frzK (Q : RV → Rho → Prop) (ds : List PyData) (ρ : Rho) : Prop := Q (.d (.list ds)) ρ
theorem frzK_a : frzK Q ds ρ = Q (.d (.list ds)) ρ := rfl
theorem dFrz_e : dFrz df ρ Q = df ρ (frzK Q) := rfl
def bK2 (QT : Bool → Rho → Prop) (ρ : Rho) : PyData → Prop
  | .bool b => QT b ρ
  | _ => False
def bK (QT : Bool → Rho → Prop) (r : RV) (ρ : Rho) : Prop := dView r ρ (bK2 QT ρ)
theorem bK_a : bK QT (.d (.bool b)) ρ = QT b ρ := rfl
theorem dB_e : dB de ρ QT = de ρ (bK QT) := by unfold dB; congr
def notK (QT : Bool → Rho → Prop) (c : Bool) (ρ : Rho) : Prop := QT (!c) ρ
theorem notK_a : notK QT c ρ = QT (!c) ρ := rfl
theorem dNot_e : dNot t ρ QT = t ρ (notK QT) := rfl
def andK (u : DT) (QT : Bool → Rho → Prop) (c : Bool) (ρ : Rho) : Prop := cond c (u ρ QT) (QT false ρ)
theorem andK_t : andK u QT true ρ = u ρ QT := rfl
theorem andK_f : andK u QT false ρ = QT false ρ := rfl
theorem dAnd_e : dAnd t u ρ QT = t ρ (andK u QT) := rfl
def orK (u : DT) (QT : Bool → Rho → Prop) (c : Bool) (ρ : Rho) : Prop := cond c (QT true ρ) (u ρ QT)
theorem orK_t : orK u QT true ρ = QT true ρ := rfl
theorem orK_f : orK u QT false ρ = u ρ QT := rfl
theorem dOr_e : dOr t u ρ QT = t ρ (orK u QT) := rfl
def ifeK (da db : DE) (Q : RV → Rho → Prop) (c : Bool) (ρ : Rho) : Prop := cond c (da ρ Q) (db ρ Q)
theorem ifeK_t : ifeK da db Q true ρ = da ρ Q := rfl
theorem ifeK_f : ifeK da db Q false ρ = db ρ Q := rfl
theorem dIf_e : dIf t da db ρ Q = t ρ (ifeK da db Q) := rfl
def boolK (Q : RV → Rho → Prop) (c : Bool) (ρ : Rho) : Prop := Q (.d (.bool c)) ρ
theorem boolK_a : boolK Q c ρ = Q (.d (.bool c)) ρ := rfl
theorem dBool_e : dBool t ρ Q = t ρ (boolK Q) := rfl
def andVK (db : DE) (Q : RV → Rho → Prop) (c : Bool) (ρ : Rho) : Prop := cond c (db ρ Q) (Q (.d (.bool false)) ρ)
theorem andVK_t : andVK db Q true ρ = db ρ Q := rfl
theorem andVK_f : andVK db Q false ρ = Q (.d (.bool false)) ρ := rfl
theorem dAndV_e : dAndV da db ρ Q = dB da ρ (andVK db Q) := rfl
def orVK (db : DE) (Q : RV → Rho → Prop) (c : Bool) (ρ : Rho) : Prop := cond c (Q (.d (.bool true)) ρ) (db ρ Q)
theorem orVK_t : orVK db Q true ρ = Q (.d (.bool true)) ρ := rfl
theorem orVK_f : orVK db Q false ρ = db ρ Q := rfl
theorem dOrV_e : dOrV da db ρ Q = dB da ρ (orVK db Q) := rfl
def notVK (Q : RV → Rho → Prop) (c : Bool) (ρ : Rho) : Prop := Q (.d (.bool (!c))) ρ
theorem notVK_a : notVK Q c ρ = Q (.d (.bool (!c))) ρ := rfl
theorem dNotV_e : dNotV da ρ Q = dB da ρ (notVK Q) := rfl
def isiK2 (f : PyData → Bool) (Q : RV → Rho → Prop) (ρ : Rho) (x : PyData) : Prop := Q (.d (.bool (f x))) ρ
theorem isiK2_a : isiK2 f Q ρ x = Q (.d (.bool (f x))) ρ := rfl
def isiK (f : PyData → Bool) (Q : RV → Rho → Prop) (r : RV) (ρ : Rho) : Prop := dView r ρ (isiK2 f Q ρ)
theorem isiK_a : isiK f Q r ρ = dView r ρ (isiK2 f Q ρ) := rfl
theorem dIsi_e : dIsi f de ρ Q = de ρ (isiK f Q) := rfl
def cbK2 (dl : List PyData → (PyData → Prop) → Prop) (Q : RV → Rho → Prop) (ρ : Rho) : Option (List PyData) → Prop
  | some ds => dl ds (opK4 Q ρ)
  | none => False
theorem cbK2_a : cbK2 dl Q ρ (some ds) = dl ds (opK4 Q ρ) := rfl
def cbK (dl : List PyData → (PyData → Prop) → Prop) (Q : RV → Rho → Prop) (rs : List RV) (ρ : Rho) : Prop := cbK2 dl Q ρ (dViews rs ρ)
theorem cbK_a : cbK dl Q rs ρ = cbK2 dl Q ρ (dViews rs ρ) := rfl
theorem dCB_e : dCB dl das ρ Q = das ρ (cbK dl Q) := by
  have : cbK dl Q = fun rs ρ1 => match dViews rs ρ1 with
    | some ds => dl ds fun z => Q (.d z) ρ1
    | none => False := by
    funext rs ρ1
    unfold cbK cbK2
    cases dViews rs ρ1 <;> rfl
  rw [this]
  rfl
def slK4 (T : PyData → Bool) (lo hi : Option Int) (Q : RV → Rho → Prop) (ρ : Rho) (x : PyData) : Prop := T x = true ∧ dSlc x lo hi (opK4 Q ρ)
theorem slK4_a : slK4 T lo hi Q ρ x = (T x = true ∧ dSlc x lo hi (opK4 Q ρ)) := rfl
def slK3 (T : PyData → Bool) (r : RV) (lo : Option Int) (Q : RV → Rho → Prop) (hi : Option Int) (ρ : Rho) : Prop := dView r ρ (slK4 T lo hi Q ρ)
theorem slK3_a : slK3 T r lo Q hi ρ = dView r ρ (slK4 T lo hi Q ρ) := rfl
def slK2 (T : PyData → Bool) (r : RV) (dhi : DO) (Q : RV → Rho → Prop) (lo : Option Int) (ρ : Rho) : Prop := dhi ρ (slK3 T r lo Q)
theorem slK2_a : slK2 T r dhi Q lo ρ = dhi ρ (slK3 T r lo Q) := rfl
def slK (T : PyData → Bool) (dlo dhi : DO) (Q : RV → Rho → Prop) (r : RV) (ρ : Rho) : Prop := dlo ρ (slK2 T r dhi Q)
theorem slK_a : slK T dlo dhi Q r ρ = dlo ρ (slK2 T r dhi Q) := rfl
theorem dSl_e : dSl T de dlo dhi ρ Q = de ρ (slK T dlo dhi Q) := rfl
theorem doN_e : doN ρ QO = QO none ρ := rfl
def doK (QO : Option Int → Rho → Prop) (r : RV) (ρ : Rho) : Prop := match r with
  | .d (.int i) => QO (some i) ρ
  | _ => False
theorem doK_a {i : Int} : doK QO (.d (.int i)) ρ = QO (some i) ρ := rfl
theorem doS_e : doS de ρ QO = de ρ (doK QO) := by unfold doS; congr
def chK5 (Q : RV → Rho → Prop) (r2 : RV) (dr' : PyData → PyData → (PyData → Prop) → Prop) (dc : DE) (ρ : Rho) : PyData → Prop
  | .bool b => cond b (dc ρ (opK2 dr' Q r2)) (Q (.d (.bool false)) ρ)
  | _ => False
theorem chK5_t : chK5 Q r2 dr' dc ρ (.bool true) = dc ρ (opK2 dr' Q r2) := rfl
theorem chK5_f : chK5 Q r2 dr' dc ρ (.bool false) = Q (.d (.bool false)) ρ := rfl
def chK3 (dr dr' : PyData → PyData → (PyData → Prop) → Prop) (dc : DE) (Q : RV → Rho → Prop) (r2 : RV) (ρ : Rho) (x y : PyData) : Prop := dr x y (chK5 Q r2 dr' dc ρ)
theorem chK3_a : chK3 dr dr' dc Q r2 ρ x y = dr x y (chK5 Q r2 dr' dc ρ) := rfl
def chK2 (dr dr' : PyData → PyData → (PyData → Prop) → Prop) (dc : DE) (Q : RV → Rho → Prop) (r1 r2 : RV) (ρ : Rho) : Prop := dView2 r1 r2 ρ (chK3 dr dr' dc Q r2 ρ)
theorem chK2_a : chK2 dr dr' dc Q r1 r2 ρ = dView2 r1 r2 ρ (chK3 dr dr' dc Q r2 ρ) := rfl
def chK1 (dr dr' : PyData → PyData → (PyData → Prop) → Prop) (db dc : DE) (Q : RV → Rho → Prop) (r1 : RV) (ρ : Rho) : Prop := db ρ (chK2 dr dr' dc Q r1)
theorem chK1_a : chK1 dr dr' db dc Q r1 ρ = db ρ (chK2 dr dr' dc Q r1) := rfl
theorem dChain_e : dChain dr dr' da db dc ρ Q = da ρ (chK1 dr dr' db dc Q) := by
  have e1 : ∀ r2 ρ2 x y, dr x y (fun z => match z with
    | .bool b => cond b (dc ρ2 fun r3 ρ3 => dView2 r2 r3 ρ3 fun y z => dr' y z fun u => Q (.d u) ρ3) (Q (.d (.bool false)) ρ2)
    | _ => False) = dr x y (chK5 Q r2 dr' dc ρ2) := by
    intro r2 ρ2 x y
    congr 1
  show (da ρ fun r1 ρ1 => db ρ1 fun r2 ρ2 => dView2 r1 r2 ρ2 fun x y => dr x y fun z => match z with
    | .bool b => cond b (dc ρ2 fun r3 ρ3 => dView2 r2 r3 ρ3 fun y z => dr' y z fun u => Q (.d u) ρ3) (Q (.d (.bool false)) ρ2)
    | _ => False) = _
  conv => lhs; enter [2, r1, ρ1, 2, r2, ρ2, 4, x, y]; rw [e1 r2 ρ2 x y]
  rfl
/-! statements -/
theorem dSkip_e : dSkip DD ρ = DD.nx ρ := rfl
theorem dSeq_e : dSeq d e DD ρ = d { DD with nx := e DD } ρ := rfl
theorem dRet_e : dRet de DD ρ = de ρ DD.rt := rfl
theorem dRetN_e : dRetN DD ρ = DD.rt (.d .none) ρ := rfl
def dropK (DD : DEnds) (r : RV) (ρ : Rho) : Prop := DD.nx ρ
theorem dropK_a : dropK DD r ρ = DD.nx ρ := rfl
theorem dDrop_e : dDrop de DD ρ = de ρ (dropK DD) := rfl
def asgK (dg : DG) (DD : DEnds) (r : RV) (ρ : Rho) : Prop := match r with
  | .d x => dg x ρ DD.nx
  | .ow _ => False
theorem asgK_a : asgK dg DD (.d x) ρ = dg x ρ DD.nx := rfl
theorem dAsg_e : dAsg de dg DD ρ = de ρ (asgK dg DD) := by
  have : asgK dg DD = fun r ρ1 => match r with
    | .d x => dg x ρ1 DD.nx
    | .ow _ => False := by funext r ρ1; cases r <;> rfl
  rw [this]; rfl
def ownK (i : Nat) (DD : DEnds) (ds : List PyData) (ρ : Rho) : Prop := DD.nx (ρ.set i (some (.ow (.lst none ds))))
theorem ownK_a : ownK i DD ds ρ = DD.nx (ρ.set i (some (.ow (.lst none ds)))) := rfl
theorem dOwn_e : dOwn i df DD ρ = df ρ (ownK i DD) := rfl
def ifK (d e : DS) (DD : DEnds) (c : Bool) (ρ : Rho) : Prop := cond c (d DD ρ) (e DD ρ)
theorem ifK_t : ifK d e DD true ρ = d DD ρ := rfl
theorem ifK_f : ifK d e DD false ρ = e DD ρ := rfl
theorem dIfS_e : dIfS t d e DD ρ = t ρ (ifK d e DD) := rfl
theorem dgName_e : dgName i x ρ kr = kr (ρ.set i (some (.d x))) := rfl
theorem dgNil_e : dgNil [] ρ kr = kr ρ := rfl
def gcK (dgs : DGs) (xs : List PyData) (kr : Rho → Prop) (ρ : Rho) : Prop := dgs xs ρ kr
theorem gcK_a : gcK dgs xs kr ρ = dgs xs ρ kr := rfl
theorem dgCons_e : dgCons dg dgs (x :: xs) ρ kr = dg x ρ (gcK dgs xs kr) := rfl
theorem dgTup_e {n : Nat} : dgTup n dgs (.tuple xs) ρ kr = (xs.length = n ∧ dgs xs ρ kr) := rfl
def parK (i j : Nat) (DD : DEnds) (rs : List RV) (ρ : Rho) : Prop := match rs with
  | [.d x, .d y] => DD.nx ((ρ.set i (some (.d x))).set j (some (.d y)))
  | _ => False
theorem parK_a : parK i j DD [.d x, .d y] ρ = DD.nx ((ρ.set i (some (.d x))).set j (some (.d y))) := rfl
theorem dPar_e : dPar i j das DD ρ = das ρ (parK i j DD) := by unfold dPar; congr
def augK3 (i : Nat) (DD : DEnds) (ρ : Rho) (z : PyData) : Prop := DD.nx (ρ.set i (some (.d z)))
theorem augK3_a : augK3 i DD ρ z = DD.nx (ρ.set i (some (.d z))) := rfl
def augK2 (i : Nat) (dr : PyData → PyData → (PyData → Prop) → Prop) (x : PyData) (DD : DEnds) (ρ : Rho) (y : PyData) : Prop := dr x y (augK3 i DD ρ)
theorem augK2_a : augK2 i dr x DD ρ y = dr x y (augK3 i DD ρ) := rfl
def augK1 (i : Nat) (dr : PyData → PyData → (PyData → Prop) → Prop) (x : PyData) (DD : DEnds) (r : RV) (ρ : Rho) : Prop := dView r ρ (augK2 i dr x DD ρ)
theorem augK1_a : augK1 i dr x DD r ρ = dView r ρ (augK2 i dr x DD ρ) := rfl
def augK (i : Nat) (dr : PyData → PyData → (PyData → Prop) → Prop) (de : DE) (DD : DEnds) (ρ : Rho) : Option (Option DV) → Prop
  | some (some (.d x)) => de ρ (augK1 i dr x DD)
  | _ => False
theorem augK_a : augK i dr de DD ρ (some (some (.d x))) = de ρ (augK1 i dr x DD) := rfl
theorem dAug_e : dAug i dr de DD ρ = augK i dr de DD ρ ρ[i]? := by unfold dAug augK; split <;> simp_all <;> rfl
/-! loops, comprehensions, calls: by hand -/
def dLoop (xs : List PyData) (dg : DG) (db : DS) (DD : DEnds) (ρ1 : Rho) : Prop := ∃ Pv : Nat → Rho → Prop, Pv 0 ρ1 ∧
  (∀ i x ρ, xs[i]? = some x → Pv i ρ → dg x ρ fun ρ2 => db { DD with nx := Pv (i + 1), ct := Pv (i + 1), bk := DD.nx } ρ2) ∧ ∀ ρ, Pv xs.length ρ → DD.nx ρ
def forK (dg : DG) (db : DS) (DD : DEnds) (xs : List PyData) (ρ : Rho) : Prop := dLoop xs dg db DD ρ
theorem forK_a {db : DS} : forK dg db DD xs ρ = dLoop xs dg db DD ρ := rfl
theorem dFor_e {db : DS} : dFor di dg db DD ρ = di ρ (forK dg db DD) := rfl
def lcK (xs : List PyData) (vs : List Nat) (dg : DG) (dt : DT) (de : DE) (ρ1 : Rho) (Q : List PyData → Rho → Prop) : Prop := ∃ Iv : Nat → List PyData → Rho → Prop, Iv 0 [] ρ1 ∧
  (∀ i x acc ρ, xs[i]? = some x → Iv i acc ρ → dg x (wipeR ρ vs) fun ρ2 => dt ρ2 fun b ρ3 => cond b (de ρ3 fun r ρ4 => match r with
    | .d y => acc.length < sizeLine ∧ Iv (i + 1) (acc ++ [y]) (back ρ vs ρ4)
    | .ow _ => False) (Iv (i + 1) acc (back ρ vs ρ3))) ∧ ∀ acc ρ, Iv xs.length acc ρ → Q acc ρ
def lcK1 (vs : List Nat) (dg : DG) (dt : DT) (de : DE) (Q : List PyData → Rho → Prop) (xs : List PyData) (ρ : Rho) : Prop := lcK xs vs dg dt de ρ Q
theorem lcK1_a : lcK1 vs dg t de QF xs ρ = lcK xs vs dg t de ρ QF := rfl
theorem dLc_e : dLc di vs dg t de ρ QF = di ρ (lcK1 vs dg t de QF) := rfl
def aaK (c0 : Bool) (xs : List PyData) (vs : List Nat) (dg : DG) (dt : DT) (de : DE) (ρ1 : Rho) (Q : RV → Rho → Prop) : Prop := ∃ Iv : Nat → Rho → Prop, Iv 0 ρ1 ∧
  (∀ i x ρ, xs[i]? = some x → Iv i ρ → dg x (wipeR ρ vs) fun ρ2 => dt ρ2 fun b ρ3 => cond b (dB de ρ3 fun c ρ4 => cond (c == c0) (Iv (i + 1) (back ρ vs ρ4)) (Q (.d (.bool (!c0))) (back ρ vs ρ4))) (Iv (i + 1) (back ρ vs ρ3))) ∧
  ∀ ρ, Iv xs.length ρ → Q (.d (.bool c0)) ρ
def aaK1 (c0 : Bool) (vs : List Nat) (dg : DG) (dt : DT) (de : DE) (Q : RV → Rho → Prop) (xs : List PyData) (ρ : Rho) : Prop := aaK c0 xs vs dg dt de ρ Q
theorem aaK1_a {c0 : Bool} : aaK1 c0 vs dg t de Q xs ρ = aaK c0 xs vs dg t de ρ Q := rfl
theorem dAA_e {c0 : Bool} : dAA c0 di vs dg t de ρ Q = di ρ (aaK1 c0 vs dg t de Q) := rfl
def callK3 (Q : RV → Rho → Prop) (ρ : Rho) (is : List Nat) (x : PyData) (ss : List (List PyData)) : Prop := Q (.d x) (setSt ρ is ss)
theorem callK3_a {is : List Nat} {ss : List (List PyData)} : callK3 Q ρ is x ss = Q (.d x) (setSt ρ is ss) := rfl
def callK2 (S : DSp) (W : Addr → Prop) (as : List AV) (is : List Nat) (ρ : Rho) (Q : RV → Rho → Prop) : Prop := is.Nodup ∧ S as (callK3 Q ρ is) W
def callK1 (S : DSp) (W : Addr → Prop) (p : Option (List AV × List Nat)) (ρ : Rho) (Q : RV → Rho → Prop) : Prop := match p with
  | some (as, is) => callK2 S W as is ρ Q
  | none => False
theorem callK1_a {as : List AV} {is : List Nat} : callK1 S W (some (as, is)) ρ Q = callK2 S W as is ρ Q := rfl
def callK (S : DSp) (W : Addr → Prop) (Q : RV → Rho → Prop) (rs : List RV) (ρ : Rho) : Prop := callK1 S W (dArgs rs ρ) ρ Q
theorem callK_a : callK S W Q rs ρ = callK1 S W (dArgs rs ρ) ρ Q := rfl
theorem dCall_e : dCall S W das ρ Q = das ρ (callK S W Q) := by
  have : callK S W Q = fun rs ρ1 => match dArgs rs ρ1 with
    | some (as, is) => is.Nodup ∧ S as (fun x ss => Q (.d x) (setSt ρ1 is ss)) W
    | none => False := by
    funext rs ρ1
    unfold callK callK1
    cases dArgs rs ρ1 <;> rfl
  rw [this]
  rfl
theorem dArgs_n : dArgs [] ρ = some ([], []) := rfl
theorem dArgs_d : dArgs (.d x :: rs) ρ = (dArgs rs ρ).map fun p => (.d x :: p.1, p.2) := rfl
def argO (i : Nat) (q : Option (List AV × List Nat)) : Option (Option DV) → Option (List AV × List Nat)
  | some (some (.ow (.lst _ ds))) => q.map fun p => (.ow ds :: p.1, i :: p.2)
  | _ => none
theorem dArgs_o : dArgs (.ow i :: rs) ρ = argO i (dArgs rs ρ) ρ[i]? := by rw [dArgs]; unfold argO; split <;> simp_all
theorem argO_a {g : Option Nat} {q : Option (List AV × List Nat)} : argO i q (some (some (.ow (.lst g ds)))) = q.map fun p => (.ow ds :: p.1, i :: p.2) := rfl
theorem setSt_n {ss : List (List PyData)} : setSt ρ [] ss = ρ := by unfold setSt; rfl
def ivK2 (QI : List PyData → Rho → Prop) (ρ : Rho) : Option (List PyData) → Prop
  | some xs => QI xs ρ
  | none => False
theorem ivK2_a : ivK2 QI ρ (some xs) = QI xs ρ := rfl
def ivK (k : PyData → Option (List PyData)) (QI : List PyData → Rho → Prop) (r : RV) (ρ : Rho) : Prop := match r with
  | .d x => ivK2 QI ρ (k x)
  | .ow _ => False
theorem ivK_a {k : PyData → Option (List PyData)} : ivK k QI (.d x) ρ = ivK2 QI ρ (k x) := rfl
theorem diV_e {k : PyData → Option (List PyData)} : diV k de ρ QI = de ρ (ivK k QI) := by
  have : ivK k QI = fun r ρ1 => match r with
    | .d x => (match k x with
      | some xs => QI xs ρ1
      | none => False)
    | .ow _ => False := by
    funext r ρ1
    cases r with
    | d x => show ivK2 QI ρ1 (k x) = _; unfold ivK2; rfl
    | ow _ => rfl
  rw [this]; rfl
theorem asStr_a {z : Str} : asStr (.str z) = some (z.cps.toList.map sgn) := rfl
theorem asList_a : asList (.list xs) = some xs := rfl
theorem asTup_a : asTup (.tuple xs) = some xs := rfl
def rng1K (QI : List PyData → Rho → Prop) (rs : List RV) (ρ : Rho) : Prop := match dViews rs ρ with
  | some [.int j] => (-(2 ^ 62) ≤ j ∧ j < 2 ^ 62) ∧ QI (intsD 0 j.toNat) ρ
  | _ => False
theorem rng1K_a {j : Int} : rng1K QI [.d (.int j)] ρ = ((-(2 ^ 62) ≤ j ∧ j < 2 ^ 62) ∧ QI (intsD 0 j.toNat) ρ) := rfl
theorem diRng1_e : diRng1 das ρ QI = das ρ (rng1K QI) := by unfold diRng1; congr
def rng2K (QI : List PyData → Rho → Prop) (rs : List RV) (ρ : Rho) : Prop := match dViews rs ρ with
  | some [.int i, .int j] => (-(2 ^ 62) ≤ i ∧ i < 2 ^ 62 ∧ -(2 ^ 62) ≤ j ∧ j < 2 ^ 62) ∧ QI (intsD i (j - i).toNat) ρ
  | _ => False
theorem rng2K_a {i j : Int} : rng2K QI [.d (.int i), .d (.int j)] ρ = ((-(2 ^ 62) ≤ i ∧ i < 2 ^ 62 ∧ -(2 ^ 62) ≤ j ∧ j < 2 ^ 62) ∧ QI (intsD i (j - i).toNat) ρ) := rfl
theorem diRng2_e : diRng2 das ρ QI = das ρ (rng2K QI) := by unfold diRng2; congr
def zipK (QI : List PyData → Rho → Prop) (rs : List RV) (ρ : Rho) : Prop := match rs with
  | [.d (.tuple xs), .d (.tuple ys)] => QI (pairs2 xs ys) ρ
  | [.d (.list xs), .d (.list ys)] => QI (pairs2 xs ys) ρ
  | _ => False
theorem zipK_t : zipK QI [.d (.tuple xs), .d (.tuple ys)] ρ = QI (pairs2 xs ys) ρ := rfl
theorem zipK_l : zipK QI [.d (.list xs), .d (.list ys)] ρ = QI (pairs2 xs ys) ρ := rfl
theorem diZip_e : diZip das ρ QI = das ρ (zipK QI) := by unfold diZip; congr
/-! lists that are written -/
def appK1 (i : Nat) (Q : RV → Rho → Prop) (ρ : Rho) (x : PyData) : Option (Option DV) → Prop
  | some (some (.ow (.lst g ds))) => ds.length < sizeLine ∧ Q (.d .none) (ρ.set i (some (.ow (.lst g (ds ++ [x])))))
  | _ => False
theorem appK1_a {g : Option Nat} : appK1 i Q ρ x (some (some (.ow (.lst g ds)))) = (ds.length < sizeLine ∧ Q (.d .none) (ρ.set i (some (.ow (.lst g (ds ++ [x])))))) := rfl
def appK (i : Nat) (Q : RV → Rho → Prop) (r : RV) (ρ : Rho) : Prop := match r with
  | .d x => appK1 i Q ρ x ρ[i]?
  | .ow _ => False
theorem appK_a : appK i Q (.d x) ρ = appK1 i Q ρ x ρ[i]? := rfl
def isOw : Option (Option DV) → Bool
  | some (some (.ow (.lst _ _))) => true
  | _ => false
theorem isOw_a {g : Option Nat} : isOw (some (some (.ow (.lst g ds)))) = true := rfl
theorem dApp_e (h : isOw ρ[i]? = true) : dApp i de ρ Q = de ρ (appK i Q) := by
  have e : appK i Q = fun r ρ1 => (match r, ρ1[i]? with
    | .d x, some (some (.ow (.lst g ds))) => ds.length < sizeLine ∧ Q (.d .none) (ρ1.set i (some (.ow (.lst g (ds ++ [x])))))
    | _, _ => False) := by
    funext r ρ1
    cases r with
    | d x => rw [appK_a]; unfold appK1; split <;> simp_all
    | ow _ => rfl
  rw [e]
  unfold dApp
  unfold isOw at h
  split at h
  · rename_i e1; simp only [e1] <;> rfl
  · cases h
def popK1 (i : Nat) (g : Option Nat) (ds : List PyData) (Q : RV → Rho → Prop) (ρ : Rho) : Option PyData → Prop
  | some x => Q (.d x) (ρ.set i (some (.ow (.lst g ds.dropLast))))
  | none => False
theorem popK1_a {g : Option Nat} : popK1 i g ds Q ρ (some x) = Q (.d x) (ρ.set i (some (.ow (.lst g ds.dropLast)))) := rfl
def popK (i : Nat) (Q : RV → Rho → Prop) (ρ : Rho) : Option (Option DV) → Prop
  | some (some (.ow (.lst g ds))) => popK1 i g ds Q ρ ds[ds.length - 1]?
  | _ => False
theorem popK_a {g : Option Nat} : popK i Q ρ (some (some (.ow (.lst g ds)))) = popK1 i g ds Q ρ ds[ds.length - 1]? := rfl
theorem dPop_e : dPop i ρ Q = popK i Q ρ ρ[i]? := by
  unfold dPop
  generalize ρ[i]? = o
  match o with
  | none => rfl
  | some none => rfl
  | some (some (.d _)) => rfl
  | some (some (.ow (.lst g ds))) => rfl
def frK (e : DS) (i : Nat) (DD : DEnds) (ρ : Rho) : Option (Option DV) → Prop
  | some (some (.ow (.lst none ds))) => e DD (ρ.set i (some (.d (.list ds))))
  | _ => False
theorem frK_a : frK e i DD ρ (some (some (.ow (.lst none ds)))) = e DD (ρ.set i (some (.d (.list ds)))) := rfl
theorem dFreeze_e : dFreeze i e DD ρ = frK e i DD ρ ρ[i]? := by unfold dFreeze frK; split <;> simp_all
/-! ends -/
def endK1 (k : PyData → List (List PyData) → Prop) (r : RV) (ρ : Rho) : Option (List (List PyData)) → Prop
  | some ss => (match r with
    | .d x => k x ss
    | .ow i => (match ρ[i]? with
      | some (some (.ow (.lst none ds))) => k (.list ds) ss
      | _ => False))
  | none => False
theorem endK1_d {k : PyData → List (List PyData) → Prop} {ss : List (List PyData)} : endK1 k (.d x) ρ (some ss) = k x ss := rfl
def endO (k : PyData → List (List PyData) → Prop) (ss : List (List PyData)) : Option (Option DV) → Prop
  | some (some (.ow (.lst none ds))) => k (.list ds) ss
  | _ => False
theorem endO_a {k : PyData → List (List PyData) → Prop} {ss : List (List PyData)} : endO k ss (some (some (.ow (.lst none ds)))) = k (.list ds) ss := rfl
theorem endK1_o {k : PyData → List (List PyData) → Prop} {ss : List (List PyData)} : endK1 k (.ow i) ρ (some ss) = endO k ss ρ[i]? := by
  show (match ρ[i]? with
      | some (some (.ow (.lst none ds))) => k (.list ds) ss
      | _ => False) = _
  unfold endO
  split <;> simp_all
theorem dEnd_e {n : Nat} {k : PyData → List (List PyData) → Prop} : dEnd n k r ρ = endK1 k r ρ (outs ρ (List.range n)) := rfl
theorem outs_n : outs ρ [] = some [] := rfl
/-! ### operations at written data -/
theorem eqF_ss {a b : Str} : dEqF (.str a) (.str b) k = k (.bool (decide (a = b))) := by simp [dEqF, toV, scal]
theorem eqF_ii {a b : Int} : dEqF (.int a) (.int b) k = k (.bool (decide (a = b))) := by simp [dEqF, toV, scal]
theorem eqF_bb {a b : Bool} : dEqF (.bool a) (.bool b) k = k (.bool (decide (a = b))) := by simp [dEqF, toV, scal]
theorem eqF_ns {b : Str} : dEqF .none (.str b) k = k (.bool false) := by simp [dEqF, toV, scal]
theorem eqF_sn {b : Str} : dEqF (.str b) .none k = k (.bool false) := by simp [dEqF, toV, scal]
theorem neF_ss {a b : Str} : dNeF (.str a) (.str b) k = k (.bool (!decide (a = b))) := by simp [dNeF, toV, scal]
theorem neF_ii {a b : Int} : dNeF (.int a) (.int b) k = k (.bool (!decide (a = b))) := by simp [dNeF, toV, scal]
theorem neF_bb {a b : Bool} : dNeF (.bool a) (.bool b) k = k (.bool (!decide (a = b))) := by simp [dNeF, toV, scal]
theorem neF_ns {b : Str} : dNeF .none (.str b) k = k (.bool true) := by simp [dNeF, toV, scal]
theorem neF_sn {b : Str} : dNeF (.str b) .none k = k (.bool true) := by simp [dNeF, toV, scal]
theorem eqD_a : dEqD x y k = (SeqAt.shaped x = true ∧ SeqAt.shaped y = true ∧ k (.bool (PyData.eqv x y))) := rfl
theorem neD_a : dNeD x y k = (SeqAt.shaped x = true ∧ SeqAt.shaped y = true ∧ k (.bool (!PyData.eqv x y))) := rfl
theorem isN_a : dIsN x .none k = k (.bool (isNon x)) := rfl
theorem notN_a : dNotN x .none k = k (.bool (!isNon x)) := rfl
theorem isB_a {a b : Bool} : dIsB (.bool a) (.bool b) k = k (.bool (decide (a = b))) := rfl
theorem notB_a {a b : Bool} : dNotB (.bool a) (.bool b) k = k (.bool (!decide (a = b))) := rfl
theorem dI_a {f : Int → Int → PyData} {a b : Int} : dI f (.int a) (.int b) k = k (f a b) := rfl
theorem dIC_a {C : Int → Int → Prop} {f : Int → Int → PyData} {a b : Int} : dIC C f (.int a) (.int b) k = (C a b ∧ k (f a b)) := rfl
theorem inSgn_a {c : Nat} {b : Str} : dInSgn false (.str ⟨#[c]⟩) (.str b) k = k (.bool (decide (c ∈ b.cps.toList))) := rfl
theorem notInSgn_a {c : Nat} {b : Str} : dInSgn true (.str ⟨#[c]⟩) (.str b) k = k (.bool (!decide (c ∈ b.cps.toList))) := rfl
theorem addS_a {a b : Str} : dAddS (.str a) (.str b) k = (a.length + b.length ≤ sizeLine ∧ k (.str (a ++ b))) := rfl
theorem cat_a : dCat (.list xs) (.list ys) k = (xs.length + ys.length ≤ sizeLine ∧ k (.list (xs ++ ys))) := rfl
theorem catT_a : dCatT (.tuple xs) (.tuple ys) k = (xs.length + ys.length ≤ sizeLine ∧ k (.tuple (xs ++ ys))) := rfl
def ixK (k : PyData → Prop) : Option PyData → Prop
  | some x => k x
  | none => False
theorem ixK_a : ixK k (some x) = k x := rfl
theorem ix_l {i : Int} : dIx (.list xs) (.int i) k = ixK k (atI xs i) := rfl
theorem ix_t {i : Int} : dIx (.tuple xs) (.int i) k = ixK k (atI xs i) := rfl
theorem ix_s {z : Str} {i : Int} : dIx (.str z) (.int i) k = (z.length ≤ sizeLine ∧ ixK k ((atI z.cps.toList i).map sgn)) := by
  show (_ ∧ (match atI z.cps.toList i with
    | some c => k (sgn c)
    | none => False)) = _
  cases atI z.cps.toList i <;> rfl
theorem sl_l : dSlc (.list xs) lo hi k = k (.list (cutD xs lo hi)) := rfl
theorem sl_t : dSlc (.tuple xs) lo hi k = k (.tuple (cutD xs lo hi)) := rfl
theorem sl_s {z : Str} : dSlc (.str z) lo hi k = (z.length ≤ sizeLine ∧ k (.str (cutS z lo hi))) := rfl
theorem len_l : dLen [.list xs] k = k (.int (xs.length : Int)) := rfl
theorem len_t : dLen [.tuple xs] k = k (.int (xs.length : Int)) := rfl
theorem lenS_a {z : Str} : dLenS [.str z] k = (z.length ≤ sizeLine ∧ k (.int (z.length : Int))) := rfl
theorem int1_i {i : Int} : dInt1 [.int i] k = k (.int i) := rfl
theorem int1_b {b : Bool} : dInt1 [.bool b] k = k (.int (if b then 1 else 0)) := rfl
theorem abs_a {i : Int} : dAbs [.int i] k = k (.int (if i < 0 then -i else i)) := rfl
theorem strI_a {i : Int} : dStrI [.int i] k = (i.natAbs.log2 < 1920 ∧ k (.str (toString i))) := rfl
theorem intS_a {z : Str} : dIntS [.str z] k = (z.length ≤ 640 ∧ ∃ n, PySem.intText? z = some n ∧ k (.int n)) := rfl
theorem tupOf_l : dTupOf [.list xs] k = k (.tuple xs) := rfl
theorem tupOf_t : dTupOf [.tuple xs] k = k (.tuple xs) := rfl
theorem listOf_l : dListOf [.list xs] k = k (.list xs) := rfl
theorem listOf_t : dListOf [.tuple xs] k = k (.list xs) := rfl
theorem neg_a {i : Int} : dNeg (.int i) k = k (.int (-i)) := rfl
theorem isNon_n : isNon .none = true := rfl
theorem isNon_t : isNon (.tuple ds) = false := rfl
theorem isNon_l : isNon (.list ds) = false := rfl
theorem isNon_s {z : Str} : isNon (.str z) = false := rfl
theorem isNon_i {i : Int} : isNon (.int i) = false := rfl
theorem isNon_b {b : Bool} : isNon (.bool b) = false := rfl
end
end DL

set_option Elab.async false
set_option linter.all false
set_option maxRecDepth 100000
set_option maxHeartbeats 4000000
namespace DL
open PySem PySem.Spec PyProof.Rows L2
/-! ### dicts as data -/
def toKey : PyData → Option Key
  | .int i => some (.inl i)
  | .str x => some (.inr x)
  | _ => none
theorem toKey_keyD (k : Key) : toKey (keyD k) = some k := by cases k <;> rfl
def lookD (ds : List (PyData × PyData)) (k : Key) : Option PyData := (ds.find? fun p => decide (toKey p.1 = some k)).map (·.2)
def putD (ds : List (PyData × PyData)) (k : Key) (y : PyData) : List (PyData × PyData) :=
  if (ds.any fun p => decide (toKey p.1 = some k)) = true then ds.map fun p => if toKey p.1 = some k then (p.1, y) else p else ds ++ [(keyD k, y)]
section
variable {K : PySem.W.Frag} {H H' : Hp} {O O' M : List Addr}
theorem DvKV.add {b : Addr} {vs : List (Key × V)} {ds : List (PyData × PyData)} (h : DvKV K H O vs ds) (n : H b = none) : DvKV K H (b :: O) vs ds := DvKV.go (fun _ _ z => z.add n) (fun _ _ z => z.add n) (fun _ _ z => z.add n) h
theorem DvKV.sub {vs : List (Key × V)} {ds : List (PyData × PyData)} (h : DvKV K H O vs ds) (s : ∀ x ∈ O', x ∈ O) : DvKV K H O' vs ds := DvKV.go (fun _ _ z => z.sub s) (fun _ _ z => z.sub s) (fun _ _ z => z.sub s) h
theorem DvKV.length : ∀ {vs : List (Key × V)} {ds : List (PyData × PyData)}, DvKV K H O vs ds → vs.length = ds.length
  | _, _, .nil => rfl
  | _, _, .cons _ t => congrArg Nat.succ (DvKV.length t)
/-- both find, or none does -/
def OptR (K : PySem.W.Frag) (H : Hp) (O : List Addr) : Option V → Option PyData → Prop
  | some v, some d => Dv K H O v d
  | none, none => True
  | _, _ => False
theorem DvKV.look (k : Key) : ∀ {vs : List (Key × V)} {ds : List (PyData × PyData)}, DvKV K H O vs ds → OptR K H O (valV vs k) (lookD ds k)
  | _, _, .nil => True.intro
  | _, _, .cons (k := k0) h t => by
    by_cases e : k0 = k
    · subst e
      rw [valV_pos rfl]
      unfold lookD
      rw [List.find?_cons, toKey_keyD, decide_eq_true rfl]
      exact h
    · rw [valV_neg e]
      have := DvKV.look k t
      unfold lookD at this ⊢
      rw [List.find?_cons, toKey_keyD, decide_eq_false fun z => e (Option.some.inj z)]
      exact this
theorem OptR.getD {o : Option V} {od : Option PyData} {v : V} {d : PyData} (h : OptR K H O o od) (g : Dv K H O v d) : Dv K H O (o.getD v) (od.getD d) := by
  cases o <;> cases od <;> first | exact h.elim | exact g | exact h
theorem DvKV.any (k : Key) : ∀ {vs : List (Key × V)} {ds : List (PyData × PyData)}, DvKV K H O vs ds → (vs.any fun p => decide (p.1 = k)) = ds.any fun p => decide (toKey p.1 = some k)
  | _, _, .nil => rfl
  | _, _, .cons (k := k0) h t => by
    rw [List.any_cons, List.any_cons, DvKV.any k t, toKey_keyD]
    congr 1
    exact decide_eq_decide.mpr ⟨fun e => by rw [show k0 = k from e], fun e => Option.some.inj e⟩
theorem DvKV.repl (k : Key) {v : V} {d : PyData} (g : Dv K H O v d) : ∀ {vs : List (Key × V)} {ds : List (PyData × PyData)}, DvKV K H O vs ds → DvKV K H O (vs.map fun p => if p.1 = k then (p.1, v) else p) (ds.map fun p => if toKey p.1 = some k then (p.1, d) else p)
  | _, _, .nil => .nil
  | _, _, .cons (k := k0) h t => by
    rw [List.map_cons, List.map_cons, toKey_keyD]
    by_cases e : k0 = k
    · rw [if_pos e, if_pos (by rw [e])]
      exact .cons g (DvKV.repl k g t)
    · rw [if_neg e, if_neg fun z => e (Option.some.inj z)]
      exact .cons h (DvKV.repl k g t)
theorem DvKV.append : ∀ {vs ws : List (Key × V)} {ds es : List (PyData × PyData)}, DvKV K H O vs ds → DvKV K H O ws es → DvKV K H O (vs ++ ws) (ds ++ es)
  | _, _, _, _, .nil, h => h
  | _, _, _, _, .cons h t, g => .cons h (DvKV.append t g)
theorem DvKV.put {vs : List (Key × V)} {ds : List (PyData × PyData)} (h : DvKV K H O vs ds) (k : Key) {v : V} {d : PyData} (g : Dv K H O v d) : DvKV K H O (putK vs k v) (putD ds k d) := by
  unfold putK putD
  rw [← h.any k]
  split
  · exact h.repl k g
  · exact h.append (.cons g .nil)
theorem Dv.key {v : V} {k : Key} (h : Dv K H O v (keyD k)) : v = kV k := by
  cases k with
  | inl i => cases h; rfl
  | inr x => cases h; rfl
end
section
variable {C : Fc} {O : List Addr} {Z : Zp} {ρ : Rho} {σ : L2.St} {H H' : Hp} {p : Addr}
theorem Rl.guard_any {o : HO} (R : Rl C O Z ρ σ H) (hp : H p = none) : Rl C O (Z.guard p) ρ σ (upd H p o) ∧ C.H0 p = none ∧ p ∉ C.av Z O := by
  have n : p ∉ C.av Z O := fun m => R.alN p m hp
  have k : Kp H (upd H p o) [] := Kp.new hp
  have h0 : C.H0 p = none := R.fr.free hp fun m => n (List.mem_append_left _ (R.sub p m))
  refine ⟨⟨R.fr.then k, R.own, R.sub, fun P h => k.tabG (R.tb P h), fun a m => ?_, fun a h z => R.alB a h (k.free z (by simp)), R.len, fun i dv e => ?_, fun a m => ?_, fun a m => ?_, fun q m => (((R.zz q m).add hp).sub guard_cons).kp0 k, R.ds⟩, h0, n⟩
  · obtain ⟨o, e, t⟩ := R.al a m
    exact ⟨o, k.keep a o e t (by simp), t⟩
  · obtain ⟨v, e1, h⟩ := R.sl i dv e
    exact ⟨v, e1, (h.guard hp).kp0 k⟩
  · rcases List.mem_cons.mp m with rfl | m
    · rw [upd_same]
      exact fun z => nomatch z
    · exact fun z => R.gA a m (k.free z (by simp))
  · rcases List.mem_cons.mp m with rfl | m
    · exact fun z => n (List.mem_append_left _ z)
    · exact R.gO a m
theorem gd_av (h : p ∈ Z.gd) : p ∈ C.av Z O := List.mem_append_right _ (List.mem_append_left _ h)
/-- a guarded place is written -/
theorem Rl.kpG (R : Rl C O Z ρ σ H) (k : Kp H H' [p]) (hp : p ∈ Z.gd) (h0 : C.H0 p = none) (e : H' p ≠ none) : Rl C O Z ρ σ H' := by
  have sv : ∀ x ∈ [p], x ∈ C.av Z O := fun x m => by rw [List.mem_singleton.mp m]; exact gd_av hp
  have pO : p ∉ O := R.gO p hp
  have has : ∀ a, H a ≠ none → H' a ≠ none := fun a h z => by
    by_cases ea : a = p
    · rw [ea] at z; exact e z
    · exact h (k.free z fun m => ea (List.mem_singleton.mp m))
  refine ⟨R.fr.trans k (fun _ h => h) fun x m => .inr (by rw [List.mem_singleton.mp m]; exact h0), R.own, R.sub, fun P h => k.tabG (R.tb P h), fun a m => ?_, fun a h => has a (R.alB a h), R.len, fun i dv e => ?_, fun a m => has a (R.gA a m), R.gO, fun q m => (R.zz q m).kp k sv, R.ds⟩
  · obtain ⟨o, e1, t⟩ := R.al a m
    exact ⟨o, k.keep a o e1 t fun z => pO (by rw [← List.mem_singleton.mp z]; exact m), t⟩
  · obtain ⟨v, e1, h⟩ := R.sl i dv e
    refine ⟨v, e1, ?_⟩
    cases dv with
    | d x => exact Dv.kp h k sv
    | ow s =>
      obtain ⟨a, e2, m, g⟩ := h
      exact ⟨a, e2, m, g.kp k (fun z => pO (by rw [← List.mem_singleton.mp z]; exact m)) sv⟩
end
/-! {**d, k: v} -/
def dStar (dd dk dv : DE) : DE := fun ρ Q => dd ρ fun r ρ1 => match r with
  | .d (.dict ds) => ds.length < sizeLine ∧ dk ρ1 fun rk ρ2 => dv ρ2 fun ry ρ3 => (match rk, ry with
    | .d ky, .d y => ∃ k0, ky = keyD k0 ∧ Q (.d (.dict (putD ds k0 y))) ρ3
    | _, _ => False)
  | _ => False
section
variable {X : Cx} {C : Fc} {td tk tv : TE} {dd dk dv : DE}
theorem re_star (hd : RE C td dd) (hk : RE C tk dk) (hv : RE C tv dv) : RE C (GW.tStar td tk tv) (dStar dd dk dv) := by
  refine ⟨fun O Z ρ σ H Q k R h q p hp => ?_⟩
  obtain ⟨Rp, h0, np⟩ := R.guard_any (o := .dK []) hp
  refine hd.run O (Z.guard p) ρ σ _ _ _ Rp h fun r ρ1 x H1 h1 g1 rx => ?_
  have np2 : p ∈ C.av (Z.guard p) O := gd_av (List.mem_cons_self ..)
  have pO : p ∉ O := fun m => np (List.mem_append_left _ m)
  have ep1 : H1 p = some (.dK []) := g1.kp.keep p _ upd_same (fun _ e => nomatch e) pO
  split at h1
  · rename_i ds
    cases rx with
    | @dct a xs _ hc hkv =>
    have nap : a ≠ p := fun e => hc.1 (by rw [e]; exact np2)
    refine ⟨a, xs, rfl, nap, .inl hc.2, by rw [hkv.length]; exact h1.1, ep1, fun q0 hq => ?_⟩
    have k1 : Kp H1 (upd H1 p (.dK xs)) [p] := Kp.wr ep1 fun _ e => nomatch e
    have R2 := g1.rl.kpG k1 (List.mem_cons_self ..) h0 (by rw [upd_same]; exact fun e => nomatch e)
    have hkv2 := hkv.kp k1 fun x m => by rw [List.mem_singleton.mp m]; exact np2
    have ep2 : (upd H1 p (.dK xs)) p = some (.dK xs) := upd_same
    generalize upd H1 p (.dK xs) = H2 at hq k1 R2 hkv2 ep2 ⊢
    have npq : p ≠ q0 := fun e => by rw [← e, ep2] at hq; cases hq
    obtain ⟨R3, h0q, nq⟩ := R2.guard_any (o := .dK []) hq
    have qO : q0 ∉ O := fun m => nq (List.mem_append_left _ m)
    have hkv3 := ((hkv2.add hq).sub guard_cons).kp0 (Kp.new (o := .dK []) hq)
    have kq : Kp H2 (upd H2 q0 (.dK [])) [] := Kp.new hq
    have eq3 : (upd H2 q0 (.dK [])) q0 = some (.dK []) := upd_same
    have ep3 := kq.keep p _ ep2 (fun _ e => nomatch e) (by simp)
    generalize upd H2 q0 (.dK []) = H3 at R3 hkv3 kq eq3 ep3 ⊢
    refine hk.run O _ ρ1 σ H3 _ _ R3 h1.2 fun rk ρ2 ky H4 h4 g4 rky => ?_
    refine hv.run O _ ρ2 σ H4 _ _ g4.rl h4 fun ry ρ3 y H5 h5 g5 rY => ?_
    split at h5
    · rename_i kyd yd
      obtain ⟨k0, ek, h5⟩ := h5
      subst ek
      have e1 : ky = kV k0 := Dv.key rky
      have g45 := g4.trans g5
      have eq5 := g45.kp.keep q0 _ eq3 (fun _ e => nomatch e) qO
      have ep5 := g45.kp.keep p _ ep3 (fun _ e => nomatch e) pO
      refine ⟨k0, e1, eq5, ep5, ?_⟩
      have hkv5 := hkv3.kp g45.kp fun x m => List.mem_append_left _ m
      have k6 : Kp H5 (upd H5 q0 (.dK [(k0, y)])) [q0] := Kp.wr eq5 fun _ e => nomatch e
      have qav : q0 ∈ C.av ((Z.guard p).guard q0) O := gd_av (List.mem_cons_self ..)
      have pav : p ∈ C.av ((Z.guard p).guard q0) O := gd_av (List.mem_cons_of_mem _ (List.mem_cons_self ..))
      have R6 := g45.rl.kpG k6 (List.mem_cons_self ..) h0q (by rw [upd_same]; exact fun e => nomatch e)
      have hkv6 := hkv5.kp k6 fun x m => by rw [List.mem_singleton.mp m]; exact qav
      have rY6 := Dv.kp (show Dv _ _ _ _ _ from rY) k6 fun x m => by rw [List.mem_singleton.mp m]; exact qav
      have ep6 : (upd H5 q0 (.dK [(k0, y)])) p = some (.dK xs) := by rw [upd_ne npq]; exact ep5
      generalize upd H5 q0 (.dK [(k0, y)]) = H6 at k6 R6 hkv6 rY6 ep6 ⊢
      have k7 : Kp H6 (upd H6 p (.dK (putK xs k0 y))) [p] := Kp.wr ep6 fun _ e => nomatch e
      have R7 := R6.kpG k7 (List.mem_cons_of_mem _ (List.mem_cons_self ..)) h0 (by rw [upd_same]; exact fun e => nomatch e)
      have hkv7 := hkv6.kp k7 fun x m => by rw [List.mem_singleton.mp m]; exact pav
      have rY7 := rY6.kp k7 fun x m => by rw [List.mem_singleton.mp m]; exact pav
      have ep7 : (upd H6 p (.dK (putK xs k0 y))) p = some (.dK (putK xs k0 y)) := upd_same
      generalize upd H6 p (.dK (putK xs k0 y)) = H7 at k7 R7 hkv7 rY7 ep7 ⊢
      have sb : ∀ x ∈ C.av Z O, x ∈ C.av ((Z.guard p).guard q0) O := fun x m => guard_sub x (guard_sub x m)
      have hqH : H q0 = none := by
        have a1 : H1 q0 = none := k1.free hq fun m => npq (List.mem_singleton.mp m).symm
        have a2 := g1.kp.free a1 qO
        rw [upd_ne (Ne.symm npq)] at a2
        exact a2
      have kp : Kp H H7 O := (((((Kp.new (o := .dK []) hp).up0 (L := O)).both g1.kp).trans k1 (fun _ h => h) fun x m => .inr (by rw [List.mem_singleton.mp m]; exact hp)).then kq).both g45.kp
        |>.trans k6 (fun _ h => h) (fun x m => .inr (by rw [List.mem_singleton.mp m]; exact hqH)) |>.trans k7 (fun _ h => h) (fun x m => .inr (by rw [List.mem_singleton.mp m]; exact hp))
      exact q _ _ _ _ h5 ⟨(g1.sh.trans g4.sh).trans g5.sh, R7.unguard.unguard, kp⟩ (Dv.dct ⟨np, ep7⟩ ((hkv7.sub sb).put k0 (rY7.sub sb)))
    · exact h5.elim
  · exact h1.elim
theorem pd_star {d k v : Expr} {pos : Pos} (hd : PD X C d td dd) (hk : PD X C k tk dk) (hv : PD X C v tv dv) : PD X C (.Dict [none, some k] [d, v] pos) (GW.tStar td tk tv) (dStar dd dk dv) := ⟨GW.pe_dstar hd.pe hk.pe hv.pe, re_star hd.re hk.re hv.re⟩
/-! d.get(k, x), {}, d[k], k in d -/
def dGet2 (dd dk dx : DE) : DE := fun ρ Q => dd ρ fun r ρ1 => match r with
  | .d (.dict ds) => dk ρ1 fun rk ρ2 => dx ρ2 fun rx ρ3 => (match rk, rx with
    | .d ky, .d z => ∃ k0, ky = keyD k0 ∧ Q (.d ((lookD ds k0).getD z)) ρ3
    | _, _ => False)
  | _ => False
theorem Dv.dict {H : Hp} {O : List Addr} {v : V} {ds : List (PyData × PyData)} (h : Dv C.K H O v (.dict ds)) : ∃ a xs, v = .ref a ∧ H a = some (.dK xs) ∧ DvKV C.K H O xs ds := by
  cases h with
  | dct h g => exact ⟨_, _, rfl, h.2, g⟩
theorem re_get2 {tx : TE} {dx : DE} (hd : RE C td dd) (hk : RE C tk dk) (hx : RE C tx dx) : RE C (tDGet2 td tk tx) (dGet2 dd dk dx) := by
  refine ⟨fun O Z ρ σ H Q k R h q => ?_⟩
  refine hd.run O Z ρ σ H _ _ R h fun r ρ1 x H1 h1 g1 rx => ?_
  split at h1
  · rename_i ds
    obtain ⟨a, xs, rfl, ea, _⟩ := Dv.dict (C := C) (show Dv _ _ _ _ _ from rx)
    refine ⟨a, rfl, .inl ⟨xs, .inl ea⟩, ?_⟩
    refine hk.run O Z ρ1 σ H1 _ _ g1.rl h1 fun rk ρ2 ky H2 h2 g2 rky => ?_
    refine hx.run O Z ρ2 σ H2 _ _ g2.rl h2 fun rz ρ3 z H3 h3 g3 rz' => ?_
    split at h3
    · obtain ⟨k0, ek, h3⟩ := h3
      subst ek
      have e1 : ky = kV k0 := Dv.key rky
      subst e1
      obtain ⟨b, ys, eb, eb2, hkv⟩ := Dv.dict (C := C) (Dv.kp (Dv.kp (show Dv _ _ _ _ _ from rx) g2.kp fun x m => List.mem_append_left _ m) g3.kp fun x m => List.mem_append_left _ m)
      cases eb
      exact ⟨_, DGet.k eb2, q _ _ _ _ h3 ((g1.trans g2).trans g3) ((hkv.look k0).getD rz')⟩
    · exact h3.elim
  · exact h1.elim
theorem pd_get2 {o e f : Expr} {apos cpos : Pos} {tx : TE} {dx : DE} (hu : X.A.units + 1 < cLine) (ho : PD X C o td dd) (he : PD X C e tk dk) (hf : PD X C f tx dx) (m : M2 X o "get" apos e f cpos) : PD X C (.Call (.Attribute o "get" apos) [e, f] [] cpos) (tDGet2 td tk tx) (dGet2 dd dk dx) :=
  ⟨pe_dget2 hu ho.pe he.pe hf.pe m, re_get2 ho.re he.re hf.re⟩
def dGet1 (dd dk : DE) : DE := fun ρ Q => dd ρ fun r ρ1 => match r with
  | .d (.dict ds) => dk ρ1 fun rk ρ2 => (match rk with
    | .d ky => ∃ k0, ky = keyD k0 ∧ Q (.d ((lookD ds k0).getD .none)) ρ2
    | _ => False)
  | _ => False
theorem re_get1 (hd : RE C td dd) (hk : RE C tk dk) : RE C (tDGet1 td tk) (dGet1 dd dk) := by
  refine ⟨fun O Z ρ σ H Q k R h q => ?_⟩
  refine hd.run O Z ρ σ H _ _ R h fun r ρ1 x H1 h1 g1 rx => ?_
  split at h1
  · rename_i ds
    obtain ⟨a, xs, rfl, ea, _⟩ := Dv.dict (C := C) (show Dv _ _ _ _ _ from rx)
    refine ⟨a, rfl, .inl ⟨xs, .inl ea⟩, ?_⟩
    refine hk.run O Z ρ1 σ H1 _ _ g1.rl h1 fun rk ρ2 ky H2 h2 g2 rky => ?_
    split at h2
    · obtain ⟨k0, ek, h2⟩ := h2
      subst ek
      have e1 : ky = kV k0 := Dv.key rky
      subst e1
      obtain ⟨b, ys, eb, eb2, hkv⟩ := Dv.dict (C := C) (Dv.kp (show Dv _ _ _ _ _ from rx) g2.kp fun x m => List.mem_append_left _ m)
      cases eb
      exact ⟨_, DGet.k eb2, q _ _ _ _ h2 (g1.trans g2) ((hkv.look k0).getD .non)⟩
    · exact h2.elim
  · exact h1.elim
theorem pd_get1 {o e : Expr} {apos cpos : Pos} (hu : X.A.units + 1 < cLine) (ho : PD X C o td dd) (he : PD X C e tk dk) (m : M1 X o "get" apos e cpos) : PD X C (.Call (.Attribute o "get" apos) [e] [] cpos) (tDGet1 td tk) (dGet1 dd dk) :=
  ⟨pe_dget1 hu ho.pe he.pe m, re_get1 ho.re he.re⟩
theorem pd_dnew {pos : Pos} : PD X C (.Dict [] [] pos) tDNewK (dK (.dict [])) := by
  refine ⟨pe_dnewK, ⟨fun O Z ρ σ H Q k R h q p hp => ?_⟩⟩
  exact q _ _ _ _ h ((Go.refl R).new (Kp.new hp)) (Dv.dct ⟨fun m => R.alN p m hp, upd_same⟩ .nil)
/-- d[k] -/
def dDIx (dd dk : DE) : DE := fun ρ Q => dd ρ fun r ρ1 => dk ρ1 fun rk ρ2 => match r, rk with
  | .d (.dict ds), .d ky => ∃ k0 y, ky = keyD k0 ∧ lookD ds k0 = some y ∧ Q (.d y) ρ2
  | _, _ => False
theorem re_dix (hd : RE C td dd) (hk : RE C tk dk) : RE C (tDGet td tk) (dDIx dd dk) := by
  refine ⟨fun O Z ρ σ H Q k R h q => ?_⟩
  refine hd.run O Z ρ σ H _ _ R h fun r ρ1 x H1 h1 g1 rx => ?_
  refine hk.run O Z ρ1 σ H1 _ _ g1.rl h1 fun rk ρ2 ky H2 h2 g2 rky => ?_
  split at h2
  · obtain ⟨k0, y, ek, el, h2⟩ := h2
    subst ek
    have e1 : ky = kV k0 := Dv.key rky
    subst e1
    obtain ⟨b, ys, eb, eb2, hkv⟩ := Dv.dict (C := C) (Dv.kp (show Dv _ _ _ _ _ from rx) g2.kp fun x m => List.mem_append_left _ m)
    have := hkv.look k0
    rw [el] at this
    cases ev : valV ys k0 with
    | none => rw [ev] at this; exact this.elim
    | some v =>
      rw [ev] at this
      exact ⟨b, v, eb, by rw [← ev]; exact DGet.k eb2, q _ _ _ _ h2 (g1.trans g2) this⟩
  · exact h2.elim
theorem pd_dix {o i : Expr} {pos : Pos} (hu : X.A.units + 1 < cLine) (ho : PD X C o td dd) (hi : PD X C i tk dk) (hs : NoSl i) : PD X C (.Subscript o i pos) (tDGet td tk) (dDIx dd dk) := ⟨pe_dget hu ho.pe hi.pe hs, re_dix ho.re hi.re⟩
/-- k in d -/
def dDIn (neg : Bool) (dk dd : DE) : DE := fun ρ Q => dk ρ fun rk ρ1 => dd ρ1 fun r ρ2 => match rk, r with
  | .d ky, .d (.dict ds) => ∃ k0, ky = keyD k0 ∧ Q (.d (.bool (if neg = true then !(lookD ds k0).isSome else (lookD ds k0).isSome))) ρ2
  | _, _ => False
theorem OptR.isSome {H : Hp} {O : List Addr} {o : Option V} {od : Option PyData} (h : OptR C.K H O o od) : o.isSome = od.isSome := by
  cases o <;> cases od <;> first | exact h.elim | rfl
theorem re_din (hk : RE C tk dk) (hd : RE C td dd) : RE C (tDIn tk td) (dDIn false dk dd) := by
  refine ⟨fun O Z ρ σ H Q k R h q => ?_⟩
  refine hk.run O Z ρ σ H _ _ R h fun rk ρ1 ky H1 h1 g1 rky => ?_
  refine hd.run O Z ρ1 σ H1 _ _ g1.rl h1 fun r ρ2 x H2 h2 g2 rx => ?_
  split at h2
  · obtain ⟨k0, ek, h2⟩ := h2
    subst ek
    have e1 : ky = kV k0 := Dv.key rky
    subst e1
    obtain ⟨b, ys, eb, eb2, hkv⟩ := Dv.dict (C := C) (show Dv _ _ _ _ _ from rx)
    refine ⟨b, _, eb, DGet.k eb2, ?_⟩
    rw [(hkv.look k0).isSome]
    exact q _ _ _ _ h2 (g1.trans g2) (.bl _)
  · exact h2.elim
theorem re_dnotin (hk : RE C tk dk) (hd : RE C td dd) : RE C (tDNotIn tk td) (dDIn true dk dd) := by
  refine ⟨fun O Z ρ σ H Q k R h q => ?_⟩
  refine hk.run O Z ρ σ H _ _ R h fun rk ρ1 ky H1 h1 g1 rky => ?_
  refine hd.run O Z ρ1 σ H1 _ _ g1.rl h1 fun r ρ2 x H2 h2 g2 rx => ?_
  split at h2
  · obtain ⟨k0, ek, h2⟩ := h2
    subst ek
    have e1 : ky = kV k0 := Dv.key rky
    subst e1
    obtain ⟨b, ys, eb, eb2, hkv⟩ := Dv.dict (C := C) (show Dv _ _ _ _ _ from rx)
    refine ⟨b, _, eb, DGet.k eb2, ?_⟩
    rw [(hkv.look k0).isSome]
    exact q _ _ _ _ h2 (g1.trans g2) (.bl _)
  · exact h2.elim
end
end DL

set_option Elab.async false
set_option linter.all false
set_option maxRecDepth 100000
set_option maxHeartbeats 4000000
namespace DL
open PySem PySem.Spec PyProof.Rows L2
/-! ### the evaluator: dicts -/
section
variable {ρ : Rho} {Q : RV → Rho → Prop} {dd dk dv dx : DE} {ds : List (PyData × PyData)} {y z : PyData} {r rk : RV} {x : Str} {i : Int}
theorem keyD_s {p : Key → Prop} : (∃ k0, PyData.str x = keyD k0 ∧ p k0) = p (.inr x) := propext ⟨fun ⟨k0, e, h⟩ => by
  cases k0 with
  | inl i => cases e
  | inr y => cases e; exact h, fun h => ⟨.inr x, rfl, h⟩⟩
theorem keyD_i {p : Key → Prop} : (∃ k0, PyData.int i = keyD k0 ∧ p k0) = p (.inl i) := propext ⟨fun ⟨k0, e, h⟩ => by
  cases k0 with
  | inr i => cases e
  | inl y => cases e; exact h, fun h => ⟨.inl i, rfl, h⟩⟩
def starK3 (ds : List (PyData × PyData)) (Q : RV → Rho → Prop) (rk : RV) (ry : RV) (ρ : Rho) : Prop := match rk, ry with
  | .d ky, .d y => ∃ k0, ky = keyD k0 ∧ Q (.d (.dict (putD ds k0 y))) ρ
  | _, _ => False
theorem starK3_s : starK3 ds Q (.d (.str x)) (.d y) ρ = Q (.d (.dict (putD ds (.inr x) y))) ρ := keyD_s
theorem starK3_i : starK3 ds Q (.d (.int i)) (.d y) ρ = Q (.d (.dict (putD ds (.inl i) y))) ρ := keyD_i
def starK2 (ds : List (PyData × PyData)) (dv : DE) (Q : RV → Rho → Prop) (rk : RV) (ρ : Rho) : Prop := dv ρ (starK3 ds Q rk)
theorem starK2_a : starK2 ds dv Q rk ρ = dv ρ (starK3 ds Q rk) := rfl
def starK1 (dk dv : DE) (Q : RV → Rho → Prop) (r : RV) (ρ : Rho) : Prop := match r with
  | .d (.dict ds) => ds.length < sizeLine ∧ dk ρ (starK2 ds dv Q)
  | _ => False
theorem starK1_a : starK1 dk dv Q (.d (.dict ds)) ρ = (ds.length < sizeLine ∧ dk ρ (starK2 ds dv Q)) := rfl
theorem starK3_e : starK3 ds Q = fun rk ry ρ3 => (match rk, ry with
    | .d ky, .d y => ∃ k0, ky = keyD k0 ∧ Q (.d (.dict (putD ds k0 y))) ρ3
    | _, _ => False) := by
  funext rk ry ρ3
  unfold starK3
  rfl
theorem starK2_e : starK2 ds dv Q = fun rk ρ2 => dv ρ2 fun ry ρ3 => (match rk, ry with
    | .d ky, .d y => ∃ k0, ky = keyD k0 ∧ Q (.d (.dict (putD ds k0 y))) ρ3
    | _, _ => False) := by
  funext rk ρ2
  show dv ρ2 (starK3 ds Q rk) = _
  rw [starK3_e]
theorem dStar_e : dStar dd dk dv ρ Q = dd ρ (starK1 dk dv Q) := by
  have : starK1 dk dv Q = fun r ρ1 => match r with
    | .d (.dict ds) => ds.length < sizeLine ∧ dk ρ1 fun rk ρ2 => dv ρ2 fun ry ρ3 => (match rk, ry with
      | .d ky, .d y => ∃ k0, ky = keyD k0 ∧ Q (.d (.dict (putD ds k0 y))) ρ3
      | _, _ => False)
    | _ => False := by
    funext r ρ1
    unfold starK1
    split
    · rw [starK2_e]
    · rfl
  rw [this]
  rfl
def getK3 (ds : List (PyData × PyData)) (Q : RV → Rho → Prop) (rk : RV) (rx : RV) (ρ : Rho) : Prop := match rk, rx with
  | .d ky, .d z => ∃ k0, ky = keyD k0 ∧ Q (.d ((lookD ds k0).getD z)) ρ
  | _, _ => False
theorem getK3_s : getK3 ds Q (.d (.str x)) (.d y) ρ = Q (.d ((lookD ds (.inr x)).getD y)) ρ := keyD_s (p := fun k0 => Q (.d ((lookD ds k0).getD y)) ρ)
theorem getK3_i : getK3 ds Q (.d (.int i)) (.d y) ρ = Q (.d ((lookD ds (.inl i)).getD y)) ρ := keyD_i (p := fun k0 => Q (.d ((lookD ds k0).getD y)) ρ)
def getK2 (ds : List (PyData × PyData)) (dx : DE) (Q : RV → Rho → Prop) (rk : RV) (ρ : Rho) : Prop := dx ρ (getK3 ds Q rk)
theorem getK2_a : getK2 ds dx Q rk ρ = dx ρ (getK3 ds Q rk) := rfl
def getK1 (dk dx : DE) (Q : RV → Rho → Prop) (r : RV) (ρ : Rho) : Prop := match r with
  | .d (.dict ds) => dk ρ (getK2 ds dx Q)
  | _ => False
theorem getK1_a : getK1 dk dx Q (.d (.dict ds)) ρ = dk ρ (getK2 ds dx Q) := rfl
theorem getK3_e : getK3 ds Q = fun rk rx ρ3 => (match rk, rx with
    | .d ky, .d z => ∃ k0, ky = keyD k0 ∧ Q (.d ((lookD ds k0).getD z)) ρ3
    | _, _ => False) := by
  funext rk ry ρ3
  unfold getK3
  rfl
theorem getK2_e : getK2 ds dx Q = fun rk ρ2 => dx ρ2 fun rx ρ3 => (match rk, rx with
    | .d ky, .d z => ∃ k0, ky = keyD k0 ∧ Q (.d ((lookD ds k0).getD z)) ρ3
    | _, _ => False) := by
  funext rk ρ2
  show dx ρ2 (getK3 ds Q rk) = _
  rw [getK3_e]
theorem dGet2_e : dGet2 dd dk dx ρ Q = dd ρ (getK1 dk dx Q) := by
  have : getK1 dk dx Q = fun r ρ1 => match r with
    | .d (.dict ds) => dk ρ1 fun rk ρ2 => dx ρ2 fun rx ρ3 => (match rk, rx with
      | .d ky, .d z => ∃ k0, ky = keyD k0 ∧ Q (.d ((lookD ds k0).getD z)) ρ3
      | _, _ => False)
    | _ => False := by
    funext r ρ1
    unfold getK1
    split
    · rw [getK2_e]
    · rfl
  rw [this]
  rfl
end
end DL

set_option Elab.async false
set_option linter.all false
set_option maxRecDepth 100000
set_option maxHeartbeats 4000000
namespace DL
open PySem PySem.Spec PyProof.Rows L2
/-! ### methods of texts -/
def MsD (K : PySem.W.Frag) (r : V → List V → Hp → VK → Prop) (dr : Str → List PyData → (PyData → Prop) → Prop) : Prop := ∀ (O : List Addr) (H : Hp) (z : Str) (vs : List V) (ds : List PyData) (Q : VK) (k : PyData → Prop), (∀ a ∈ O, H a ≠ none) → Paired (Dz K H O) vs ds → dr z ds k →
  (∀ x v H', k x → Kp H H' [] → Dv K H' O v x → Q v H') → r (.str z) vs H Q
def msK2 (dr : Str → List PyData → (PyData → Prop) → Prop) (z : Str) (Q : RV → Rho → Prop) (ρ : Rho) : Option (List PyData) → Prop
  | some ds => dr z ds (opK4 Q ρ)
  | none => False
def msK1 (dr : Str → List PyData → (PyData → Prop) → Prop) (z : Str) (Q : RV → Rho → Prop) (rs : List RV) (ρ : Rho) : Prop := msK2 dr z Q ρ (dViews rs ρ)
def msK (dr : Str → List PyData → (PyData → Prop) → Prop) (da : DA) (Q : RV → Rho → Prop) (r : RV) (ρ : Rho) : Prop := match r with
  | .d (.str z) => da ρ (msK1 dr z Q)
  | _ => False
def dMs (dr : Str → List PyData → (PyData → Prop) → Prop) (de : DE) (da : DA) : DE := fun ρ Q => de ρ (msK dr da Q)
section
variable {ρ : Rho} {Q : RV → Rho → Prop} {de : DE} {da : DA} {dr : Str → List PyData → (PyData → Prop) → Prop} {z b : Str} {rs : List RV} {ds xs : List PyData} {k : PyData → Prop}
theorem dMs_e : dMs dr de da ρ Q = de ρ (msK dr da Q) := rfl
theorem msK_a : msK dr da Q (.d (.str z)) ρ = da ρ (msK1 dr z Q) := rfl
theorem msK1_a : msK1 dr z Q rs ρ = msK2 dr z Q ρ (dViews rs ρ) := rfl
theorem msK2_a : msK2 dr z Q ρ (some ds) = dr z ds (opK4 Q ρ) := rfl
def dJoin (z : Str) (ds : List PyData) (k : PyData → Prop) : Prop := match ds with
  | [.list xs] => ∃ ys : List Str, xs = ys.map PyData.str ∧ (ys.map (·.length)).sum + ys.length * z.length ≤ 16777216 ∧ k (.str (Txt.join z ys))
  | _ => False
theorem join_a : dJoin z [.list xs] k = ∃ ys : List Str, xs = ys.map PyData.str ∧ (ys.map (·.length)).sum + ys.length * z.length ≤ 16777216 ∧ k (.str (Txt.join z ys)) := rfl
def dCount (z : Str) (ds : List PyData) (k : PyData → Prop) : Prop := match ds with
  | [.str b] => k (.int (Txt.count z b))
  | _ => False
theorem count_a : dCount z [.str b] k = k (.int (Txt.count z b)) := rfl
end
def rJoin (K : PySem.W.Frag) : V → List V → Hp → VK → Prop := fun x xs H Q => ∃ a p, ∃ ys : List Str, x = .str a ∧ xs = [.ref p] ∧ (SqL K H p (ys.map V.str) ∨ SqT K H p (ys.map V.str)) ∧ (ys.map (·.length)).sum + ys.length * a.length ≤ 16777216 ∧ Q (.str (Txt.join a ys)) H
theorem joinK {X : Cx} (K : PySem.W.Frag) (h : X.K = K := by rfl) : MtR X "str.join" (rJoin K) := by subst h; exact mt_join
section
variable {K : PySem.W.Frag}
theorem strs_of {H : Hp} {O : List Addr} : ∀ {vs : List V} {ys : List Str}, DvAll K H O vs (ys.map PyData.str) → vs = ys.map V.str
  | _, [], .nil => rfl
  | _, y :: ys, .cons (.str _) t => by rw [strs_of t]; rfl
theorem md_join : MsD K (rJoin K) dJoin := fun O H z vs ds Q k _ hv h q => by
  unfold dJoin at h
  split at h
  · obtain ⟨v, rfl, dz⟩ := one hv
    obtain ⟨a, us, rfl, l, g⟩ := dz.list
    obtain ⟨ys, rfl, hz, h⟩ := h
    exact ⟨z, a, ys, rfl, rfl, .inl (by rw [← strs_of g]; exact SqL.of l), hz, q _ _ _ h (Kp.refl H) (.str _)⟩
  · exact h.elim
theorem md_count : MsD K (fun x xs H Q => ∃ a b, x = .str a ∧ xs = [.str b] ∧ Q (.int (Txt.count a b)) H) dCount := fun O H z vs ds Q k _ hv h q => by
  unfold dCount at h
  split at h
  · obtain ⟨v, rfl, dz⟩ := one hv
    exact ⟨z, _, rfl, by rw [dz.str], q _ _ _ h (Kp.refl H) (.int _)⟩
  · exact h.elim
end
section
variable {X : Cx} {C : Fc} {o e : Expr} {es : List Expr} {to : TE} {t : TA} {de : DE} {da : DA} {r : V → List V → Hp → VK → Prop} {dr : Str → List PyData → (PyData → Prop) → Prop}
theorem re_ms (hd : MsD C.K r dr) (ho : RE C to de) (ha : RA C t da) : RE C (tBM C.K "str" r to t) (dMs dr de da) := by
  refine ⟨fun O Z ρ σ H Q k R hk q => ?_⟩
  refine ho.run O Z ρ σ H _ _ R hk fun r1 ρ1 v H1 h1 g1 rv => ?_
  unfold msK at h1
  split at h1
  · rename_i z
    have ev : v = .str z := by cases (show Dv _ _ _ _ _ from rv); rfl
    subst ev
    refine ⟨rfl, ha.run O Z ρ1 σ H1 _ _ g1.rl h1 fun rs ρ2 vs H2 h2 g2 rvs => ?_⟩
    unfold msK1 msK2 at h2
    split at h2
    · rename_i ds e2
      exact hd (C.av Z O) H2 z vs ds Q _ g2.rl.alN (dViews_all g2.rl rvs e2) h2 fun x v H' hx kp dv => q _ _ _ _ hx ((g1.trans g2).new kp) dv
    · exact h2.elim
  · exact h1.elim
theorem pd_ms {name : Str} {apos cpos : Pos} {id : String} (slot : Slot "str" name id) (hty : typeOf (.builtin id) = pure (.type "method_descriptor")) (hm : MtR X id r) (hd : MsD C.K r dr) (ho : PD X C o to de) (ha : PDa X C (e :: es) t da)
    (hbase : attributeBase o name X.env (eval o X.env) = eval o X.env := by rfl)
    (hfew : ((backTo cpos (starEach (e :: es) X.env)).all (fun x => !x.1) && (backToKw cpos (keywordEach [] X.env)).all (fun x => x.1.isSome)
      && decide ((e :: es).length + ([] : List Keyword).length + (if ([] : List Keyword).isEmpty then 0 else 1) < 30)) = true := by rfl)
    (hline : (apos.endLine == cpos.line) = true := by rfl) (hs : starEach (e :: es) X.env = (false, eval e X.env) :: starEach es X.env := by rfl) (hplain : (backTo cpos (starEach es X.env)).any (·.1) = false := by rfl) (hk : X.K = C.K := by rfl) :
    PD X C (.Call (.Attribute o name apos) (e :: es) [] cpos) (tBM C.K "str" r to t) (dMs dr de da) :=
  ⟨by rw [← hk]; exact pe_bm PySem.F.plainAttrs_str slot hty hm ho.pe ha.pe hbase hfew hline hs hplain, re_ms hd ho.re ha.re⟩
end
end DL

set_option Elab.async false
set_option linter.all false
set_option maxRecDepth 100000
set_option maxHeartbeats 4000000
namespace DL
open PySem PySem.Spec PyProof.Rows L2
/-! ### a text in a text -/
def inSub (j i : Str) : Bool := !(Builtin.Str.occurrences j i 0 j.length 1).isEmpty
def dInStr (neg : Bool) (x y : PyData) (k : PyData → Prop) : Prop := match x, y with
  | .str a, .str b => k (.bool (if neg = true then !inSub b a else inSub b a))
  | _, _ => False
theorem inStr_a {a b : Str} {k : PyData → Prop} : dInStr false (.str a) (.str b) k = k (.bool (inSub b a)) := rfl
theorem notInStr_a {a b : Str} {k : PyData → Prop} : dInStr true (.str a) (.str b) k = k (.bool (!inSub b a)) := rfl
theorem od_inStr {K : PySem.W.Frag} : OpD K (fun x y H Q => ∃ i j, x = .str i ∧ y = .str j ∧ Q (.bl (!(Builtin.Str.occurrences j i 0 j.length 1).isEmpty)) H) (dInStr false) := fun O H x y dx dy Q k _ hx hy h q => by
  unfold dInStr at h
  split at h
  · exact ⟨_, _, hx.str, hy.str, bres q h⟩
  · exact h.elim
theorem od_notInStr {K : PySem.W.Frag} : OpD K (fun x y H Q => ∃ i j, x = .str i ∧ y = .str j ∧ Q (.bl (!(!(Builtin.Str.occurrences j i 0 j.length 1).isEmpty))) H) (dInStr true) := fun O H x y dx dy Q k _ hx hy h q => by
  unfold dInStr at h
  split at h
  · exact ⟨_, _, hx.str, hy.str, bres q h⟩
  · exact h.elim
end DL

set_option Elab.async false
set_option linter.all false
set_option maxRecDepth 100000
set_option maxHeartbeats 4000000
namespace DL
open PySem PySem.Spec PyProof.Rows L2
/-! ### the evaluator: lists that were handed in -/
section
variable {ρ : Rho} {p q : Nat} {ps : List Nat} {ds : List PyData} {x : PyData} {ss : List (List PyData)}
def outK : Option (List PyData) → Option (List (List PyData)) → Option (List (List PyData))
  | some ds, some ss => some (ds :: ss)
  | _, _ => none
theorem outs_c : outs ρ (p :: ps) = outK (argSt ρ p) (outs ρ ps) := by rw [outs]; unfold outK; split <;> simp_all
theorem outK_a : outK (some ds) (some ss) = some (ds :: ss) := rfl
theorem argSt_own : argSt (some (.ow (.lst (some q) ds)) :: ρ) p = if q = p then some ds else argSt ρ p := by
  unfold argSt
  rw [List.findSome?_cons]
  by_cases h : q = p <;> simp [h]
theorem argSt_d : argSt (some (.d x) :: ρ) p = argSt ρ p := rfl
theorem argSt_non : argSt (none :: ρ) p = argSt ρ p := rfl
theorem argSt_new : argSt (some (.ow (.lst none ds)) :: ρ) p = argSt ρ p := rfl
theorem rng1 : List.range 1 = [0] := rfl
end
end DL

set_option Elab.async false
set_option linter.all false
set_option maxRecDepth 100000
set_option maxHeartbeats 4000000
namespace DL
open PySem PySem.Spec PyProof.Rows L2
/-! ### x, y = [..], e: x owns the new list -/
def parOK (i j : Nat) (ds : List PyData) (DD : DEnds) (r : RV) (ρ : Rho) : Prop := match r with
  | .d y => DD.nx ((ρ.set i (some (.ow (.lst none ds)))).set j (some (.d y)))
  | .ow _ => False
def parOK1 (i j : Nat) (de : DE) (DD : DEnds) (ds : List PyData) (ρ : Rho) : Prop := de ρ (parOK i j ds DD)
def dParO (i j : Nat) (df : DF) (de : DE) : DS := fun DD ρ => df ρ (parOK1 i j de DD)
theorem dParO_e {i j : Nat} {df : DF} {de : DE} {DD : DEnds} {ρ : Rho} : dParO i j df de DD ρ = df ρ (parOK1 i j de DD) := rfl
theorem parOK1_a {i j : Nat} {de : DE} {DD : DEnds} {ds : List PyData} {ρ : Rho} : parOK1 i j de DD ds ρ = de ρ (parOK i j ds DD) := rfl
theorem parOK_a {i j : Nat} {DD : DEnds} {ds : List PyData} {y : PyData} {ρ : Rho} : parOK i j ds DD (.d y) ρ = DD.nx ((ρ.set i (some (.ow (.lst none ds)))).set j (some (.d y))) := rfl
section
variable {X : Cx} {C : Fc}
theorem pds_parO {st : Stmt} {i j : Nat} {te te2 : TE} {df : DF} {de : DE} (hp : PS X st (tPar i j (tCons te (tCons te2 tNil)))) (hf : RF C te df) (hd : RE C te2 de) : PDs X C st (tPar i j (tCons te (tCons te2 tNil))) (dParO i j df de) := by
  refine ⟨hp, ⟨fun O Z D DD ρ σ H R c hk => ?_⟩⟩
  refine hf.run O Z ρ σ H _ _ R hk fun ds ρ1 vs a H1 h1 g1 R1 n h0 e dv => ?_
  refine hd.run O (Z.guard a) ρ1 σ H1 _ _ R1 h1 fun r ρ2 v H2 h2 g2 rv => ?_
  unfold parOK at h2
  split at h2
  · have aO : a ∉ O := fun m => n (List.mem_append_left _ m)
    have e2 : H2 a = some (.lst vs) := g2.kp.lst e aO
    have dv2 := dv.kp g2.kp fun x m => List.mem_append_left _ m
    have S := g2.rl.set_o i n h0 e2 dv2
    exact ⟨_, _, rfl, c.nx _ _ _ _ (S.set_d j (Dv.sub (show Dv _ _ _ _ _ from rv) guard_take)) h2⟩
  · exact h2.elim
theorem pds_parON {i j : Nat} {x y : Str} {a b : Expr} {te te2 : TE} {df : DF} {de : DE} {px py pt : Pos} {kt k2 pt2} {pos : Pos} (hc : X.calm = true) (hN : X.N.Nodup) (hi : X.N[i]? = some x) (hj : X.N[j]? = some y) (hij : i ≠ j)
    (hx : X.env.scope.names.lookup x = some .local) (hy : X.env.scope.names.lookup y = some .local) (ha : PF X C a te df) (hb : PD X C b te2 de)
    (hw : swappedStores [.Tuple [.Name x px, .Name y py] kt pt] (.Tuple [a, b] k2 pt2) X.env = pure (some [x, y]))
    (hs : swapsWithSole [.Tuple [.Name x px, .Name y py] kt pt] (.Tuple [a, b] k2 pt2) pos.line X.env = pure false := by rfl)
    (h1 : starEach [a, b] X.env = (false, eval a X.env) :: starEach [b] X.env := by rfl) (h2 : starEach [b] X.env = (false, eval b X.env) :: starEach [] X.env := by rfl) :
    PDs X C (.Assign [.Tuple [.Name x px, .Name y py] kt pt] (.Tuple [a, b] k2 pt2) pos) (tPar i j (tCons te (tCons te2 tNil))) (dParO i j df de) :=
  pds_parO (ps_par hc hN hi hj hij hx hy (pa_cons ha.pe (pa_cons hb.pe pa_nil h2) h1) hw hs) ha.re hb.re
end
end DL

set_option Elab.async false
set_option linter.all false
set_option maxRecDepth 100000
set_option maxHeartbeats 4000000
namespace DL
open PySem PySem.Spec PyProof.Rows L2
/-! ### the evaluator: behind a call that wrote lists -/
section
variable {ρ : Rho} {i : Nat} {is : List Nat} {ds es : List PyData} {ss : List (List PyData)} {g : Option Nat}
def stK (ρ : Rho) (i : Nat) (ds : List PyData) : Option (Option DV) → Rho
  | some (some (.ow (.lst g _))) => ρ.set i (some (.ow (.lst g ds)))
  | _ => ρ
theorem setSt_c : setSt ρ (i :: is) (ds :: ss) = setSt (stK ρ i ds ρ[i]?) is ss := by
  rw [setSt]
  unfold stK
  split <;> simp_all
theorem stK_a : stK ρ i ds (some (some (.ow (.lst g es)))) = ρ.set i (some (.ow (.lst g ds))) := rfl
end
end DL

set_option Elab.async false
set_option linter.all false
set_option maxRecDepth 100000
set_option maxHeartbeats 4000000
namespace DL
open PySem PySem.Spec PyProof.Rows L2
/-! ### a list times an int -/
def dRep (x y : PyData) (k : PyData → Prop) : Prop := match x, y with
  | .list xs, .int n => -(2 ^ 63) ≤ n ∧ n < 2 ^ 63 ∧ xs.length * n.toNat ≤ sizeLine ∧ k (.list (List.replicate n.toNat xs).flatten)
  | _, _ => False
theorem rep_a {xs : List PyData} {n : Int} {k : PyData → Prop} : dRep (.list xs) (.int n) k = (-(2 ^ 63) ≤ n ∧ n < 2 ^ 63 ∧ xs.length * n.toNat ≤ sizeLine ∧ k (.list (List.replicate n.toNat xs).flatten)) := rfl
theorem rep_dv {K : PySem.W.Frag} {H : Hp} {O : List Addr} {vs : List V} {ds : List PyData} (g : DvAll K H O vs ds) : ∀ n : Nat, DvAll K H O (List.replicate n vs).flatten (List.replicate n ds).flatten
  | 0 => .nil
  | n + 1 => by
    rw [List.replicate_succ, List.replicate_succ, List.flatten_cons, List.flatten_cons]
    exact g.append (rep_dv g n)
theorem od_rep {K : PySem.W.Frag} : OpD K rRep dRep := fun O H x y dx dy Q k al hx hy h q => by
  unfold dRep at h
  split at h
  · rename_i xs n
    obtain ⟨a, vs, rfl, l, g⟩ := hx.list
    exact ⟨a, n, vs, rfl, hy.int, l, h.1, h.2.1, by rw [g.length]; exact h.2.2.1, fun p hp => q _ _ _ h.2.2.2 (Kp.new hp) (Dv.lstNew hp al (rep_dv g _))⟩
  · exact h.elim
end DL

set_option Elab.async false
set_option linter.all false
set_option maxRecDepth 100000
set_option maxHeartbeats 4000000
namespace DL
open PySem PySem.Spec PyProof.Rows L2 PySem.W
/-! ### sorted(xs), xs a list of data that are alike -/
def leD : PyData → PyData → Bool := dataLe false id
mutual
/-- no dicts within -/
def noD : PyData → Bool
  | .list ds => noDs ds
  | .tuple ds => noDs ds
  | .dict _ => false
  | _ => true
def noDs : List PyData → Bool
  | [] => true
  | d :: ds => noD d && noDs ds
end
theorem noDs_cons {d : PyData} {ds : List PyData} (e : noDs (d :: ds) = true) : noD d = true ∧ noDs ds = true := by simpa [noDs] using e
mutual
theorem Dv.dpN {K : PySem.W.Frag} {H : Hp} {O : List Addr} : ∀ {d : PyData} {v : V}, Dv K H O v d → noD d = true → Dp K H v d
  | _, _, .non, _ => .non
  | _, _, .bl b, _ => .bl b
  | _, _, .int i, _ => .int i
  | _, _, .str x, _ => .str x
  | _, _, .lst h a, e => .lst h.sq (DvAll.dpN a (by simpa [noD] using e))
  | _, _, .tup h a, e => .tup h.sq (DvAll.dpN a (by simpa [noD] using e))
  | _, _, .dct _ _, e => by simp [noD] at e
theorem DvAll.dpN {K : PySem.W.Frag} {H : Hp} {O : List Addr} : ∀ {ds : List PyData} {vs : List V}, DvAll K H O vs ds → noDs ds = true → DpAll K H vs ds
  | _, _, .nil, _ => .nil
  | _, _, .cons h t, e => .cons (Dv.dpN h (noDs_cons e).1) (DvAll.dpN t (noDs_cons e).2)
end
structure SrtOk (xs : List PyData) : Prop where
  alike : AllAlike xs
  kind : Sortable xs
  lay : ∀ d ∈ xs, noD d = true ∧ d.depth ≤ 50
def rSortedDat (K : PySem.W.Frag) : List V → Hp → VK → Prop := fun vs H Q => ∃ (a : Addr) (xs : List V) (ds : List PyData), vs = [V.ref a] ∧ SqL K H a xs ∧ DpAll K H xs ds ∧ SrtOk ds ∧
  ∀ (zs : List (PyData × V)) (p : Addr), zs.Perm (ds.zip xs) → zs.map Prod.fst = ds.mergeSort leD → H p = none → Q (.ref p) (upd H p (.lst (zs.map Prod.snd)))
theorem dp_len {K : PySem.W.Frag} {H : Hp} : ∀ {vs : List V} {ds : List PyData}, DpAll K H vs ds → vs.length = ds.length
  | _, _, .nil => rfl
  | _, _, .cons _ t => congrArg Nat.succ (dp_len t)
theorem sort_each {K : PySem.W.Frag} {H : Hp} {h : Heap} : ∀ {xs : List V} {ds : List PyData} {us : List Value} {as : List Addr}, DpAll K H xs ds → Vals xs us → ReadsAll h us ds as →
    EachIs (fun u (b : PyData × V) => RelV b.2 u) us (ds.zip xs) ∧ EachIs (fun v (b : PyData × V) => ∃ as, Reads h v b.1 as) us (ds.zip xs)
  | _, _, _, _, .nil, .nil, _ => ⟨.nil, .nil⟩
  | _, _, _, _, .cons h t, .cons r rs, .cons q qs => ⟨.cons r (sort_each t rs qs).1, .cons ⟨_, q⟩ (sort_each t rs qs).2⟩
theorem each_vals : ∀ {us : List Value} {zs : List (PyData × V)}, EachIs (fun u (b : PyData × V) => RelV b.2 u) us zs → Vals (zs.map Prod.snd) us
  | _, _, .nil => .nil
  | _, _, .cons h t => .cons h (each_vals t)
theorem cr_sortedDat {X : Cx} (hu : X.A.units + 64 < cLine) : CallR X (.builtin "sorted") (rSortedDat X.K) := by
  intro pins s σ H vs us Q I r h
  obtain ⟨a, xs, ds, rfl, hs, hd, ok, q⟩ := h
  obtain ⟨its, rv, hl, hz⟩ := I.list hs
  rw [Vals.ref1 r]
  obtain ⟨as, ra⟩ := Dp.readsAll I ds xs its hd rv
  have hlen := dp_len hd
  obtain ⟨e1, e2⟩ := sort_each hd rv ra
  have ez : (ds.zip xs).map Prod.fst = ds := List.map_fst_zip (by omega)
  have zl : (ds.zip xs).length = ds.length := by rw [List.length_zip]; omega
  refine sorted_data (enc := Prod.fst) (R := fun u (b : PyData × V) => RelV b.2 u) hl.isList e1 e2 (by rw [ez]; exact ok.alike) (by rw [ez]; exact ok.kind) (by omega) (fun b hb => ?_) fun out ol oe => ?_
  · have hm : b.1 ∈ ds := by rw [← ez]; exact List.mem_map.mpr ⟨b, hb, rfl⟩
    have := (ok.lay _ hm).2
    omega
  · obtain ⟨ep, he'⟩ := PyProof.Rows.sortedAll_at s.heap its out.toArray
    have hp : ((ds.zip xs).mergeSort (dataLe false Prod.fst)).Perm (ds.zip xs) := List.mergeSort_perm _ _
    have hm : ((ds.zip xs).mergeSort (dataLe false Prod.fst)).map Prod.fst = ds.mergeSort leD := by
      rw [List.map_mergeSort (r := dataLe false Prod.fst) (s := leD) (f := Prod.fst) (fun a _ b _ => rfl), ez]
    generalize (ds.zip xs).mergeSort (dataLe false Prod.fst) = zs at hp hm oe ⊢
    have hl2 : (zs.map Prod.snd).length ≤ sizeLine := by
      rw [List.length_map, hp.length_eq, zl]
      omega
    exact ⟨.ref _, upd H (s.heap.objs.size + 1) (.lst (zs.map Prod.snd)), I.laid (t' := s.toks) (fun _ _ => PyProof.Rows.sortedAll_old) (Nat.le_succ _) ⟨hl2, out, ep, each_vals oe, he'⟩, rfl, q _ _ hp hm (I.hok.fresh (Nat.le_succ _))⟩
theorem sortedDK {X : Cx} (K : PySem.W.Frag) (hu : X.A.units + 64 < cLine) (h : X.K = K := by rfl) : CallR X (.builtin "sorted") (rSortedDat K) := by subst h; exact cr_sortedDat hu
def dSorted (xs : List PyData) (k : PyData → Prop) : Prop := match xs with
  | [.list ds] => SrtOk ds ∧ k (.list (ds.mergeSort leD))
  | _ => False
theorem sorted_a {ds : List PyData} {k : PyData → Prop} : dSorted [.list ds] k = (SrtOk ds ∧ k (.list (ds.mergeSort leD))) := rfl
theorem dv_zip {K : PySem.W.Frag} {H : Hp} {O : List Addr} : ∀ {vs : List V} {ds : List PyData}, DvAll K H O vs ds → ∀ b ∈ ds.zip vs, Dv K H O b.2 b.1
  | _, _, .nil, b, m => by cases m
  | _, _, .cons h t, b, m => by
    rcases List.mem_cons.mp m with rfl | m
    · exact h
    · exact dv_zip t b m
theorem dv_unzip {K : PySem.W.Frag} {H : Hp} {O : List Addr} : ∀ {zs : List (PyData × V)}, (∀ b ∈ zs, Dv K H O b.2 b.1) → DvAll K H O (zs.map Prod.snd) (zs.map Prod.fst)
  | [], _ => .nil
  | z :: zs, h => .cons (h z List.mem_cons_self) (dv_unzip fun b m => h b (List.mem_cons_of_mem _ m))
theorem noAll {ds : List PyData} (h : ∀ d ∈ ds, noD d = true) : noDs ds = true := by
  induction ds with
  | nil => simp [noDs]
  | cons d ds ih => simp [noDs, h d List.mem_cons_self, ih fun x m => h x (List.mem_cons_of_mem _ m)]
theorem cd_sorted {K : PySem.W.Frag} : CallD K (rSortedDat K) dSorted := fun O H vs ds Q k al hv h q => by
  unfold dSorted at h
  split at h
  · rename_i xs
    obtain ⟨v, rfl, dz⟩ := one hv
    obtain ⟨a, us, rfl, l, g⟩ := dz.list
    refine ⟨a, us, xs, rfl, SqL.of l, DvAll.dpN g (noAll fun d m => (h.1.lay d m).1), h.1, fun zs p hp he hn => ?_⟩
    refine q _ _ _ h.2 (Kp.new hn) ?_
    rw [← he]
    exact Dv.lstNew hn al (dv_unzip fun b m => dv_zip g b (hp.mem_iff.mp m))
  · exact h.elim
end DL

set_option Elab.async false
set_option linter.all false
set_option maxRecDepth 100000
set_option maxHeartbeats 4000000
namespace DL
open PySem PySem.Spec PyProof.Rows L2
/-! ### the def law: draws = _law_draws(script), the rest over data -/
/-- the draws: a new list of ints, of the script -/
def spDrawsH (K : PySem.W.Frag) : Sp := fun vs H Q _ => ∃ (a : Addr) (ns : List Int), vs = [.ref a] ∧ SqL K H a (ns.map V.int) ∧ ns.length ≤ 63 ∧
  ∀ H' p (ms : List Int), Kp H H' [] → H p = none → H' p = some (.lst (ms.map V.int)) → ms.length ≤ 10000 → Q (.ref p) H'
def spLaw (K : PySem.W.Frag) (tabs : List Addr) : Sp := fun vs H Q _ => ∃ (a : Addr) (ns : List Int), vs = [.ref a] ∧ SqL K H a (ns.map V.int) ∧ ns.length ≤ 63 ∧ (∀ P ∈ tabs, GxR.TabG H P) ∧ ∀ H', Q (.bl true) H'
def lawRho (n : Nat) (ms : List Int) : Rho := none :: some (.ow (.lst none (ms.map .int))) :: List.replicate (n - 2) none
theorem Rl.law {K : PySem.W.Frag} {tabs : List Addr} {H H1 : Hp} {E : XK} {W : Addr → Prop} {xs : ∀ c H', Kp H H' [] → W c → E (.ref c) none H'} {mh : ∀ a ∈ ([] : List Addr), H a ≠ none} {bh : ∀ a ∈ ([] : List Addr), H a ≠ none} {v : V} {p : Addr} {ms : List Int} {n : Nat}
    (k : Kp H H1 []) (h0 : H p = none) (h1 : H1 p = some (.lst (ms.map V.int))) (tb : ∀ P ∈ tabs, GxR.TabG H P) :
    Rl ⟨K, tabs, H, [], [], E, W, xs, mh, bh⟩ [p] ⟨[], []⟩ (lawRho n ms) (some v :: some (.ref p) :: List.replicate (n - 2) none) H1 := by
  have own : ∀ (i : Nat) (dv : DV), (lawRho n ms)[i]? = some (some dv) → i = 1 ∧ dv = .ow (.lst none (ms.map .int)) := fun i dv e => by
    unfold lawRho at e
    match i, e with
    | 0, e => cases e
    | 1, e => cases e; exact ⟨rfl, rfl⟩
    | i + 2, e =>
      rw [List.getElem?_cons_succ, List.getElem?_cons_succ, List.getElem?_replicate] at e
      split at e <;> cases e
  have no : ∀ {α : Type} {p : α → Prop} (a : α), a ∈ ([] : List α) → p a := fun a m => nomatch m
  refine ⟨k, fun a m => .inr (by rw [List.mem_singleton.mp m]; exact h0), no, fun P m => k.tabG (tb P m), fun a m => ⟨.lst (ms.map V.int), by rw [List.mem_singleton.mp m]; exact h1, fun _ z => nomatch z⟩, no, by simp [lawRho], fun i dv e => ?_, no, no, no, fun i j a s s' e1 e2 e3 e4 => ?_⟩
  · obtain ⟨rfl, rfl⟩ := own i dv e
    exact ⟨.ref p, rfl, p, rfl, List.mem_singleton.mpr rfl, h0, _, h1, DvAll.ints ms⟩
  · rw [(own i _ e3).1, (own j _ e4).1]
theorem law_comp {K : PySem.W.Frag} {tabs : List Addr} {H : Hp} {E : XK} {W : Addr → Prop} {xs : ∀ c H', Kp H H' [] → W c → E (.ref c) none H'} {mh : ∀ a ∈ ([] : List Addr), H a ≠ none} {bh : ∀ a ∈ ([] : List Addr), H a ≠ none} {Q : VK} (q : ∀ H', Q (.bl true) H') :
    Comp ⟨K, tabs, H, [], [], E, W, xs, mh, bh⟩ ⟨[], []⟩ { nx := fun _ H' => Q .non H', rt := Q } { nx := fun _ => False, rt := fun r _ => r = .d (.bool true) } :=
  ⟨fun _ _ _ _ _ h => h.elim, fun O ρ σ H' v r R rv e => by subst e; cases rv; exact q _, fun _ _ _ _ _ h => h.elim, fun _ _ _ _ _ h => h.elim⟩
section
variable {P : Program} {w : World} {K : PySem.W.Frag} {mg : Str → Option Value} {base : Heap} {tabs : List Addr}
/-- THE RULE for the def law -/
theorem Fun.okLaw {x qual : Str} {st : Stmt} {f : Addr} {fd : FuncData} {N : List Str} {k : Nat} (F : Fun K x qual st f fd) (SC : FnScope N ["script"] (defScope st)) (hN : 2 ≤ N.length)
    (hbody : ∀ (cdv : Value) (A : Around) (outer : List Env) (s : Shared) (H : Hp) (E : XK) (W : Addr → Prop) (xs : ∀ c H', Kp H H' [] → W c → E (.ref c) none H') (mh : ∀ a ∈ ([] : List Addr), H a ≠ none) (bh : ∀ a ∈ ([] : List Addr), H a ≠ none),
      Room k (A.deeper (PyProof.Rows.envOfC qual (defScope st) s.heap.objs.size f cdv)) →
      ∃ s0 rest t d, defBody st = s0 :: rest ∧ PS (cxOf CX0 P w K mg base N qual (defScope st) f cdv A outer s H E).nox s0 (tAsg (tCall (spDrawsH K) [] E0 (tCons (tVar 0) tNil)) (gName 1)) ∧
        PDb (cxOf CX0 P w K mg base N qual (defScope st) f cdv A outer s H E).nox ⟨K, tabs, H, [], [], E, W, xs, mh, bh⟩ rest t d ∧
        ∀ ms : List Int, ms.length ≤ 10000 → d { nx := fun _ => False, rt := fun r _ => r = .d (.bool true) } (lawRho N.length ms)) :
    FnOk P w K mg base CX0 (k + 1) f fd ["script"] (spLaw K tabs) := by
  refine F.ok SC (fun vs H Q E h => ?_) (fun cdv A outer s H vs Q E hr h => ?_)
  · obtain ⟨a, ns, rfl, _⟩ := h
    rfl
  · obtain ⟨a, ns, rfl, hS, hl, tb, q⟩ := h
    obtain ⟨s0, rest, t, d, eb, h0, hd, go⟩ := hbody cdv A outer s H E (fun _ => False) (fun _ _ _ z => z.elim) (fun _ m => nomatch m) (fun _ m => nomatch m) hr
    rw [eb]
    refine ⟨_, pss_cons h0 hd.ps, ?_⟩
    have hst : ∃ n, L2.start N [V.ref a] = some (.ref a) :: none :: List.replicate n none ∧ n = N.length - 2 := by
      unfold L2.start
      obtain ⟨m, hm⟩ : ∃ m, N.length = m + 2 := ⟨N.length - 2, by omega⟩
      refine ⟨m, ?_, by omega⟩
      rw [hm]
      rfl
    obtain ⟨n, es, en⟩ := hst
    rw [es]
    refine ⟨_, rfl, a, ns, rfl, hS, hl, fun H1 p ms k hp h1 ml => ?_⟩
    have R := Rl.law (K := K) (tabs := tabs) (E := E) (W := fun _ => False) (xs := fun _ _ _ z => z.elim) (mh := fun _ m => nomatch m) (bh := fun _ m => nomatch m) (v := .ref a) (n := N.length) k hp h1 tb
    rw [← en] at R
    exact hd.rs.run [p] ⟨[], []⟩ _ _ _ _ H1 R (law_comp q) (go ms ml)
theorem FunC.okLaw {x qual : Str} {st : Stmt} {f c : Addr} {fd : FuncData} {N : List Str} {k : Nat} (F : FunC K x qual st f fd c) (SC : FnScope N ["script"] (defScope st)) (hN : 2 ≤ N.length)
    (hbody : ∀ (A : Around) (outer : List Env) (s : Shared) (H : Hp) (E : XK) (W : Addr → Prop) (xs : ∀ c H', Kp H H' [] → W c → E (.ref c) none H') (mh : ∀ a ∈ ([] : List Addr), H a ≠ none) (bh : ∀ a ∈ ([] : List Addr), H a ≠ none),
      Room k (A.deeper (PyProof.Rows.envOfC qual (defScope st) s.heap.objs.size f (.ref c))) →
      ∃ s0 rest t d, defBody st = s0 :: rest ∧ PS (cxOf CX0 P w K mg base N qual (defScope st) f (.ref c) A outer s H E).nox s0 (tAsg (tCall (spDrawsH K) [] E0 (tCons (tVar 0) tNil)) (gName 1)) ∧
        PDb (cxOf CX0 P w K mg base N qual (defScope st) f (.ref c) A outer s H E).nox ⟨K, tabs, H, [], [], E, W, xs, mh, bh⟩ rest t d ∧
        ∀ ms : List Int, ms.length ≤ 10000 → d { nx := fun _ => False, rt := fun r _ => r = .d (.bool true) } (lawRho N.length ms)) :
    FnOk P w K mg base CX0 (k + 1) f fd ["script"] (spLaw K tabs) := by
  obtain ⟨oc, od, kV, doc, pm, an, ct, osl, rfl, lk, hcd⟩ := F.ex
  refine fn_of lk hcd SC (fun vs H Q E h => ?_) fun A outer s H vs Q E hr h => ?_
  · obtain ⟨a, ns, rfl, _⟩ := h
    rfl
  · obtain ⟨a, ns, rfl, hS, hl, tb, q⟩ := h
    obtain ⟨s0, rest, t, d, eb, h0, hd, go⟩ := hbody A outer s H E (fun _ => False) (fun _ _ _ z => z.elim) (fun _ m => nomatch m) (fun _ m => nomatch m) hr
    rw [eb]
    refine ⟨_, (pss_cons h0 hd.ps).nox, ?_⟩
    have hst : ∃ n, L2.start N [V.ref a] = some (.ref a) :: none :: List.replicate n none ∧ n = N.length - 2 := by
      unfold L2.start
      obtain ⟨m, hm⟩ : ∃ m, N.length = m + 2 := ⟨N.length - 2, by omega⟩
      refine ⟨m, ?_, by omega⟩
      rw [hm]
      rfl
    obtain ⟨n, es, en⟩ := hst
    rw [es]
    refine ⟨_, rfl, a, ns, rfl, hS, hl, fun H1 p ms k hp h1 ml => ?_⟩
    have R := Rl.law (K := K) (tabs := tabs) (E := E) (W := fun _ => False) (xs := fun _ _ _ z => z.elim) (mh := fun _ m => nomatch m) (bh := fun _ m => nomatch m) (v := .ref a) (n := N.length) k hp h1 tb
    rw [← en] at R
    exact hd.rs.run [p] ⟨[], []⟩ _ _ _ _ H1 R (law_comp q) (go ms ml)
end
end DL

set_option Elab.async false
set_option linter.all false
set_option maxRecDepth 100000
set_option maxHeartbeats 4000000
/-! a def that an except suite calls, handed the exception: isinstance of it, a comprehension over a list of truth values -/
namespace GE
open PySem PySem.Spec PyProof.Rows L2 HotX L2H
section
variable {prog : Program} {w : World} {A : Around} {E : Value → Shared → Prop} {s : Shared}
/-- the end of a list's iterator, an exception being handled -/
theorem next_list_end_hot {it l x1 : Addr} {i : Nat} {items} {Q : Option Value → Shared → Prop} (hot : HotAt A x1 s.heap) (nx : x1 ≠ it)
    (hit : s.heap.IsListIter it l i) (hl : s.heap.IsList l items) (hx : items[i]? = none)
    (hQ : ∀ h', (∀ b o, b ≠ it → s.heap.get? b = some o → h'.get? b = some o) → Q none { s with heap := h' }) : wpAny (model prog w) A (pyNext (.ref it)) Q E s := by
  obtain ⟨o, ho, hc, hd⟩ := id hit
  obtain ⟨ol, hol, _, nl, hdl⟩ := hl
  obtain ⟨hh, o1, vs1, h1, d1, c1⟩ := hot
  unfold pyNext
  refine wpAny_bind (wpAny_attempt (wpAny_callSpecial?_slot (name := Str.ofString "__next__") hit.typeIs slot_listiter_next
    (wpAny_call_entry slot_listiter_next hit.typeIs entry_listiter_next ?_ (args_listiter_next _))))
  show wpAny _ _ (field (.ref it) 0 >>= _) _ _ s
  refine wpAny_bind (wpAny_field ho hd (x := .ref l) rfl ?_)
  show wpAny _ _ (if (Value.ref l == Value.none) = true then _ else _) _ _ s
  rw [if_neg (show ¬ ((Value.ref l == Value.none) = true) from Bool.false_ne_true)]
  show wpAny _ _ (field (.ref it) 1 >>= _) _ _ s
  refine wpAny_bind (wpAny_field ho hd (x := .int i 0) rfl ?_)
  show wpAny _ _ (seqItems? (.ref l) >>= _) _ _ s
  refine wpAny_bind (wpAny_seqItems hol hdl ?_)
  simp only [Int.toNat_natCast, hx]
  refine wpAny_bind (wpAny_rule (wpAny_bind (wpAny_setField ho hd (by simp) ?_)))
  generalize hgen : s.heap.update it _ = h2
  have keep : ∀ b u, b ≠ it → s.heap.get? b = some u → h2.get? b = some u := fun b u nb e => by
    rw [← hgen, Heap.get?_update_other _ _ (Ne.symm nb)]
    exact e
  have h1' : h2.get? x1 = some o1 := keep _ _ nx h1
  show wpAny _ _ (newExc (.type "StopIteration") [] >>= _) _ _ _
  refine wpAny_bind ?_
  simp only [newExc, newTuple]
  refine wpAny_bind (wpAny_newObj_type ?_ (by size_fits))
  refine wpAny_bind (m := firstArgMember _ _) (wpAny_of_eq (a := Value.none) (by first | rfl | (simp only [firstArgMember]; rfl)) ?_)
  refine wpAny_newObj_type ?_ (by size_fits)
  refine raiseNew_hot (x1 := x1) ⟨hh, o1, vs1, Heap.get?_push_of_some _ (Heap.get?_push_of_some _ h1'), d1, c1⟩ (Nat.ne_of_lt (Heap.lt_size (Heap.get?_push_of_some _ h1'))) (Heap.get?_push_size _ rfl) rfl (by first | (simp; done) | (simp; omega) | (simp only [Array.size_append]; simp; omega)) ?_
  refine wpAny_bind (wpAny_isInstance (T := "StopIteration") (b := true) ⟨_, Heap.get?_update_self _ (Heap.get?_push_size _ rfl) rfl, rfl⟩ isSubtype_stop ?_)
  refine wpAny_pure (hQ _ fun b u nb e => ?_)
  have e2 := keep b u nb e
  rw [Heap.get?_update_other _ _ (Nat.ne_of_gt (Heap.lt_size (Heap.get?_push_of_some _ e2)))]
  exact Heap.get?_push_of_some _ (Heap.get?_push_of_some _ e2)
end
/-- the handled exception stands in the state at which the context starts -/
structure HotB (X : Cx) (x1 : Addr) (o : Obj) : Prop where
  hot : Hot1 X.A (x1, o)
  get : X.s_0.heap.get? x1 = some o
  free : X.H_0 x1 = none
  nofs : x1 ∉ X.fs
  noex : x1 ∉ X.ex
theorem HotB.stay {X : Cx} {x1 : Addr} {o : Obj} (c : HotB X x1 o) {pins : List (Addr × Obj)} {σ : L2.St} {H : Hp} {s : Shared} (I : Inv X pins σ H s) : s.heap.get? x1 = some o := I.base.keep _ _ c.get c.free c.nofs c.noex
theorem HotB.no {X : Cx} {x1 : Addr} {o : Obj} (c : HotB X x1 o) {pins : List (Addr × Obj)} {σ : L2.St} {H : Hp} {s : Shared} (I : Inv X pins σ H s) : H x1 = none := I.base.free _ _ c.get c.free c.noex
theorem HotB.at {X : Cx} {x1 : Addr} {o : Obj} (c : HotB X x1 o) {pins : List (Addr × Obj)} {σ : L2.St} {H : Hp} {s : Shared} (I : Inv X pins σ H s) : HotAt X.A x1 s.heap := by
  obtain ⟨hh, v1, e1, c1⟩ := c.hot
  exact ⟨hh, o, v1, c.stay I, e1, c1⟩
section
variable {X : Cx}
theorem sameUpd {H : Hp} {a : Addr} {o : HO} (h : H a = none) : Same H (upd H a o) := fun b u e => by
  rw [upd_ne (fun z => by rw [z, h] at e; cases e)]
  exact e
def tTrue (K : PySem.W.Frag) (ti : TE) : TE := fun σ H Q => ti σ H fun v H1 => ∃ (a : Addr) (bs : List Bool), v = .ref a ∧ SqL K H1 a (bs.map V.bl) ∧ ∀ D, H1 D = none → Q (.ref D) (upd H1 D (.lst ((bs.filter id).map V.bl)))
/-- [x for x in xs if x], xs a list of truth values, an exception being handled -/
theorem pe_lcTrue {x : Str} {i : Nat} {iter : Expr} {p1 p2 p4 pos : Pos} {scope : Scope} {own : List (Str × Nat)} {ti : TE} {x1 : Addr} {o1 : Obj} (hc : HotB X x1 o1) (hN : X.N.Nodup) (hi : PE X iter ti) (ok : BlkOk X.N X.env.scope scope own) (hx : i ∈ own.map (·.2)) (hil : i < X.N.length)
    (hg : ∀ (s : Shared) (H : Hp) (C : Addr) (cl : List (Str × Addr)) (fp : List Addr), PG (X.blk s H scope (compEnvC scope cl C X.env) fp) (.Name x p2) (gName i))
    (ht : ∀ (s : Shared) (H : Hp) (C : Addr) (cl : List (Str × Addr)) (fp : List Addr), PTs (X.blk s H scope (compEnvC scope cl C X.env) fp) [.Name x p4] (tB (tVar i)))
    (he : ∀ (s : Shared) (H : Hp) (C : Addr) (cl : List (Str × Addr)) (fp : List Addr), PE (X.blk s H scope (compEnvC scope cl C X.env) fp) (.Name x p1) (tVar i)) (hs : ∀ x, foldedSetIterable iter X.env x = pure x := by intro _; rfl) :
    PE X (.ListComp (.Name x p1) [⟨.Name x p2, iter, [.Name x p4], 0⟩] scope pos) (tTrue X.K ti) := by
  refine ⟨fun pins s σ H Q I h => ?_⟩
  have hfree : ∀ y ∈ scope.names, y.2 = .free → ∃ c, X.env.cells.lookup y.1 = some c := fun y hy e => by
    rcases ok.free y hy e with k | k
    · exact I.ok.has _ (.inl k)
    · exact I.ok.has _ (.inr k)
  rw [eval_ListComp]
  refine wpAny_comprehension_free (use := none) rfl hs (closure_ok hfree) ok.kind (fun y hy e => by rw [ok.uniq y hy, e]) (thn (hi.run pins s σ H _ I h) fun u s1 ⟨v, H1, I1, r1, a, bs, ev, hq, q⟩ => ?_)
  subst ev
  cases r1
  obtain ⟨its, rv, p, hz⟩ := I1.list hq
  have hlen : its.length = bs.length := by rw [← rv.length, List.length_map]
  refine wpAny_pyIter_list p.isList ?_
  -- the iterator, the new list
  generalize hit : s1.heap.objs.size = it
  have itn : H1 it = none := I1.hok.fresh (Nat.le_of_eq hit)
  have fit : FpOk X pins H1 it := I1.fpOk (Nat.le_of_eq hit) itn
  generalize hs2 : ({ s1 with heap := s1.heap.push { cls := .type "list_iterator", data := .fields #[.ref a, .int 0 0] } } : Shared) = s2
  have I2 : Inv X pins σ H1 s2 := by
    rw [← hs2]
    exact I1.kept (t' := s1.toks) fun b o e => Heap.get?_push_of_some _ e
  have st2 : s2.heap.IsListIter it a 0 := by
    rw [← hs2, ← hit]
    exact ⟨_, Heap.get?_push_size _ rfl, rfl, rfl⟩
  refine wpAny_newObj_type (newEnv_comp ?_) (by show 0 ≤ sizeLine; decide)
  generalize hD : s2.heap.objs.size = D
  have hDn : H1 D = none := I2.hok.fresh (Nat.le_of_eq hD)
  generalize hs3 : ({ s2 with heap := s2.heap.push { cls := .type "list", data := .seq ([] : List Value).toArray } } : Shared) = s3
  have I3 : Inv X pins σ (upd H1 D (.lst [])) s3 := by
    rw [← hs3]
    refine I2.laid (t' := s2.toks) (fun b o e => Heap.get?_push_of_some _ e) (Nat.le_of_eq hD) ⟨Nat.zero_le _, [], 0, .nil, ?_⟩
    rw [← hD]
    exact Heap.get?_push_size _ rfl
  have itlt : it < s2.heap.objs.size := by
    obtain ⟨o, e, _⟩ := st2
    exact Heap.lt_size e
  have nDi : it ≠ D := by rw [← hD]; exact Nat.ne_of_lt itlt
  have k23 : ∀ b o, s2.heap.get? b = some o → s3.heap.get? b = some o := fun b o e => by
    rw [← hs3]
    exact Heap.get?_push_of_some _ e
  have st3 : s3.heap.IsListIter it a 0 := st2.at (k23 it)
  have f3 : ∀ b ∈ [it], FpOk X pins (upd H1 D (.lst [])) b ∧ b < s3.heap.objs.size := fun b hb => by
    rw [List.mem_singleton.mp hb]
    refine ⟨⟨?_, fit.2⟩, ?_⟩
    · rw [upd_ne nDi]
      exact itn
    · rw [← hs3]
      show it < (s2.heap.push _).objs.size
      rw [Heap.size_push]
      exact Nat.lt_succ_of_lt itlt
  have I4 := block_start I3 ok hN f3
  have hq3 : SqL X.K (upd H1 D (.lst [])) a (bs.map V.bl) := (sameUpd hDn).seq hq
  generalize hH3 : upd H1 D (.lst []) = H3 at I3 I4 f3 hq3
  have pg := hg s3 H3 s3.heap.objs.size (cellsFrom (s3.heap.objs.size + 1) scope.names (cloFrom X.env.cells scope.names [])) [it]
  have pt := ht s3 H3 s3.heap.objs.size (cellsFrom (s3.heap.objs.size + 1) scope.names (cloFrom X.env.cells scope.names [])) [it]
  have pe := he s3 H3 s3.heap.objs.size (cellsFrom (s3.heap.objs.size + 1) scope.names (cloFrom X.env.cells scope.names [])) [it]
  show codeAny _ _ (.compStart (.ListComp (.Name x p1) [⟨.Name x p2, iter, [.Name x p4], 0⟩] scope pos) 0 (.ref it) (.ref D) (compEnvC scope (cellsFrom (s3.heap.objs.size + 1) scope.names (cloFrom X.env.cells scope.names [])) s3.heap.objs.size X.env)) _ { s3 with heap := pushCells (s3.heap.push { cls := .type "dict", data := .dict #[] }) scope.names }
  generalize hce : compEnvC scope (cellsFrom (s3.heap.objs.size + 1) scope.names (cloFrom X.env.cells scope.names [])) s3.heap.objs.size X.env = ce at I4 pg pt pe ⊢
  have cL : ce.locals = s3.heap.objs.size := by subst hce; rfl
  generalize hs4 : ({ s3 with heap := pushCells (s3.heap.push { cls := .type "dict", data := .dict #[] }) scope.names } : Shared) = s4 at I4 ⊢
  have st4 : s4.heap.IsListIter it a 0 := st3.at fun o e => by
    rw [← hs4]
    exact pushCells_keeps _ _ _ _ (Heap.get?_push_of_some _ e)
  -- the handled exception in the block
  have hs3g : s3.heap.get? x1 = some o1 := hc.stay I3
  have nx : x1 ≠ it := fun z => by
    have e := hc.stay I1
    rw [z] at e
    exact absurd (Heap.lt_size e) (by rw [hit]; exact Nat.lt_irrefl _)
  have hb : HotB (X.blk s3 H3 scope ce [it]) x1 o1 := ⟨hc.hot, hs3g, hc.no I3, fun m => by
    rcases List.mem_cons.mp (I3.stkSub x1 m) with z | z
    · exact absurd (Heap.lt_size hc.get) (by rw [z]; exact Nat.not_lt_of_le I3.ok.above)
    · exact hc.nofs z, fun m => nx (List.mem_singleton.mp m)⟩
  have stat : ∀ {σ' : L2.St} {H' : Hp} {s' : Shared}, Inv (X.blk s3 H3 scope ce [it]) [] σ' H' s' → H' it = none → ∀ b ∈ [it], FpOk (X.blk s3 H3 scope ce [it]) [] H' b := fun {σ' H' s'} I' hn b hb => by
    have e := List.mem_singleton.mp hb
    subst e
    exact ⟨hn, (I'.ok.exf b hb).1, I'.ok.exfs b hb, .inl hb, fun x c e => (I'.ok.exf b hb).2 x c e, fun p hp => absurd (show p ∈ ([] : List (Addr × Obj)) ++ [] from hp) (by simp)⟩
  have acc0 : (bs.take 0).filter id = [] := rfl
  have hlk : (wipe σ (own.map (·.2)))[i]? = some none := by
    have hl : i < (wipe σ (own.map (·.2))).length := by rw [wipe_length, I.len]; exact hil
    cases e : (wipe σ (own.map (·.2)))[i]? with
    | none => rw [List.getElem?_eq_none_iff] at e; omega
    | some z =>
      cases z with
      | none => rfl
      | some v => exact absurd hx (wipe_some e).2
  have loop : codeAny (model X.prog X.w) X.A (.compLoop (.ListComp (.Name x p1) [⟨.Name x p2, iter, [.Name x p4], 0⟩] scope pos) 0 (.ref it) (.ref D) ce) (compPost (model X.prog X.w) X.A X.xe none (fun v s' => EP X pins σ Q v s') (.ref D) s3.heap.objs.size) s4 := by
    refine compLoop_any (fun n s' => ∃ k, Inv (X.blk s3 H3 scope ce [it]) [] (wipe σ (own.map (·.2))) (upd H3 D (.lst (((bs.take k).filter id).map V.bl))) s' ∧ s'.heap.IsListIter it a k ∧ k ≤ bs.length ∧ n = bs.length - k) ?_ bs.length ⟨0, ?_, st4, Nat.zero_le _, rfl⟩
    · rintro n s5 ⟨k, I5, st5, hk, rfl⟩
      have nH3 : H3 it = none := (f3 it List.mem_cons_self).1.1
      have n5 : upd H3 D (.lst (((bs.take k).filter id).map V.bl)) it = none := by rw [upd_ne nDi]; exact nH3
      have hq5 : SqL X.K (upd H3 D (.lst (((bs.take k).filter id).map V.bl))) a (bs.map V.bl) := by
        rw [← hH3, upd_upd]
        exact (sameUpd hDn).seq hq
      obtain ⟨its5, rv5, p5, hz5⟩ := I5.list hq5
      have hl5 : its5.length = bs.length := by rw [← rv5.length, List.length_map]
      obtain ⟨f0, f1, f2, f3', f4, f5⟩ := stat I5 n5 it List.mem_cons_self
      by_cases hend : k = bs.length
      · -- no item is left
        subst hend
        refine next_list_end_hot (hb.at I5) nx st5 p5.isList (by simp [hl5]) fun h' kk => ?_
        have I6 : Inv (X.blk s3 H3 scope ce [it]) [] (wipe σ (own.map (·.2))) (upd H3 D (.lst (((bs.take bs.length).filter id).map V.bl))) { s5 with heap := h' } := I5.turned (t' := s5.toks) (fun b o nb e => kk b o nb e) f0 f1 f3' f4 f5
        have I7 : Inv X pins σ (upd H3 D (.lst (((bs.take bs.length).filter id).map V.bl))) { s5 with heap := h' } := I3.call' (ch := [it]) I6.os I6.base I6.hok I6.bare fun b hb => ⟨(f3 b hb).1.2.2.2.1, (f3 b hb).1.2.1, (f3 b hb).1.2.2.2.2.1, (f3 b hb).1.2.2.2.2.2⟩
        have nC : (upd H3 D (.lst (((bs.take bs.length).filter id).map V.bl))) s3.heap.objs.size = none := by
          have z := I6.free
          rw [show (X.blk s3 H3 scope ce [it]).env.locals = s3.heap.objs.size from cL] at z
          exact z
        obtain ⟨m, hn, _⟩ := I6.loc
        have hn : h'.Ns ce.locals m := hn
        rw [cL] at hn
        obtain ⟨g0, g1, g2, g3, g4, g5⟩ := I3.fpOk (Nat.le_refl _) nC
        refine ⟨m, hn, fun h'' sb => ⟨.ref D, _, I7.turned (t' := s5.toks) (fun b o hb e => (sb.2 b hb).trans e) g0 g1 g3 g4 g5, rfl, ?_⟩⟩
        have z := q D hDn
        rw [List.take_length, ← hH3, upd_upd]
        exact z
      · have hlt : k < bs.length := by omega
        have hx5 : (bs.map V.bl)[k]? = some (.bl bs[k]) := by rw [List.getElem?_map, List.getElem?_eq_getElem hlt]; rfl
        obtain ⟨u, hu, ru⟩ := rv5.get hx5
        cases ru
        refine wpAny_pyNext_list_item st5 p5.isList (x := .bool bs[k]) (by simpa using hu) fun h' st' sb => ?_
        have I6 : Inv (X.blk s3 H3 scope ce [it]) [] (wipe σ (own.map (·.2))) (upd H3 D (.lst (((bs.take k).filter id).map V.bl))) { s5 with heap := h' } := I5.turned (t' := s5.toks) (fun b o hb e => (sb.2 b hb).trans e) f0 f1 f3' f4 f5
        obtain ⟨o, e, c, d⟩ := id st'
        refine go_of (s := { s5 with heap := h' }) e c d (by decide) ?_
        have objs : ∀ b ∈ [it], ∃ o, h'.get? b = some o ∧ ∀ v, o.data ≠ .cell v := fun b hb => by
          rw [List.mem_singleton.mp hb]
          exact ⟨o, e, fun v z => by rw [d] at z; cases z⟩
        have I6' := I6.pinned (stat I6 n5) objs
        have pin2 : ∀ {σ' : L2.St} {H' : Hp} {s' : Shared}, Inv (X.blk s3 H3 scope ce [it]) ([] ++ pinsAt [it] h') σ' H' s' → s'.heap.IsListIter it a (k + 1) := fun {σ' H' s'} I' => st'.at fun o e => (I'.pin (it, o) (List.mem_append_right _ (List.mem_append_right _ (mem_pinsAt List.mem_cons_self e)))).1
        refine thnF (pg.run _ _ _ _ (.bl bs[k]) (.bool bs[k]) (fun σ2 H2 => σ2 = (wipe σ (own.map (·.2))).set i (some (.bl bs[k])) ∧ H2 = upd H3 D (.lst (((bs.take k).filter id).map V.bl))) I6' rfl ⟨rfl, rfl⟩) fun _ s8 ⟨σ8, H8, I8, e8, e8'⟩ => ?_
        subst e8 e8'
        have hli : i < (wipe σ (own.map (·.2))).length := by rw [wipe_length, I.len]; exact hil
        have hsl : ((wipe σ (own.map (·.2))).set i (some (.bl bs[k])))[i]? = some (some (.bl bs[k])) := List.getElem?_set_self hli
        refine thnF (pt.run _ s8 _ _ (fun b H9 => b = bs[k] ∧ H9 = upd H3 D (.lst (((bs.take k).filter id).map V.bl))) I8 ⟨_, hsl, _, rfl, rfl, rfl⟩) fun b s9 ⟨H9, I9, e9, e9'⟩ => ?_
        subst e9 e9'
        -- the turn's end
        have tk : (bs.take (k + 1)).filter id = (bs.take k).filter id ++ (if bs[k] = true then [bs[k]] else []) := by
          rw [List.take_succ, List.getElem?_eq_getElem hlt, List.filter_append]
          cases bs[k] <;> rfl
        have fin : ∀ {s' : Shared}, Inv (X.blk s3 H3 scope ce [it]) ([] ++ pinsAt [it] h') ((wipe σ (own.map (·.2))).set i (some (.bl bs[k]))) (upd H3 D (.lst (((bs.take (k + 1)).filter id).map V.bl))) s' →
            ∃ m, m < bs.length - k ∧ ∃ k, Inv (X.blk s3 H3 scope ce [it]) [] (wipe σ (own.map (·.2))) (upd H3 D (.lst (((bs.take k).filter id).map V.bl))) s' ∧ s'.heap.IsListIter it a k ∧ k ≤ bs.length ∧ m = bs.length - k := fun {s'} I' => by
          refine ⟨bs.length - (k + 1), by omega, k + 1, (I'.unpinned (pins := [])).weak (by rw [List.length_set]) (fun j v e => ?_), pin2 I', hlt, rfl⟩
          by_cases ji : i = j
          · subst ji
            rw [hlk] at e
            cases e
          · rw [List.getElem?_set_ne ji]
            exact e
        cases hbk : bs[k] with
        | false =>
          rw [hbk] at I9
          simp only [Bool.false_eq_true, if_false]
          refine fin ?_
          rw [tk, hbk]
          simpa using I9
        | true =>
          simp only [if_true]
          refine thnF (pe.run _ s9 _ _ (fun y H10 => y = .bl true ∧ H10 = upd H3 D (.lst (((bs.take k).filter id).map V.bl))) I9 ⟨_, by rw [hsl, hbk], rfl, rfl⟩) fun z s10 ⟨yv, H10, I10, r10, e10, e10'⟩ => ?_
          subst e10 e10'
          refine app_ok (X := X.blk s3 H3 scope ce [it]) I10 upd_same ?_ r10 fun s11 I11 => fin ?_
          · have l1 := List.length_filter_le id (bs.take k)
            rw [List.length_take] at l1
            have l2 : (bs.map V.bl).length = bs.length := List.length_map _
            rw [List.length_map]
            have l3 : min k bs.length = k := Nat.min_eq_left (by omega)
            rw [l3] at l1
            omega
          · rw [tk, hbk]
            rw [upd_upd, hbk] at I11
            simpa using I11
    · show Inv _ _ _ (upd H3 D (.lst [])) s4
      rw [show upd H3 D (.lst []) = H3 from by rw [← hH3, upd_upd]]
      exact I4
  exact codeAny_compStart_list loop (wpAny_pyIter_listiter st4 loop)
end
/-! ### a def that the suite calls, handed the exception -/
structure FnW (P : Program) (w : World) (K : PySem.W.Frag) (mg : Str → Option Value) (base : Heap) (CX : CXT) (k : Nat) (f : Addr) (fd : FuncData) (ps : List Str) (Z : Obj → Prop) (sp : Addr → Sp) : Prop where
  len : ∀ a vs H Q E, sp a vs H Q E → vs.length = ps.length
  run : ∀ (A : Around) (outer : List Env) (s : Shared) (H : Hp) (args : Args) (us : List Value) (vs : List V) (Q : VK) (E : XK) (p : Addr × Obj), RoomH k A → Hot1 A p → PinOk outer H s p → Z p.2 → Env0 P w K mg base A outer s H → BindsTo s fd args (ps.zip us) → Vals vs us → sp p.1 vs H Q E →
    codeAny (model P w) A (.call (.ref f) args) (CR CX outer P w H s Q E) s
section
variable {P : Program} {w : World} {K : PySem.W.Frag} {mg : Str → Option Value} {base : Heap} {CX : CXT} {Z : Obj → Prop}
theorem Fun.okW {x qual : Str} {st : Stmt} {f : Addr} {fd : FuncData} {N ps : List Str} {k : Nat} {sp : Addr → Sp} (F : Fun K x qual st f fd) (S : FnScope N ps (defScope st)) (len : ∀ a vs H Q E, sp a vs H Q E → vs.length = ps.length)
    (hbody : ∀ (cdv : Value) (A : Around) (outer : List Env) (s : Shared) (H : Hp) (vs : List V) (Q : VK) (E : XK) (p : Addr × Obj), Hot1 A p → Z p.2 → HotB (cxH CX P w K mg base N qual (defScope st) f cdv A outer s H E p) p.1 p.2 → RoomH k (A.deeper (envOfC qual (defScope st) s.heap.objs.size f cdv)) → sp p.1 vs H Q E →
      ∃ t, PSs (cxH CX P w K mg base N qual (defScope st) f cdv A outer s H E p) (defBody st) t ∧ t { nx := fun _ H' => Q .non H', rt := Q } (L2.start N vs) H) : FnW P w K mg base CX (k + 1) f fd ps Z sp := by
  obtain ⟨oc, od, kV, doc, pm, an, cdv, ct, osl, rfl, lk, hcd⟩ := F.ex
  refine ⟨len, fun A outer s H args us vs Q E p hr hot hpin hz e0 hb r hsp => ?_⟩
  have hl := len _ _ _ _ _ hsp
  have KX : K.In s.heap := e0.mod.kin.keeps fun b o e => (e0.bs b o e).1
  have lim : s.heap.NoLimit := e0.mod.nolimit.keeps fun b o e => (e0.bs b o e).1
  have hkind : ∀ y ∈ ps.zip us, (defScope st).names.lookup y.1 = some .local ∨ ((defScope st).names.lookup y.1 = some .cell ∧ ((cellsFrom (s.heap.objs.size + 1) (defScope st).names []).lookup y.1).isSome = true) := fun ⟨n, v⟩ hy => by
    rcases S.par n (List.of_mem_zip hy).1 with q | q
    · exact .inl q
    · exact .inr ⟨q, PySem.W.cellsFrom_some _ _ _ (.inl q)⟩
  refine codeAny_call_function hr.depth (KX _ _ lk) rfl S.co S.gen rfl (PySem.W.codeRec_of KX hcd) (hb _ _ _ _ ?_)
  refine wpAny_newFunctionEnv_cells S.kind hkind fun env he s1 x => ?_
  subst he
  refine ⟨lim.keeps x.toInCall.keep, codeAny_func ?_⟩
  have hB : HotB (cxH CX P w K mg base N qual (defScope st) f cdv A outer s H E p) p.1 p.2 := ⟨hot, hpin.get, hpin.free, hpin.nofs, fun z => absurd (show p.1 ∈ ([] : List Addr) from z) (by simp)⟩
  obtain ⟨t, ht, hq⟩ := hbody cdv A outer s H vs Q E p hot hz hB (hr.deeper _) hsp
  have I : Inv (cxH CX P w K mg base N qual (defScope st) f cdv A outer s H E p) [] (L2.start N vs) H s1 := inv_startH S hpin e0 hl r x
  refine wpAny_mono (ht.run [] s1 (L2.start N vs) H _ I hq) (fun fl s' hs => ?_) fun e s' hs => hs
  have fin : ∀ {σ' : L2.St} {H' : Hp} {v : V} {u : Value}, Inv (cxH CX P w K mg base N qual (defScope st) f cdv A outer s H E p) [] σ' H' s' → RelV v u → Q v H' → CE outer P w H s Q u s' :=
    fun {σ' H' v u} J rv q => ⟨v, H', J.os, J.bare, J.base, J.hok, rv, q⟩
  cases fl with
  | ret u =>
    obtain ⟨v, σ', H', J, rv, q⟩ := hs
    exact fin J rv q
  | next =>
    obtain ⟨σ', H', J, q⟩ := hs
    exact fin (v := V.non) (u := Value.none) J rfl q
  | brk =>
    obtain ⟨_, _, _, q⟩ := hs
    exact False.elim q
  | cont =>
    obtain ⟨_, _, _, q⟩ := hs
    exact False.elim q
end
section
variable {X : Cx} {CX : CXT} {k : Nat} {f : Addr} {fd : FuncData} {ps : List Str} {Z : Obj → Prop} {sp : Addr → Sp} {E : L2.St → XK} {x : Str} {q pos : Pos} {e : Expr} {es : List Expr} {t : TA}
/-- its call; (a, oe) is what the suite has pinned -/
theorem pe_callW {a : Addr} {oe : Obj} (F : FnW X.prog X.w X.K X.mg X.base CX k f fd ps Z sp) (hr : RoomH k X.A) (hot : Hot1 X.A (a, oe)) (hp : (a, oe) ∈ X.pn) (hz : Z oe) (hg : Gl X x) (hm : X.mg x = some (.ref f)) (hk : PySem.W.keepIn X.K (.ref f) = true) (hb : Binds X.K fd ps []) (hx : ∀ σ, PassesAt CX X σ (E σ))
    (ha : PA X (e :: es) t) (hdb : (x == ("__debug__" : Str)) = false := by decide) (he : starEach (e :: es) X.env = (false, eval e X.env) :: starEach es X.env := by rfl) (hpl : (backTo pos (starEach es X.env)).any (·.1) = false := by rfl) :
    PE X (.Call (.Name x q) (e :: es) [] pos) (tCallS (sp a) E t) := by
  refine ⟨fun pins s σ H Q I h => ?_⟩
  refine wpAny_Call_Name_kw (ld_glob I hg hm ?_ hdb)
  refine PySem.W.callWith_K (h₀ := X.base) I.ok.mod.kin hk (thn (ha.run pos pins s σ H _ I h) fun us s1 ⟨vs, H1, I1, r, h⟩ => ⟨I1.kIn, ?_⟩) he hpl
  have hl : us.length = ps.length := by rw [← r.length]; exact F.len _ _ _ _ _ h
  have b := hb s1 us I1.kIn (by rw [List.append_nil]; exact hl)
  rw [List.append_nil] at b
  have P1 := I1.pin (a, oe) (List.mem_append_left _ hp)
  have hpin : PinOk X.stack H1 s1 (a, oe) := ⟨P1.1, P1.2.1, fun hm => (List.mem_cons.mp (I1.stkSub a hm)).elim P1.2.2.1 P1.2.2.2.1, P1.2.2.2.2⟩
  refine wpAny_call (codeAny_mono (F.run X.A X.stack s1 H1 ⟨us, []⟩ us vs Q (E σ) (a, oe) hr hot hpin hz I1.env0 b r h) fun r s' hq => ?_)
  cases r with
  | error e => exact hx σ pins H1 s1 e s' I1 hq
  | ok fl =>
    cases fl with
    | ret u => exact I1.after hq
    | next => exact False.elim hq
    | brk => exact False.elim hq
    | cont => exact False.elim hq
/-- isinstance(e, c), e the pinned exception, D its class -/
theorem call_isP {a D : Addr} {oe : Obj} (C : ExcC X.K D) (hp : (a, oe) ∈ X.pn) (hz : Zc (.ref D) none oe) (hf : ∃ vs, oe.data = .fields vs) : CallR X (.builtin "isinstance") (rIsE X.K D a) := by
  intro pins s σ H xs us Q I r h
  obtain ⟨c, cv, b, rfl, hcv, e, q⟩ := h
  obtain ⟨u1, u2, rfl, r1, r2⟩ := vals2 r
  cases r1
  have ec := hcv _ r2
  subst ec
  obtain ⟨hget, _⟩ := I.pin (a, oe) (List.mem_append_left _ hp)
  obtain ⟨vs, hv⟩ := hf
  have J : PySem.W.InstAt s.heap a oe D none := by
    obtain ⟨oc, od, oda, osl⟩ := oe
    obtain ⟨h1, h2⟩ := hz
    dsimp only at h1 h2 hv
    subst h1 h2 hv
    exact ⟨hget, rfl, rfl, trivial⟩
  exact PySem.W.kia_one (PySem.W.handS_kitx_exc C.hg C.hk C.hs C.hd C.ha C.hn C.ht C.hm) I.kIn J e (fun z => nomatch z) fun tk => ⟨.bl b, H, I.kept (t' := tk) fun _ _ z => z, rfl, q⟩
end
end GE

set_option Elab.async false
set_option linter.all false
set_option maxRecDepth 100000
set_option maxHeartbeats 4000000
/-! a method's call in a try's body: what it lets out is told with the slots; a suite's proof that knows the exception -/
namespace GE
open PySem PySem.Spec PyProof.Rows L2
section
variable {X : Cx} {CX : CXT} {k : Nat} {f C : Addr} {fd : FuncData} {ps : List Str} {sp : Sp} {E : L2.St → XK} {m : Str} {pos apos : Pos} {e o : Expr} {es : List Expr} {ta : TE} {t : TA}
def tMethA (C : Addr) (m : Str) (sp : Sp) (E : L2.St → XK) (ta : TE) (t : TA) : TE := fun σ H Q => ta σ H fun x H1 => ∃ a dx fs, x = .ref a ∧ H1 a = some (.ins C dx fs) ∧ fs.lookup m = none ∧ t σ H1 fun vs H2 => sp (x :: vs) H2 Q (E σ)
theorem pe_methA {pl : Sem Bool} (he : PE X o ta) (c : Cls X.K C) (hm : Meth X.K C m f) (F : FnOk X.prog X.w X.K X.mg X.base CX k f fd ps sp) (hr : Room k X.A) (hb : Binds X.K fd ps []) (hx : ∀ σ, PassesAt CX X σ (E σ)) (ha : PA X (e :: es) t)
    (hst : starEach (e :: es) X.env = (false, eval e X.env) :: starEach es X.env := by rfl) (hpl : (backTo pos (starEach es X.env)).any (·.1) = false := by rfl)
    (ht : eval (.Call (.Attribute o m apos) (e :: es) [] pos) X.env = (do
      let ov ← eval o X.env
      standAt apos.atName
      let (f, first) ← holding [ov] (getMethod ov m pl)
      callWith pos f first (backTo pos (starEach (e :: es) X.env)) (backToKw pos (keywordEach [] X.env))) := by rfl) :
    PE X (.Call (.Attribute o m apos) (e :: es) [] pos) (tMethA C m sp E ta t) := by
  refine ⟨fun pins s σ H Q I h => ?_⟩
  refine PySem.W.methodCall_KW (pl := pl) (thn (he.run pins s σ H _ I h) fun u s1 ⟨x, H1, I1, rx, a, dx, fs, ex, ea, l, q⟩ => ?_) ht
  subst ex
  obtain rfl : u = Value.ref a := rx
  refine getmeth_ok I1 ea c hm l ?_
  refine PySem.W.callWith_K (first := [.ref a]) (h₀ := X.base) I.ok.mod.kin hm.kp (thn (ha.run pos pins s1 σ H1 _ I1 q) fun us s2 ⟨vs, H2, I2, r, q2⟩ => ⟨I2.kIn, ?_⟩) hst hpl
  exact run_fnS (us := .ref a :: us) (vs := .ref a :: vs) F hr hb (hx σ) I2 (.cons rfl r) q2
/-- a block's proof that leans on p: its reading says p too -/
theorem pss_when {l : List Stmt} {p : Prop} {t : TS} (h : p → PSs X l t) : PSs X l (fun D σ H => p ∧ t D σ H) := ⟨fun pins s σ H D I q => (h q.1).run pins s σ H D I q.2⟩
end
end GE

set_option Elab.async false
set_option linter.all false
set_option maxRecDepth 100000
set_option maxHeartbeats 4000000
namespace DL
open PySem PySem.Spec PyProof.Rows L2
/-! ### try: return .. except C as e: return .. -/
abbrev DEX := Rho → (RV → Rho → Prop) → (Addr → Rho → Prop) → Prop
structure RX (C : Fc) (te : WX → TE) (de : DEX) : Prop where
  run : ∀ (O : List Addr) (Z : Zp) (ρ : Rho) (σ : L2.St) (H : Hp) (Wr : WX) (Q : VK) (k : RV → Rho → Prop) (kx : Addr → Rho → Prop), Rl C O Z ρ σ H → de ρ k kx → (∀ r ρ' v H', k r ρ' → Go C O Z σ ρ H ρ' H' → RvR C.K H' (C.av Z O) σ v r → Q v H') →
    (∀ c ρ' H', kx c ρ' → Go C O Z σ ρ H ρ' H' → Wr (.ref c) none σ H') → te Wr σ H Q
structure PX (X : Cx) (C : Fc) (W : WX) (e : Expr) (te : WX → TE) (de : DEX) : Prop where
  pe : PE X e (te W)
  rx : RX C te de
def dOf (de : DE) : DEX := fun ρ k _ => de ρ k
def dCallX (S : DSp) (da : DA) : DEX := fun ρ k kx => da ρ fun rs ρ1 => match dArgs rs ρ1 with
  | some (as, []) => S as (fun x ss => k (.d x) ρ1) (fun c => kx c ρ1)
  | _ => False
def dIfX (t : DT) (a b : DEX) : DEX := fun ρ k kx => t ρ fun c ρ1 => cond c (a ρ1 k kx) (b ρ1 k kx)
def dTupX (a : DE) (b : DEX) : DEX := fun ρ k kx => a ρ fun r1 ρ1 => b ρ1 (fun r2 ρ2 => match dData [r1, r2] with
  | some ds => ds.length ≤ sizeLine ∧ k (.d (.tuple ds)) ρ2
  | none => False) kx
section
variable {X : Cx} {C : Fc} {W : WX} {a b c e : Expr} {es : List Expr} {ta : TA} {da : DA} {te : TE} {de : DE} {x : Str} {p pos : Pos} {k : Nat} {f : Addr} {fd : FuncData} {ps : List Str} {S : DSp}
theorem px_of (h : PD X C e te de) : PX X C W e (fun _ => te) (dOf de) := ⟨h.pe, ⟨fun O Z ρ σ H _ Q k _ R hk q _ => h.re.run O Z ρ σ H Q k R hk q⟩⟩
theorem px_call (F : FnOk X.prog X.w X.K X.mg X.base (L2N.CX X.prog X.w) k f fd ps (spD C.K C.tabs S)) (hr : Room k X.A) (hg : Gl X x) (hm : X.mg x = some (.ref f)) (hk : PySem.W.keepIn X.K (.ref f) = true) (hb : Binds X.K fd ps []) (tk : L2N.Takes X W) (ha : PDa X C (e :: es) ta da)
    (hdb : (x == ("__debug__" : Str)) = false := by decide) (he : starEach (e :: es) X.env = (false, eval e X.env) :: starEach es X.env := by rfl) (hpl : (backTo pos (starEach es X.env)).any (·.1) = false := by rfl) :
    PX X C W (.Call (.Name x p) (e :: es) [] pos) (fun W => tCallS (spD C.K C.tabs S) (WE W) ta) (dCallX S da) := by
  refine ⟨pe_callS F hr hg hm hk hb (L2N.passAt tk) ha.pe hdb he hpl, ⟨fun O Z ρ σ H Wr Q k kx R hk q qx => ?_⟩⟩
  refine ha.re.run O Z ρ σ H _ _ R hk fun rs ρ1 vs H1 h1 g1 rv => ?_
  split at h1
  · rename_i as e
    obtain ⟨M, ar, pm⟩ := dArgs_r g1.rl rv e
    cases pm
    exact ⟨C.av Z O, [], as, _, _, ar, fun _ m => (nomatch m), List.nodup_nil, g1.rl.alN, g1.rl.tb, h1, fun x ss v H2 hx kp dv st => q _ _ _ _ hx (g1.new kp) dv, fun c H2 kp hw => qx c ρ1 H2 hw (g1.new kp)⟩
  · exact h1.elim
theorem px_if {tt : TT} {dt : DT} {ta tb : WX → TE} {da db : DEX} (h : PDt X C c tt dt) (ha : PX X C W a ta da) (hb : PX X C W b tb db) : PX X C W (.IfExp c a b pos) (fun W => tIf tt (ta W) (tb W)) (dIfX dt da db) := by
  refine ⟨pe_ifExp h.pe ha.pe hb.pe, ⟨fun O Z ρ σ H Wr Q k kx R hk q qx => ?_⟩⟩
  refine h.re.run O Z ρ σ H _ _ R hk fun c ρ1 H1 h1 g1 => ?_
  cases c with
  | true =>
    rw [if_pos rfl]
    exact ha.rx.run O Z ρ1 σ H1 Wr _ _ _ g1.rl h1 (fun b ρ2 v H2 h2 g2 rv => q _ _ _ _ h2 (g1.trans g2) rv) fun c ρ2 H2 h2 g2 => qx _ _ _ h2 (g1.trans g2)
  | false =>
    rw [if_neg (by decide)]
    exact hb.rx.run O Z ρ1 σ H1 Wr _ _ _ g1.rl h1 (fun b ρ2 v H2 h2 g2 rv => q _ _ _ _ h2 (g1.trans g2) rv) fun c ρ2 H2 h2 g2 => qx _ _ _ h2 (g1.trans g2)
theorem px_tup {x1} {tb : WX → TE} {db : DEX} (ha : PD X C a te de) (hb : PX X C W b tb db) (hs : starEach [a, b] X.env = (false, eval a X.env) :: starEach [b] X.env := by rfl) (hs2 : starEach [b] X.env = (false, eval b X.env) :: starEach [] X.env := by rfl) :
    PX X C W (.Tuple [a, b] x1 pos) (fun W => tTup (tCons te (tCons (tb W) tNil))) (dTupX de db) := by
  refine ⟨pe_tup (pa_cons ha.pe (pa_cons hb.pe pa_nil hs2) hs), ⟨fun O Z ρ σ H Wr Q k kx R hk q qx => ?_⟩⟩
  refine ha.re.run O Z ρ σ H _ _ R hk fun r1 ρ1 v1 H1 h1 g1 rv1 => ?_
  refine hb.rx.run O Z ρ1 σ H1 Wr _ _ _ g1.rl h1 (fun r2 ρ2 v2 H2 h2 g2 rv2 => ?_) fun c ρ2 H2 h2 g2 => qx _ _ _ h2 (g1.trans g2)
  split at h2
  · rename_i ds e
    have dv := dData_all (.cons (rv1.go g2) (.cons rv2 .nil)) e
    exact ⟨by rw [dv.length]; exact h2.1, fun p hp => q _ _ _ _ h2.2 ((g1.trans g2).new (Kp.new hp)) (Dv.tupNew hp g2.rl.alN dv)⟩
  · exact h2.elim
end
/-! the suite: slot i holds the exception -/
structure RW (C : Fc) (i : Nat) (a : Addr) (te : TE) (de : DE) : Prop where
  run : ∀ (O : List Addr) (Z : Zp) (ρ : Rho) (σ : L2.St) (H : Hp) (Q : VK) (k : RV → Rho → Prop), σ[i]? = some (some (.ref a)) → Rl C O Z ρ σ H → de ρ k → (∀ r ρ' v H', k r ρ' → Go C O Z σ ρ H ρ' H' → RvR C.K H' (C.av Z O) σ v r → Q v H') → te σ H Q
structure PZ (X : Cx) (C : Fc) (i : Nat) (a : Addr) (e : Expr) (te : TE) (de : DE) : Prop where
  pe : PE X e te
  rw : RW C i a te de
def dWd (x : Str) : DE := fun ρ k => k (.d (.str x)) ρ
def Zw (c : Addr) : Obj → Prop := fun o => Zc (.ref c) none o ∧ ∃ vs, o.data = .fields vs
def spWord (x : Str) : Addr → Sp := fun a vs H Q _ => vs = [.ref a] ∧ ∀ H', Kp H H' [] → Q (.str x) H'
theorem pass0At {X : Cx} {E : L2.St → XK} : ∀ σ, PassesAt CX0 X σ (E σ) := fun _ _ _ _ _ _ _ h => h.elim
theorem takesF {X : Cx} : L2N.Takes X (fun _ _ _ _ => False) := fun _ _ ⟨_, _, _, _, _, _, _, _, _, _, _, _, _, _, _, _, w⟩ => w.elim
section
variable {X : Cx} {C : Fc} {i : Nat} {a : Addr} {e e2 : Expr} {te : TE} {de : DE} {x y : Str} {pn : List (Addr × Obj)} {oe : Obj} {p p2 pos : Pos} {f : Addr} {fd : FuncData}
theorem pz_of (h : PD X C e te de) : PZ X C i a e te de := ⟨h.pe, ⟨fun O Z ρ σ H Q k _ R hk q => h.re.run O Z ρ σ H Q k R hk q⟩⟩
/-- _law_word(e) -/
theorem pz_word {c : Addr} (G : GE.FnW X.prog X.w X.K X.mg X.base CX0 1 f fd ["e"] (Zw c) (spWord x)) (hr : Room 1 X.A) (hz : L2N.Zn (.ref c) none oe) (hf : ∃ vs, oe.data = .fields vs) (hN : X.N.Nodup) (hi : X.N[i]? = some "e") (hl : Loc X.env.scope "e")
    (hg : Gl X y) (hm : X.mg y = some (.ref f)) (hk : PySem.W.keepIn X.K (.ref f) = true) (hb : Binds X.K fd ["e"] []) (hdb : (y == ("__debug__" : Str)) = false := by decide) (he : starEach [.Name "e" p2] X.env = (false, eval (.Name "e" p2) X.env) :: starEach [] X.env := by rfl) (hpl : (backTo pos (starEach [] X.env)).any (·.1) = false := by rfl)
    (hv : PE (X.suite a ((a, oe) :: pn)) (.Name "e" p2) (tVar i)) :
    PZ (X.suite a ((a, oe) :: pn)) C i a (.Call (.Name y p) [.Name "e" p2] [] pos) (tCallS (spWord x a) (fun _ => E0) (tCons (tVar i) tNil)) (dWd x) := by
  refine ⟨GE.pe_callW (X := X.suite a ((a, oe) :: pn)) (E := fun _ => E0) (a := a) (oe := oe) G ⟨hr.dp, hr.un⟩ ⟨rfl, hf.elim fun vs e => ⟨vs, e, hz.2.2 vs e⟩⟩ List.mem_cons_self ⟨hz.zc, hf⟩ hg hm hk hb pass0At (pa_cons hv pa_nil he) hdb he hpl, ⟨fun O Z ρ σ H Q k ei R hk q => ?_⟩⟩
  exact ⟨_, ei, rfl, fun H' kp => q _ _ _ _ hk ((Go.refl R).new kp) (.str _)⟩
theorem pz_tup {x1} {te2 : TE} {de2 : DE} (ha : PD X C e te de) (hb : PZ X C i a e2 te2 de2) (hs : starEach [e, e2] X.env = (false, eval e X.env) :: starEach [e2] X.env := by rfl) (hs2 : starEach [e2] X.env = (false, eval e2 X.env) :: starEach [] X.env := by rfl) :
    PZ X C i a (.Tuple [e, e2] x1 pos) (tTup (tCons te (tCons te2 tNil))) (fun ρ k => de ρ fun r1 ρ1 => de2 ρ1 fun r2 ρ2 => match dData [r1, r2] with
      | some ds => ds.length ≤ sizeLine ∧ k (.d (.tuple ds)) ρ2
      | none => False) := by
  refine ⟨pe_tup (pa_cons ha.pe (pa_cons hb.pe pa_nil hs2) hs), ⟨fun O Z ρ σ H Q k ei R hk q => ?_⟩⟩
  refine ha.re.run O Z ρ σ H _ _ R hk fun r1 ρ1 v1 H1 h1 g1 rv1 => ?_
  refine hb.rw.run O Z ρ1 σ H1 _ _ ei g1.rl h1 fun r2 ρ2 v2 H2 h2 g2 rv2 => ?_
  split at h2
  · rename_i ds e
    have dv := dData_all (.cons (rv1.go g2) (.cons rv2 .nil)) e
    exact ⟨by rw [dv.length]; exact h2.1, fun p hp => q _ _ _ _ h2.2 ((g1.trans g2).new (Kp.new hp)) (Dv.tupNew hp g2.rl.alN dv)⟩
  · exact h2.elim
theorem Rl.set_n {O : List Addr} {Z : Zp} {ρ : Rho} {σ : L2.St} {H : Hp} (R : Rl C O Z ρ σ H) (i : Nat) (v : Option V) : Rl C O Z (ρ.set i none) (σ.set i v) H := by
  refine ⟨R.fr, R.own, R.sub, R.tb, R.al, R.alB, by rw [List.length_set, List.length_set]; exact R.len, fun j dv e => ?_, R.gA, R.gO, R.zz, fun j l a s s' e1 e2 e3 e4 => ?_⟩
  · rcases get_set e with ⟨e2, q, z⟩ | ⟨n, e⟩
    · cases q
    · rw [List.getElem?_set_ne n]
      exact R.sl j dv e
  · rcases get_set e3 with ⟨_, q, _⟩ | ⟨n, e3⟩
    · cases q
    rcases get_set e4 with ⟨_, q, _⟩ | ⟨m, e4⟩
    · cases q
    rw [List.getElem?_set_ne n] at e1
    rw [List.getElem?_set_ne m] at e2
    exact R.ds j l a s s' e1 e2 e3 e4
def dTry (i : Nat) (wd : Addr → Option Str) (de : DEX) (sw : Str → DE) : DS := fun DD ρ => de ρ DD.rt fun c ρ' => ∃ w, wd c = some w ∧ i < ρ'.length ∧ sw w (ρ'.set i none) DD.rt
theorem pss_ex {l : List Stmt} {α β : Type} {q : α → β → Prop} {t : α → β → TS} (h : ∀ c w, q c w → PSs X l (t c w)) : PSs X l (fun D σ H => ∃ c w, q c w ∧ t c w D σ H) :=
  ⟨fun pins s σ H D I ⟨c, w, z, r⟩ => (h c w z).run pins s σ H D I r⟩
/-- try: return e, except CLS as n: return e2 -/
theorem pds_try {wd : Addr → Option Str} {ce : Addr} {cn n : Str} {np pos' pr pr2 : Pos} {te : WX → TE} {de : DEX} {ts : Addr → Str → TE} {sw : Str → DE} (hs : X.stack = X.env :: X.outer) (hf : X.env.frame = some X.env.locals) (hN : X.N.Nodup) (hi : X.N[i]? = some n) (hln : X.env.kindOf n = some .local) (hc : L2.Names X cn (.ref ce))
    (em : ∀ c w, wd c = some w → PySem.W.exmOne C.K (.ref c) (.ref ce) = some true)
    (hb : ∀ (W : WX) (pn : List (Addr × Obj)) (xe : Value → Shared → Prop), L2N.Takes (X.tr pn xe) W → PX (X.tr pn xe) C W e te de)
    (hsu : ∀ (c : Addr) (w : Str) (a : Addr) (oe : Obj) (pn : List (Addr × Obj)), wd c = some w → L2N.Zn (.ref c) none oe → (∃ vs, oe.data = .fields vs) → PZ (X.suite a ((a, oe) :: pn)) C i a e2 (ts a w) (sw w)) (hR : ∀ w a, RW C i a (ts a w) (sw w)) (hKC : X.K = C.K := by rfl) :
    PDs X C (.Try [.Return (some e) pr] [.ExceptHandler (some (.Name cn np)) (some n) [.Return (some e2) pr2] pos'] [] [] pos)
      (fun D σ H => tRet (te (L2.wAs C.K (.ref ce) i (fun a cls d D σ H => ∃ c w, (cls = .ref c ∧ d = none ∧ wd c = some w) ∧ tRet (ts a w) D σ H) (fun _ _ _ _ => False) D)) D σ H) (dTry i wd de sw) := by
  rw [← hKC]
  refine ⟨L2N.ps_try_as hs hf hN hi hln hc takesF (fun W pn xe tk _ => pss_one (ps_ret (hb W pn xe tk).pe)) (fun a oe cls d pn hz hd => pss_ex fun c w h => ?_), ⟨fun O Z D DD ρ σ H R c hk => ?_⟩⟩
  · obtain ⟨rfl, rfl, ew⟩ := h
    exact pss_one (ps_ret (hsu c w a oe pn ew hz hd).pe)
  · have hrx : RX C te de := (hb (fun _ _ _ _ => True) [] (fun _ _ => True) (fun _ _ _ => trivial)).rx
    refine hrx.run O Z ρ σ H _ _ _ _ R hk (fun r ρ' v H' h g rv => c.rt O ρ' σ H' v r g.rl rv h) fun cl ρ' H' ⟨w, ew, il, h⟩ g => ?_
    refine ⟨true, by rw [hKC]; exact em cl w ew, fun _ a ha => ⟨cl, w, ⟨rfl, rfl, ew⟩, ?_⟩, fun z => nomatch z⟩
    have R2 := g.rl.set_n i (some (.ref a))
    exact (hR w a).run O Z _ _ H' _ _ (List.getElem?_set_self (by rw [g.rl.len]; exact il)) R2 h fun r ρ2 v H2 h2 g2 rv => c.rt O ρ2 _ H2 v r g2.rl rv h2
end
section
variable {ρ ρ1 ρ2 : Rho} {k : RV → Rho → Prop} {kx : Addr → Rho → Prop} {a b : DEX} {t : DT} {de : DE} {da : DA} {S : DSp}
def ifXK (a b : DEX) (k : RV → Rho → Prop) (kx : Addr → Rho → Prop) (c : Bool) (ρ1 : Rho) : Prop := cond c (a ρ1 k kx) (b ρ1 k kx)
theorem dIfX_e : dIfX t a b ρ k kx = t ρ (ifXK a b k kx) := rfl
theorem ifXK_t : ifXK a b k kx true ρ = a ρ k kx := rfl
theorem ifXK_f : ifXK a b k kx false ρ = b ρ k kx := rfl
theorem dOf_e : dOf de ρ k kx = de ρ k := rfl
def callXR (k : RV → Rho → Prop) (ρ : Rho) (x : PyData) (_ : List (List PyData)) : Prop := k (.d x) ρ
theorem callXR_a {x : PyData} {ss : List (List PyData)} : callXR k ρ x ss = k (.d x) ρ := rfl
def callXX (kx : Addr → Rho → Prop) (ρ : Rho) (c : Addr) : Prop := kx c ρ
theorem callXX_a {c : Addr} : callXX kx ρ c = kx c ρ := rfl
def callXK1 (S : DSp) (k : RV → Rho → Prop) (kx : Addr → Rho → Prop) (ρ : Rho) : Option (List AV × List Nat) → Prop
  | some (as, []) => S as (callXR k ρ) (callXX kx ρ)
  | _ => False
theorem callXK1_a {as : List AV} : callXK1 S k kx ρ (some (as, [])) = S as (callXR k ρ) (callXX kx ρ) := rfl
def callXK (S : DSp) (k : RV → Rho → Prop) (kx : Addr → Rho → Prop) (rs : List RV) (ρ : Rho) : Prop := callXK1 S k kx ρ (dArgs rs ρ)
theorem callXK_a {rs : List RV} : callXK S k kx rs ρ = callXK1 S k kx ρ (dArgs rs ρ) := rfl
theorem dCallX_e : dCallX S da ρ k kx = da ρ (callXK S k kx) := by
  have : callXK S k kx = fun rs ρ1 => match dArgs rs ρ1 with
    | some (as, []) => S as (fun x ss => k (.d x) ρ1) (fun c => kx c ρ1)
    | _ => False := by
    funext rs ρ1
    unfold callXK callXK1
    split <;> rfl
  rw [this]
  rfl
def tryX (i : Nat) (wd : Addr → Option Str) (sw : Str → DE) (DD : DEnds) (c : Addr) (ρ' : Rho) : Prop := ∃ w, wd c = some w ∧ i < ρ'.length ∧ sw w (ρ'.set i none) DD.rt
theorem dTry_e {i : Nat} {wd : Addr → Option Str} {sw : Str → DE} {DD : DEnds} : dTry i wd a sw DD ρ = a ρ DD.rt (tryX i wd sw DD) := rfl
def tupX2 (r1 : RV) (k : RV → Rho → Prop) (r2 : RV) (ρ2 : Rho) : Prop := match dData [r1, r2] with
  | some ds => ds.length ≤ sizeLine ∧ k (.d (.tuple ds)) ρ2
  | none => False
theorem tupX2_a {x y : PyData} : tupX2 (.d x) k (.d y) ρ = k (.d (.tuple [x, y])) ρ := by
  show (2 ≤ sizeLine ∧ _) = _
  simp
  intro _
  decide
def tupX1 (b : DEX) (k : RV → Rho → Prop) (kx : Addr → Rho → Prop) (r1 : RV) (ρ1 : Rho) : Prop := b ρ1 (tupX2 r1 k) kx
theorem tupX1_a {r1 : RV} : tupX1 b k kx r1 ρ = b ρ (tupX2 r1 k) kx := rfl
theorem dTupX_e : dTupX de b ρ k kx = de ρ (tupX1 b k kx) := rfl
theorem dWd_e {x : Str} : dWd x ρ k = k (.d (.str x)) ρ := rfl
end
theorem rw_word {C : Fc} {i : Nat} {a : Addr} {x : Str} : RW C i a (tCallS (spWord x a) (fun _ => E0) (tCons (tVar i) tNil)) (dWd x) :=
  ⟨fun O Z ρ σ H Q k ei R hk q => ⟨_, ei, rfl, fun H' kp => q _ _ _ _ hk ((Go.refl R).new kp) (.str _)⟩⟩
abbrev tWd (i : Nat) (a : Addr) (x : Str) : TE := tCallS (spWord x a) (fun _ => E0) (tCons (tVar i) tNil)
end DL

set_option Elab.async false
set_option linter.all false
set_option maxRecDepth 100000
set_option maxHeartbeats 4000000
namespace DL
open PySem PySem.Spec PyProof.Rows L2
/-! ### list + list as a new list; no list at all as data -/
def catF3 (Q : List PyData → Rho → Prop) (ρ : Rho) (x y : Option PyData) : Prop := match x, y with
  | some (.list a), some (.list b) => a.length + b.length ≤ sizeLine ∧ Q (a ++ b) ρ
  | _, _ => False
theorem catF3_a {Q : List PyData → Rho → Prop} {ρ : Rho} {a b : List PyData} : catF3 Q ρ (some (.list a)) (some (.list b)) = (a.length + b.length ≤ sizeLine ∧ Q (a ++ b) ρ) := rfl
def catF2 (r1 : RV) (Q : List PyData → Rho → Prop) (r2 : RV) (ρ : Rho) : Prop := catF3 Q ρ (r1.view ρ) (r2.view ρ)
theorem catF2_a {r1 r2 : RV} {Q : List PyData → Rho → Prop} {ρ : Rho} : catF2 r1 Q r2 ρ = catF3 Q ρ (r1.view ρ) (r2.view ρ) := rfl
def catF1 (db : DE) (Q : List PyData → Rho → Prop) (r1 : RV) (ρ1 : Rho) : Prop := db ρ1 (catF2 r1 Q)
theorem catF1_a {db : DE} {r1 : RV} {Q : List PyData → Rho → Prop} {ρ : Rho} : catF1 db Q r1 ρ = db ρ (catF2 r1 Q) := rfl
def dCatF (da db : DE) : DF := fun ρ Q => da ρ (catF1 db Q)
theorem dCatF_e {da db : DE} {Q : List PyData → Rho → Prop} {ρ : Rho} : dCatF da db ρ Q = da ρ (catF1 db Q) := rfl
section
variable {X : Cx} {C : Fc} {a b : Expr} {ta tb : TE} {da db : DE} {pos : Pos}
theorem Dz.go {O : List Addr} {Z : Zp} {σ : L2.St} {ρ ρ' : Rho} {H H' : Hp} {v : V} {r : RV} {d : PyData} (h : RvR C.K H (C.av Z O) σ v r) (g : Go C O Z σ ρ H ρ' H') (e : r.view ρ' = some d) : Dz C.K H' (C.av Z O) v d := (h.go g).dz g.rl e
theorem pf_cat (ha : PD X C a ta da) (hb : PD X C b tb db) : PF X C (.BinOp a .Add b pos) (tOp rCat ta tb) (dCatF da db) := by
  refine ⟨pe_op op_cat ha.pe hb.pe, ⟨fun O Z ρ σ H Q k R hk q => ?_⟩⟩
  refine ha.re.run O Z ρ σ H _ _ R hk fun r1 ρ1 v1 H1 h1 g1 rv1 => ?_
  refine hb.re.run O Z ρ1 σ H1 _ _ g1.rl h1 fun r2 ρ2 v2 H2 h2 g2 rv2 => ?_
  have h2 : catF3 k ρ2 (r1.view ρ2) (r2.view ρ2) := h2
  unfold catF3 at h2
  split at h2
  · rename_i xs ys e1 e2
    obtain ⟨p1, us, rfl, l1, d1⟩ := (Dz.go rv1 g2 e1).list
    obtain ⟨p2, ws, rfl, l2, d2⟩ := (rv2.dz g2.rl e2).list
    refine ⟨p1, p2, us, ws, rfl, rfl, l1, l2, by rw [d1.length, d2.length]; exact h2.1, fun p hp => ?_⟩
    obtain ⟨R3, h0, n⟩ := g2.rl.guard_new (vs := us ++ ws) hp
    exact q _ _ _ _ _ h2.2 ((g1.trans g2).new (Kp.new hp)) R3 n h0 upd_same ((((d1.append d2).add hp).sub guard_cons).kp0 (Kp.new hp))
  · exact h2.elim
end
end DL

set_option Elab.async false
set_option maxRecDepth 100000
set_option maxHeartbeats 4000000
/-! list(reversed(xs)); xs != ys where both are equal -/
namespace GE
open PySem PySem.Spec PyProof.Rows L2
section
variable {prog : Program} {w : World} {A : Around} {E : Value → Shared → Prop} {s : Shared}

/-- the empty list at S takes all that the reversed iterator it gives -/
theorem fillRev {R : Result → Shared → Prop} {it l S : Addr} {items : Array Value} {res : Value} {c₀ : Nat} (hh : A.handled = none)
    (hit : s.heap.IsRevIter it l ((items.size : Int) - 1)) (hl : s.heap.IsList l items) (nli : l ≠ it) (hz : items.size ≤ sizeLine) (nSi : S ≠ it) (nSl : S ≠ l)
    (hS : s.heap.get? S = some { cls := .type "list", data := .seq #[] c₀ })
    (goal : ∀ h' tk acc c', (∀ b o, b ≠ S → b ≠ it → s.heap.get? b = some o → h'.get? b = some o) → h'.get? S = some { cls := .type "list", dict := none, data := .seq acc c', slots := #[] } →
      ItemsOf (fun i v => items[items.size - 1 - i]? = some v) acc items.size → R (.ok (.ret res)) { s with heap := h', toks := tk }) :
    wpAny (model prog w) A.in1 (Builtin.List.listExtendWith (.ref S) (.ref it) res)
      (fun fin s' => match fin with | .done f => R (.ok f) s' | .again c' => c'.quiet = true ∧ codeAny (model prog w) A c' R s') (fun e s' => R (.error e) s') s := by
  have walk := (Walks.listRev (prog := prog) (w := w) (A := A.in1) hh it l nli items).toS
  have ty : s.TypeIs (.ref it) "list_reverseiterator" := hit.typeIs
  have ne1 : Builtin.List.listSameRef (.ref S) (.ref it) = false := by simp [Builtin.List.listSameRef, nSi]
  have nin : S ∉ [it, l] := by
    intro q
    rcases List.mem_cons.mp q with q | q
    · exact nSi q
    · exact nSl (List.mem_singleton.mp q)
  unfold Builtin.List.listExtendWith
  refine wpAny_bind (wpAny_typeOf ty ?_)
  rw [if_neg (by rw [ne1]; decide)]
  refine wpAny_bind (wpAny_pyIter_revIter hit ?_)
  refine wpAny_bind (wpAny_holding ?_)
  unfold Builtin.List.listLengthHint
  refine wpAny_bind (wpAny_specialOf ty RT.nolen_lri ?_)
  show wpAny _ A.in1 (specialOf (Value.ref it) (Str.ofString "__length_hint__") >>= _) _ _ _
  refine wpAny_bind (wpAny_specialOf ty RT.hint_lri ?_)
  generalize hid : ("list_reverseiterator.__length_hint__" : String) = id0
  wp_delta
  rw [show splitId id0 = some ("list_reverseiterator", "__length_hint__") from by subst hid; decide +kernel]
  subst hid
  refine wpAny_bind (wpAny_isInstance (b := true) ty (by rw [isSubtype_type]; kernel_rfl) ?_)
  refine wpAny_pure ?_
  rw [if_neg (by decide)]
  have z0 : (items.size : Int) - 1 - ((0 : Nat) : Int) = (items.size : Int) - 1 := by omega
  refine wpAny_pure ⟨plainId_quiet F.plain_extend_loop _, codeAny_extend_loopS walk hz _ nin _ items.size 0 _ _ _ rfl (Nat.zero_le _) ⟨Nat.zero_le _, by rw [z0]; exact hit, hl⟩ hS (ItemsOf.nil _) fun s' acc' c' hm hS' hacc => ?_⟩
  rw [Moved.eq_with hm]
  refine goal s'.heap s'.toks acc' c' (fun b o hb hb2 e => hm.heap b o (fun mem => ?_) e) hS' hacc
  rcases List.mem_cons.mp mem with q | q
  · exact hb q
  · exact hb2 (List.mem_singleton.mp q)

/-- list(it) of such an iterator -/
theorem listOfRev {it l : Addr} {items : Array Value} {Q : Value → Shared → Prop} (hh : A.handled = none)
    (hit : s.heap.IsRevIter it l ((items.size : Int) - 1)) (hl : s.heap.IsList l items) (nli : l ≠ it) (hz : items.size ≤ sizeLine)
    (goal : ∀ h' tk acc c', (∀ b o, b ≠ it → s.heap.get? b = some o → h'.get? b = some o) → h'.get? s.heap.objs.size = some { cls := .type "list", dict := none, data := .seq acc c', slots := #[] } →
      ItemsOf (fun i v => items[items.size - 1 - i]? = some v) acc items.size → Q (.ref s.heap.objs.size) { s with heap := h', toks := tk }) :
    wpAny (model prog w) A (call (.type "list") [.ref it]) Q E s := by
  obtain ⟨oi, hoi, _⟩ := id hit
  obtain ⟨ol, hol, _⟩ := id hl
  have n1 : s.heap.objs.size ≠ it := Nat.ne_of_gt (Heap.lt_size hoi)
  have n2 : s.heap.objs.size ≠ l := Nat.ne_of_gt (Heap.lt_size hol)
  refine callType_codes (Q₁ := fun obj s₁ => obj = .ref s.heap.objs.size ∧ s₁ = { s with heap := s.heap.push { cls := .type "list", data := .seq #[] } }) F.called_list (F.typeCall_list_1 _) F.entry_list_init
    (code_list_new _ ⟨rfl, rfl⟩) fun obj s₁ made => ?_
  obtain ⟨rfl, rfl⟩ := made
  have hS : (s.heap.push { cls := .type "list", data := .seq #[] }).get? s.heap.objs.size = some { cls := .type "list", data := .seq #[] } := Heap.get?_push_size _ rfl
  refine ⟨⟨_, hS, rfl⟩, F.args_list_init_2 _ _, ?_⟩
  show wpAny _ _ (do let old ← Builtin.List.listItems (.ref s.heap.objs.size); Builtin.List.listUpdate (.ref s.heap.objs.size) (fun _ => #[]); letGo old.toList.reverse; Builtin.List.listExtendWith (.ref s.heap.objs.size) (.ref it) .none) _ _ _
  refine wpAny_bind ?_
  unfold Builtin.List.listItems
  refine wpAny_bind (wpAny_seqItems hS rfl (wpAny_pure ?_))
  refine wpAny_bind (wpAny_updateSeq hS rfl ?_)
  have hS2 := Heap.get?_update_self (Obj.mapSeq (fun _ => (#[] : Array Value))) hS rfl
  have other : ∀ b o, b ≠ s.heap.objs.size → s.heap.get? b = some o → ((s.heap.push { cls := .type "list", data := .seq #[] }).update s.heap.objs.size (Obj.mapSeq (fun _ => (#[] : Array Value)))).get? b = some o :=
    fun b o hb e => (Heap.get?_update_other _ _ (Ne.symm hb)).trans (Heap.get?_push_of_some _ e)
  refine wpAny_bind (wpAny_letGo ?_)
  refine fillRev (A := A.in1) hh (hit.at fun o e => other it o n1.symm e) (by obtain ⟨o, e, r⟩ := hl; exact ⟨o, other l o n2.symm e, r⟩) nli hz n1 n2 hS2 fun h' tk acc c' keep hnew hacc => ?_
  exact ⟨rfl, goal h' tk acc c' (fun b o hb e => keep b o (Nat.ne_of_lt (Heap.lt_size e)) hb (other b o (Nat.ne_of_lt (Heap.lt_size e)) e)) hnew hacc⟩
end

/-- list(reversed(e)), e a list: a new list -/
def tListRev (K : PySem.W.Frag) (te : TE) : TE := fun σ H Q => te σ H fun v H1 => ∃ (a : Addr) (xs : List V), v = .ref a ∧ SqL K H1 a xs ∧ ∀ q, H1 q = none → Q (.ref q) (upd H1 q (.lst xs.reverse))
section
variable {X : Cx}
theorem pe_listRev {e : Expr} {te : TE} {p p2 pos pos2 : Pos} (hc : X.calm = true) (hg : Gl X "list") (hm : X.mg "list" = none) (hg2 : Gl X "reversed") (hm2 : X.mg "reversed" = none) (he : PE X e te)
    (hs : starEach [e] X.env = (false, eval e X.env) :: starEach [] X.env := by rfl)
    (hs2 : starEach [.Call (.Name "reversed" p2) [e] [] pos2] X.env = (false, eval (.Call (.Name "reversed" p2) [e] [] pos2) X.env) :: starEach [] X.env := by rfl) :
    PE X (.Call (.Name "list" p) [.Call (.Name "reversed" p2) [e] [] pos2] [] pos) (tListRev X.K te) := by
  refine ⟨fun pins s σ H Q I h => ?_⟩
  refine Call_ (ld_blt I hg hm boot_list (PyProof.Rows.callWith_type1 (args_cons (Call_ (ld_blt I hg2 hm2 PyProof.Rows.boot_reversed (PyProof.Rows.callWith_type1 (args_cons (thn (he.run pins s σ H _ I h) fun u s1 got => args_nil ?_) hs) hs rfl))) hs2) hs2 rfl))
  obtain ⟨v, H1, I1, r1, a, xs, ev, hq, q⟩ := got
  subst ev
  obtain rfl : u = Value.ref a := r1
  obtain ⟨its, rv, pl, hz⟩ := I1.list hq
  have isl := pl.isList
  obtain ⟨ol, hol, _⟩ := id isl
  have len : its.toArray.size = xs.length := by rw [List.size_toArray, rv.length]
  refine call_reversed_list isl (args_nil ?_)
  have k0 : ∀ b o, s1.heap.get? b = some o → (s1.heap.push (revObj a ((its.toArray.size : Int) - 1))).get? b = some o := fun b o e => Heap.get?_push_of_some _ e
  have hne : a ≠ s1.heap.objs.size := Nat.ne_of_lt (Heap.lt_size hol)
  refine listOfRev (s := { s1 with heap := s1.heap.push (revObj a ((its.toArray.size : Int) - 1)) }) (I1.ok.hd hc) ⟨_, Heap.get?_push_size _ rfl, rfl, rfl⟩ (isl.push _) hne (by rw [len]; exact hz) fun h' tk acc c' keep hnew hacc => ?_
  have old : ∀ b o, s1.heap.get? b = some o → h'.get? b = some o := fun b o e => keep b o (Nat.ne_of_lt (Heap.lt_size e)) (k0 b o e)
  have le : s1.heap.objs.size ≤ (s1.heap.push (revObj a ((its.toArray.size : Int) - 1))).objs.size := by
    refine Nat.le_of_lt (Heap.lt_size (Heap.get?_push_size _ rfl) : s1.heap.objs.size < _)
  refine ⟨.ref (s1.heap.push (revObj a ((its.toArray.size : Int) - 1))).objs.size, _, I1.laid (t' := tk) (o := .lst xs.reverse) old le (show ObjOk X.prog X.w _ h' _ (.lst xs.reverse) from ⟨by rw [List.length_reverse]; exact hz, acc.toList, c', RT.vals_rev rv hacc, ?_⟩), rfl, q _ (I1.hok.fresh le)⟩
  rw [Array.toArray_toList]
  exact hnew
end
end GE

set_option Elab.async false
set_option linter.all false
set_option maxRecDepth 100000
set_option maxHeartbeats 4000000
/-! what the program's functions over terms answer, in plain Lean -/
namespace TM
open PySem
def isNum (d : PyData) (l m : Int) : Bool := match d with
  | .int i => decide (l ≤ i) && decide (i ≤ m)
  | _ => false
def inR (i : Int) : Bool := decide (-999 ≤ i) && decide (i ≤ 999)
def numeralD (d : PyData) : PyData := match d with
  | .int i => if inR i = true then .str (toString i) else .none
  | _ => .none
/-! ### numerals -/
def neg1 (n : Str) : Bool := match n.cps.toList with
  | c :: _ => decide (c = 45)
  | [] => false
def figs (n : Str) : Str := if neg1 n = true then L2.cutS n (some 1) none else n
def FIG : List Nat := [48, 49, 50, 51, 52, 53, 54, 55, 56, 57]
def isDig (s : Str) : Bool := s.cps.toList.all fun c => decide (c ∈ FIG)
def figV (n : Str) : Int := if neg1 n = true then 0 - (NumText.digitsVal (figs n).cps.toList : Int) else (NumText.digitsVal (figs n).cps.toList : Int)
def numOf (n : Str) : Option Int :=
  if n.length = 0 ∨ 4 < n.length then none
  else if figs n = "" ∨ isDig (figs n) = false then none
  else if inR (figV n) = true ∧ (toString (figV n) : Str) = n then some (figV n) else none
def optI : Option Int → PyData
  | some i => .int i
  | none => .none
def numberD (d : PyData) : PyData := match d with
  | .str n => optI (numOf n)
  | _ => .none
theorem mem_fig {c : Nat} : c ∈ FIG ↔ 48 ≤ c ∧ c ≤ 57 := by
  unfold FIG
  simp only [List.mem_cons, List.not_mem_nil, or_false]
  omega
theorem figs_len (n : Str) : (figs n).length ≤ n.length := by
  unfold figs
  split
  · show ((n.cps.toList.drop _).take _).toArray.size ≤ _
    rw [List.size_toArray, List.length_take, List.length_drop]
    exact Nat.le_trans (Nat.min_le_right _ _) (Nat.sub_le _ _)
  · exact Nat.le_refl _
theorem figs_read {n : Str} (h : isDig (figs n) = true) (h1 : figs n ≠ "") (h2 : n.length ≤ 4) : PySem.intText? (figs n) = some (NumText.digitsVal (figs n).cps.toList : Int) := by
  refine PySem.intText_digits (fun c hc => ?_) (fun e => h1 ?_) (Nat.le_trans (figs_len n) (Nat.le_trans h2 (by decide)))
  · unfold isDig at h
    rw [List.all_eq_true] at h
    exact mem_fig.mp (by simpa using h c hc)
  · cases hf : figs n with
    | mk a =>
      rw [hf] at e
      have : a = #[] := by simpa using e
      rw [this]
      rfl
theorem sgn_minus (c : Nat) : ((⟨#[c]⟩ : Str) = Str.ofString "-") ↔ c = 45 := ⟨fun e => by
  have : (⟨#[c]⟩ : Str).cps = #[45] := by rw [e]; rfl
  simpa using this, fun e => by rw [e]; rfl⟩
theorem str_empty (z : Str) : (z = Str.ofString "") ↔ z = "" := Iff.rfl
theorem mem_figs (c : Nat) : (c ∈ (Str.ofString "0123456789").cps) ↔ c ∈ FIG := by
  have : (Str.ofString "0123456789").cps = FIG.toArray := rfl
  rw [this]
  simp
/-! ### signatures, terms -/
abbrev Op := Str × List Str × Str
def rowD (r : Op) : PyData := .tuple [.str r.1, .tuple (r.2.1.map .str), .str r.2.2]
def sigD (sig : List Op) : PyData := .tuple (sig.map rowD)
def kindOf (sig : List Op) (n : Str) : Option (List Str × Str) := if (numOf n).isSome = true then some ([], "num") else (sig.find? fun r => decide (r.1 = n)).map (·.2)
def kindD : Option (List Str × Str) → PyData
  | some (ins, out) => .tuple [.tuple (ins.map .str), .str out]
  | none => .none
inductive Fit : Nat → PyData → Prop
  | tup {n : Nat} {ds : List PyData} : (∀ d ∈ ds, Fit n d) → Fit (n + 1) (.tuple ds)
  | str {n : Nat} {z : Str} : z.length ≤ sizeLine → Fit n (.str z)
  | oth {n : Nat} {d : PyData} : (∀ ds, d ≠ .tuple ds) → (∀ z, d ≠ .str z) → Fit n d
mutual
def sortW (sig : List Op) : PyData → Nat → Option (Str × Nat)
  | .tuple (.str n :: args), left => if left = 0 then none else match kindOf sig n with
    | none => none
    | some (ins, out) => if ins.length = args.length then (sortsW sig args ins (left - 1)).map fun l => (out, l) else none
  | _, _ => none
def sortsW (sig : List Op) : List PyData → List Str → Nat → Option Nat
  | a :: as, i :: is, left => match sortW sig a left with
    | some (o, l) => if o = i then sortsW sig as is l else none
    | none => none
  | _, _, left => some left
end
def sortD : Option (Str × Nat) → PyData
  | some (o, l) => .tuple [.str o, .int (l : Int)]
  | none => .none
def isTerm (sig : List Op) (v : PyData) : Bool := (sortW sig v 200).isSome
theorem find_at {α : Type} {p : α → Bool} : ∀ {l : List α} {i : Nat} {x : α}, l[i]? = some x → p x = true → (∀ j y, j < i → l[j]? = some y → p y = false) → l.find? p = some x
  | a :: l, 0, x, h, hp, _ => by
    cases h
    rw [List.find?_cons, hp]
  | a :: l, i + 1, x, h, hp, hn => by
    have := hn 0 a (Nat.succ_pos _) rfl
    rw [List.find?_cons, this]
    exact find_at (i := i) h hp fun j y hj e => hn (j + 1) y (Nat.succ_lt_succ hj) e
theorem Fit.mono {m n : Nat} {d : PyData} (h : Fit m d) (l : m ≤ n) : Fit n d := by
  induction h generalizing n with
  | tup _ ih =>
    cases n with
    | zero => exact absurd l (by omega)
    | succ n => exact .tup fun d hd => ih d hd (by omega)
  | str h => exact .str h
  | oth a b => exact .oth a b
theorem sortW_zero {sig : List Op} {n : Str} {args : List PyData} : sortW sig (.tuple (.str n :: args)) 0 = none := by
  rw [sortW, if_pos rfl]
theorem sortW_none {sig : List Op} {n : Str} {args : List PyData} {l : Nat} (h : kindOf sig n = none) : sortW sig (.tuple (.str n :: args)) l = none := by
  rw [sortW]
  split
  · rfl
  · rw [h]
theorem sortW_len {sig : List Op} {n out : Str} {ins : List Str} {args : List PyData} {l : Nat} (h : kindOf sig n = some (ins, out)) (e : ¬ ins.length = args.length) : sortW sig (.tuple (.str n :: args)) l = none := by
  rw [sortW]
  split
  · rfl
  · rw [h]
    simp only []
    rw [if_neg e]
theorem sortW_some {sig : List Op} {n out : Str} {ins : List Str} {args : List PyData} {l : Nat} (h : kindOf sig n = some (ins, out)) (e : ins.length = args.length) (l0 : ¬ l = 0) : sortW sig (.tuple (.str n :: args)) l = (sortsW sig args ins (l - 1)).map fun l => (out, l) := by
  rw [sortW, if_neg l0, h]
  simp only []
  rw [if_pos e]
theorem sortW_other {sig : List Op} {d : PyData} {l : Nat} (h : ∀ n args, d ≠ .tuple (.str n :: args)) : sortW sig d l = none := by
  unfold sortW
  split
  · exact absurd rfl (h _ _)
  · rfl
theorem sortsW_nil {sig : List Op} {is : List Str} {l : Nat} : sortsW sig [] is l = some l := by simp [sortsW]
theorem sortsW_cons {sig : List Op} {a : PyData} {as : List PyData} {i : Str} {is : List Str} {l : Nat} : sortsW sig (a :: as) (i :: is) l = match sortW sig a l with
    | some (o, l) => if o = i then sortsW sig as is l else none
    | none => none := by rw [sortsW]
theorem int_succ_ne (n : Nat) : ((n : Int) + 1 = 0) = False := eq_false (by omega)
theorem cut_tail {α : Type} (d : α) (args : List α) : DL.cutD (d :: args) (some 1) none = args := by
  unfold DL.cutD
  have h1 : HT.sIx (d :: args).length 0 (some 1) = 1 := by
    simp [HT.sIx]
  have h2 : HT.sIx (d :: args).length (d :: args).length none = (d :: args).length := by
    simp [HT.sIx]
  rw [h1, h2]
  simp
theorem at_zero {α : Type} (d : α) (args : List α) : L2.atI (d :: args) (0 : Int) = some d := L2.atI_nat (j := 0) rfl
theorem at_one {α : Type} (d e : α) (args : List α) : L2.atI (d :: e :: args) (1 : Int) = some e := L2.atI_nat (j := 1) rfl
theorem at_two {α : Type} (d e f : α) (args : List α) : L2.atI (d :: e :: f :: args) (2 : Int) = some f := L2.atI_nat (j := 2) rfl
theorem isTup_none  : DL.isTup .none = false := rfl
theorem isTup_bool {b : Bool} : DL.isTup (.bool b) = false := rfl
theorem isTup_int {i : Int} : DL.isTup (.int i) = false := rfl
theorem isTup_str {z : Str} : DL.isTup (.str z) = false := rfl
theorem isTup_list {xs : List PyData} : DL.isTup (.list xs) = false := rfl
theorem isTup_tuple {xs : List PyData} : DL.isTup (.tuple xs) = true := rfl
theorem isTup_dict {kvs : List (PyData × PyData)} : DL.isTup (.dict kvs) = false := rfl
theorem isList_none  : DL.isList .none = false := rfl
theorem isList_bool {b : Bool} : DL.isList (.bool b) = false := rfl
theorem isList_int {i : Int} : DL.isList (.int i) = false := rfl
theorem isList_str {z : Str} : DL.isList (.str z) = false := rfl
theorem isList_list {xs : List PyData} : DL.isList (.list xs) = true := rfl
theorem isList_tuple {xs : List PyData} : DL.isList (.tuple xs) = false := rfl
theorem isList_dict {kvs : List (PyData × PyData)} : DL.isList (.dict kvs) = false := rfl
theorem isStr_none  : DL.isStr .none = false := rfl
theorem isStr_bool {b : Bool} : DL.isStr (.bool b) = false := rfl
theorem isStr_int {i : Int} : DL.isStr (.int i) = false := rfl
theorem isStr_str {z : Str} : DL.isStr (.str z) = true := rfl
theorem isStr_list {xs : List PyData} : DL.isStr (.list xs) = false := rfl
theorem isStr_tuple {xs : List PyData} : DL.isStr (.tuple xs) = false := rfl
theorem isStr_dict {kvs : List (PyData × PyData)} : DL.isStr (.dict kvs) = false := rfl
theorem isInt_none  : DL.isInt .none = false := rfl
theorem isInt_bool {b : Bool} : DL.isInt (.bool b) = true := rfl
theorem isInt_int {i : Int} : DL.isInt (.int i) = true := rfl
theorem isInt_str {z : Str} : DL.isInt (.str z) = false := rfl
theorem isInt_list {xs : List PyData} : DL.isInt (.list xs) = false := rfl
theorem isInt_tuple {xs : List PyData} : DL.isInt (.tuple xs) = false := rfl
theorem isInt_dict {kvs : List (PyData × PyData)} : DL.isInt (.dict kvs) = false := rfl
theorem isBool_none  : DL.isBool .none = false := rfl
theorem isBool_bool {b : Bool} : DL.isBool (.bool b) = true := rfl
theorem isBool_int {i : Int} : DL.isBool (.int i) = false := rfl
theorem isBool_str {z : Str} : DL.isBool (.str z) = false := rfl
theorem isBool_list {xs : List PyData} : DL.isBool (.list xs) = false := rfl
theorem isBool_tuple {xs : List PyData} : DL.isBool (.tuple xs) = false := rfl
theorem isBool_dict {kvs : List (PyData × PyData)} : DL.isBool (.dict kvs) = false := rfl
theorem isNon_d {kvs : List (PyData × PyData)} : DL.isNon (.dict kvs) = false := rfl
/-! ### patterns -/
theorem notIn_nn {b : Str} {k : PyData → Prop} : DL.dIn true .none (.tuple [.none, .str b]) k = k (.bool false) := by
  simp [DL.dIn, DL.toV, DL.toVs, L2.inV, L2.eqV]
theorem notIn_sn {a b : Str} {k : PyData → Prop} : DL.dIn true (.str a) (.tuple [.none, .str b]) k = k (.bool (!decide (a = b))) := by
  have h : DL.dIn true (.str a) (.tuple [.none, .str b]) k = k (.bool (!(b == a))) := by
    simp [DL.dIn, DL.toV, DL.toVs, L2.inV, L2.eqV]
  rw [h]
  by_cases e : a = b
  · subst e
    simp
  · have : (b == a) = false := beq_eq_false_iff_ne.mpr (Ne.symm e)
    rw [this, decide_eq_false e]
def LET : List Nat := (List.range 26).map (97 + ·)
theorem mem_lets (c : Nat) : (c ∈ (Str.ofString "abcdefghijklmnopqrstuvwxyz").cps) ↔ c ∈ LET := by
  have : (Str.ofString "abcdefghijklmnopqrstuvwxyz").cps = LET.toArray := rfl
  rw [this]
  simp
theorem sgn_q (c : Nat) : ((⟨#[c]⟩ : Str) = Str.ofString "?") ↔ c = 63 := ⟨fun e => by
  have : (⟨#[c]⟩ : Str).cps = #[63] := by rw [e]; rfl
  simpa using this, fun e => by rw [e]; rfl⟩
def isVarS (z : Str) : Bool := decide (2 ≤ z.length) && decide (z.length ≤ 5) && (match z.cps.toList with
  | c :: r => decide (c = 63) && r.all (fun c => decide (c ∈ LET))
  | [] => false)
def isVarD : PyData → Bool
  | .str z => isVarS z
  | _ => false
theorem cutS_tail {z : Str} {c : Nat} {r : List Nat} (h : z.cps.toList = c :: r) : (L2.cutS z (some 1) none).cps.toList = r := by
  have hl : z.length = r.length + 1 := by
    have : z.cps.toList.length = r.length + 1 := by rw [h]; rfl
    exact this
  have e : (L2.cutS z (some 1) none).cps.toList = DL.cutD z.cps.toList (some 1) none := by
    unfold L2.cutS DL.cutD
    simp
    rfl
  rw [e, h]
  exact cut_tail c r
def lkS (kn : List (Str × Str)) (n : Str) : Option Str := (kn.find? fun p => decide (p.1 = n)).map (·.2)
def putS (kn : List (Str × Str)) (n s : Str) : List (Str × Str) := if (kn.any fun p => decide (p.1 = n)) = true then kn.map fun p => if p.1 = n then (p.1, s) else p else kn ++ [(n, s)]
def dicS (kn : List (Str × Str)) : PyData := .dict (kn.map fun p => (.str p.1, .str p.2))
theorem look_s (n : Str) : ∀ kn : List (Str × Str), DL.lookD (kn.map fun p => (.str p.1, .str p.2)) (.inr n) = (lkS kn n).map .str
  | [] => rfl
  | p :: kn => by
    have ih := look_s n kn
    unfold DL.lookD lkS at ih ⊢
    rw [List.map_cons, List.find?_cons, List.find?_cons]
    have : decide (DL.toKey (PyData.str p.1) = some (Sum.inr n)) = decide (p.1 = n) := decide_eq_decide.mpr ⟨fun e => Sum.inr.inj (Option.some.inj e), fun e => by rw [e]; rfl⟩
    rw [this]
    cases decide (p.1 = n) with
    | true => rfl
    | false => exact ih
theorem put_s (n s : Str) (kn : List (Str × Str)) : DL.putD (kn.map fun p => (.str p.1, .str p.2)) (.inr n) (.str s) = (putS kn n s).map fun p => (.str p.1, .str p.2) := by
  have hd : ∀ p : Str × Str, (DL.toKey (PyData.str p.1) = some (Sum.inr n)) ↔ p.1 = n := fun p => ⟨fun e => Sum.inr.inj (Option.some.inj e), fun e => by rw [e]; rfl⟩
  unfold DL.putD putS
  rw [List.any_map]
  have : ((fun p : PyData × PyData => decide (DL.toKey p.1 = some (Sum.inr n))) ∘ fun p : Str × Str => (PyData.str p.1, PyData.str p.2)) = fun p => decide (p.1 = n) := by
    funext p
    exact decide_eq_decide.mpr (hd p)
  rw [this]
  split
  · rw [List.map_map, List.map_map]
    refine List.map_congr_left fun p _ => ?_
    show (if DL.toKey (PyData.str p.1) = some (Sum.inr n) then _ else _) = _
    by_cases e : p.1 = n
    · rw [if_pos ((hd p).mpr e)]
      show _ = (PyData.str (if p.1 = n then (p.1, s) else p).1, PyData.str (if p.1 = n then (p.1, s) else p).2)
      rw [if_pos e]
    · rw [if_neg fun z => e ((hd p).mp z)]
      show _ = (PyData.str (if p.1 = n then (p.1, s) else p).1, PyData.str (if p.1 = n then (p.1, s) else p).2)
      rw [if_neg e]
  · rw [List.map_append]
    rfl
theorem putS_length (kn : List (Str × Str)) (n s : Str) : (putS kn n s).length ≤ kn.length + 1 := by
  unfold putS
  split <;> simp
def varW (m : Nat) (n : Str) (srt : Option Str) (kn : List (Str × Str)) (left : Nat) : Option (List (Str × Str) × Nat) := match srt with
  | some s => if m = 0 ∧ (lkS kn n).getD s = s then some (putS kn n s, left - 1) else none
  | none => none
mutual
def patW (sig : List Op) : PyData → Option Str → List (Str × Str) → Nat → Option (List (Str × Str) × Nat)
  | .tuple (.str n :: args), srt, kn, left =>
    if left = 0 then none
    else if isVarS n = true then varW args.length n srt kn left
    else match kindOf sig n with
      | none => none
      | some (ins, out) => if ins.length = args.length ∧ (srt = none ∨ srt = some out) then patsW sig args ins kn (left - 1) else none
  | _, _, _, _ => none
def patsW (sig : List Op) : List PyData → List Str → List (Str × Str) → Nat → Option (List (Str × Str) × Nat)
  | a :: as, i :: is, kn, left => match patW sig a (some i) kn left with
    | some (kn', l') => patsW sig as is kn' l'
    | none => none
  | _, _, kn, left => some (kn, left)
end
def patD : Option (List (Str × Str) × Nat) → PyData
  | some (kn, l) => .tuple [dicS kn, .int (l : Int)]
  | none => .none
def varsOf (sig : List Op) : PyData → Option (List (Str × Str))
  | .tuple (h :: args) => if isVarD h = true then none else (patW sig (.tuple (h :: args)) none [] 200).map (·.1)
  | _ => none
def isPat (sig : List Op) (v : PyData) : Bool := (varsOf sig v).isSome
theorem patW_zero {sig : List Op} {n : Str} {args : List PyData} {srt : Option Str} {kn : List (Str × Str)} : patW sig (.tuple (.str n :: args)) srt kn 0 = none := by
  rw [patW, if_pos rfl]
theorem patW_var {sig : List Op} {n s : Str} {args : List PyData} {kn : List (Str × Str)} {l : Nat} (l0 : ¬ l = 0) (hv : isVarS n = true) : patW sig (.tuple (.str n :: args)) (some s) kn l = if args.length = 0 ∧ (lkS kn n).getD s = s then some (putS kn n s, l - 1) else none := by
  rw [patW, if_neg l0, if_pos hv]
  rfl
theorem patW_none {sig : List Op} {n : Str} {args : List PyData} {srt : Option Str} {kn : List (Str × Str)} {l : Nat} (l0 : ¬ l = 0) (hv : ¬ isVarS n = true) (h : kindOf sig n = none) : patW sig (.tuple (.str n :: args)) srt kn l = none := by
  rw [patW, if_neg l0, if_neg hv, h]
theorem patW_some {sig : List Op} {n out : Str} {ins : List Str} {args : List PyData} {srt : Option Str} {kn : List (Str × Str)} {l : Nat} (l0 : ¬ l = 0) (hv : ¬ isVarS n = true) (h : kindOf sig n = some (ins, out)) :
    patW sig (.tuple (.str n :: args)) srt kn l = if ins.length = args.length ∧ (srt = none ∨ srt = some out) then patsW sig args ins kn (l - 1) else none := by
  rw [patW, if_neg l0, if_neg hv, h]
theorem patW_other {sig : List Op} {d : PyData} {srt : Option Str} {kn : List (Str × Str)} {l : Nat} (h : ∀ n args, d ≠ .tuple (.str n :: args)) : patW sig d srt kn l = none := by
  unfold patW
  split
  · exact absurd rfl (h _ _)
  · rfl
theorem patsW_nil {sig : List Op} {is : List Str} {kn : List (Str × Str)} {l : Nat} : patsW sig [] is kn l = some (kn, l) := by simp [patsW]
theorem patsW_cons {sig : List Op} {a : PyData} {as : List PyData} {i : Str} {is : List Str} {kn : List (Str × Str)} {l : Nat} : patsW sig (a :: as) (i :: is) kn l = match patW sig a (some i) kn l with
    | some (kn', l') => patsW sig as is kn' l'
    | none => none := by rw [patsW]
theorem getD_str {o : Option Str} {s : Str} : (o.map PyData.str).getD (.str s) = .str (o.getD s) := by cases o <;> rfl
/-- the sort that is wished for -/
def srtD : Option Str → PyData
  | some s => .str s
  | none => .none
def srtOk (srt : Option Str) (b : Str) : Bool := decide (srt = none ∨ srt = some b)
theorem notIn_srt {srt : Option Str} {b : Str} {k : PyData → Prop} : DL.dIn true (srtD srt) (.tuple [.none, .str b]) k = k (.bool (!srtOk srt b)) := by
  unfold srtOk
  cases srt with
  | none =>
    rw [show srtD none = PyData.none from rfl, notIn_nn, decide_eq_true (.inl rfl)]
    rfl
  | some a =>
    rw [show srtD (some a) = PyData.str a from rfl, notIn_sn]
    have : decide (a = b) = decide (some a = none ∨ some a = some b) := decide_eq_decide.mpr ⟨fun e => .inr (by rw [e]), fun e => e.elim (fun z => nomatch z) fun z => Option.some.inj z⟩
    rw [this]
mutual
/-- what is known grows by at most what is left -/
theorem patW_lim {sig : List Op} : ∀ {v : PyData} {srt : Option Str} {kn kn' : List (Str × Str)} {l l' : Nat}, patW sig v srt kn l = some (kn', l') → kn'.length + l' ≤ kn.length + l
  | .tuple (.str n :: args), srt, kn, kn', l, l', h => by
    by_cases l0 : l = 0
    · rw [l0, patW_zero] at h
      cases h
    by_cases hv : isVarS n = true
    · cases srt with
      | none =>
        rw [patW, if_neg l0, if_pos hv] at h
        cases h
      | some s =>
        rw [patW_var l0 hv] at h
        split at h
        · cases h
          have := putS_length kn n s
          omega
        · cases h
    · cases hk : kindOf sig n with
      | none =>
        rw [patW_none l0 hv hk] at h
        cases h
      | some io =>
        obtain ⟨ins, out⟩ := io
        rw [patW_some l0 hv hk] at h
        split at h
        · have := patsW_lim (args := args) h
          omega
        · cases h
  | .none, _, _, _, _, _, h => by rw [patW_other fun n args e => by cases e] at h; cases h
  | .bool _, _, _, _, _, _, h => by rw [patW_other fun n args e => by cases e] at h; cases h
  | .int _, _, _, _, _, _, h => by rw [patW_other fun n args e => by cases e] at h; cases h
  | .str _, _, _, _, _, _, h => by rw [patW_other fun n args e => by cases e] at h; cases h
  | .list _, _, _, _, _, _, h => by rw [patW_other fun n args e => by cases e] at h; cases h
  | .dict _, _, _, _, _, _, h => by rw [patW_other fun n args e => by cases e] at h; cases h
  | .tuple [], _, _, _, _, _, h => by rw [patW_other fun n args e => by cases e] at h; cases h
  | .tuple (.none :: _), _, _, _, _, _, h => by rw [patW_other fun n args e => by cases e] at h; cases h
  | .tuple (.bool _ :: _), _, _, _, _, _, h => by rw [patW_other fun n args e => by cases e] at h; cases h
  | .tuple (.int _ :: _), _, _, _, _, _, h => by rw [patW_other fun n args e => by cases e] at h; cases h
  | .tuple (.list _ :: _), _, _, _, _, _, h => by rw [patW_other fun n args e => by cases e] at h; cases h
  | .tuple (.tuple _ :: _), _, _, _, _, _, h => by rw [patW_other fun n args e => by cases e] at h; cases h
  | .tuple (.dict _ :: _), _, _, _, _, _, h => by rw [patW_other fun n args e => by cases e] at h; cases h
theorem patsW_lim {sig : List Op} : ∀ {args : List PyData} {ins : List Str} {kn kn' : List (Str × Str)} {l l' : Nat}, patsW sig args ins kn l = some (kn', l') → kn'.length + l' ≤ kn.length + l
  | [], ins, kn, kn', l, l', h => by
    rw [patsW_nil] at h
    cases h
    exact Nat.le_refl _
  | a :: as, [], kn, kn', l, l', h => by
    simp [patsW] at h
    obtain ⟨rfl, rfl⟩ := h
    exact Nat.le_refl _
  | a :: as, i :: is, kn, kn', l, l', h => by
    rw [patsW_cons] at h
    split at h
    · rename_i k1 l1 e
      have h1 := patW_lim e
      have h2 := patsW_lim h
      omega
    · cases h
end
/-! ### terms as trees, their texts -/
inductive Tm
  | mk (n : Str) (args : List Tm)
mutual
def tmD : Tm → PyData
  | .mk n args => .tuple (.str n :: tmsD args)
def tmsD : List Tm → List PyData
  | [] => []
  | t :: ts => tmD t :: tmsD ts
end
def comma : Str := Str.ofString ", "
mutual
def wr : Tm → Str
  | .mk n args => if args.length = 0 then n else n ++ Str.ofString "(" ++ Txt.join comma (wrs args) ++ Str.ofString ")"
def wrs : List Tm → List Str
  | [] => []
  | t :: ts => wr t :: wrs ts
end
mutual
def dep : Tm → Nat
  | .mk _ args => deps args + 1
def deps : List Tm → Nat
  | [] => 0
  | t :: ts => max (dep t) (deps ts)
end
theorem tmsD_length : ∀ ts : List Tm, (tmsD ts).length = ts.length
  | [] => rfl
  | t :: ts => by rw [tmsD, List.length_cons, tmsD_length ts, List.length_cons]
theorem wrs_length : ∀ ts : List Tm, (wrs ts).length = ts.length
  | [] => rfl
  | t :: ts => by rw [wrs, List.length_cons, wrs_length ts, List.length_cons]
theorem tmsD_get : ∀ {ts : List Tm} {i : Nat} {x : PyData}, (tmsD ts)[i]? = some x → ∃ t, ts[i]? = some t ∧ x = tmD t
  | [], i, x, h => by simp [tmsD] at h
  | t :: ts, 0, x, h => by
    rw [tmsD] at h
    cases h
    exact ⟨t, rfl, rfl⟩
  | t :: ts, i + 1, x, h => by
    rw [tmsD] at h
    exact tmsD_get (ts := ts) (by simpa using h)
theorem wrs_get : ∀ {ts : List Tm} {i : Nat} {t : Tm}, ts[i]? = some t → (wrs ts)[i]? = some (wr t)
  | [], i, t, h => by simp at h
  | u :: ts, 0, t, h => by
    cases h
    rw [wrs]
    rfl
  | u :: ts, i + 1, t, h => by
    rw [wrs]
    exact wrs_get (ts := ts) (by simpa using h)
theorem deps_get : ∀ {ts : List Tm} {i : Nat} {t : Tm}, ts[i]? = some t → dep t ≤ deps ts
  | [], i, t, h => by simp at h
  | u :: ts, 0, t, h => by
    cases h
    rw [deps]
    exact Nat.le_max_left _ _
  | u :: ts, i + 1, t, h => by
    rw [deps]
    exact Nat.le_trans (deps_get (ts := ts) (by simpa using h)) (Nat.le_max_right _ _)
theorem len_app (a b : Str) : (a ++ b).length = a.length + b.length := Array.size_append
theorem join_len (y : Str) : ∀ {ys : List Str}, ys ≠ [] → (Txt.join y ys).length + y.length = (ys.map (·.length)).sum + ys.length * y.length
  | [], h => absurd rfl h
  | [x], _ => by
    rw [TL.join_eq]
    show x.length + y.length = _
    simp
  | x :: z :: r, _ => by
    have ih := join_len y (ys := z :: r) (by simp)
    rw [TL.join_eq] at ih ⊢
    show (x ++ y ++ Str.join y (z :: r)).length + y.length = _
    rw [len_app, len_app, List.map_cons, List.sum_cons]
    rw [show (x :: z :: r).length = (z :: r).length + 1 from rfl, Nat.add_mul]
    omega
theorem wr_leaf {n : Str} {args : List Tm} (h : args.length = 0) : wr (.mk n args) = n := by rw [wr, if_pos h]
theorem wr_node {n : Str} {args : List Tm} (h : ¬ args.length = 0) : wr (.mk n args) = n ++ Str.ofString "(" ++ Txt.join comma (wrs args) ++ Str.ofString ")" := by rw [wr, if_neg h]
theorem mem_sum : ∀ {ls : List Nat} {n : Nat}, n ∈ ls → n ≤ ls.sum
  | l :: ls, n, h => by
    rw [List.sum_cons]
    rcases List.mem_cons.mp h with rfl | h
    · omega
    · have := mem_sum h
      omega
/-- the texts of the parts are no longer than the text -/
theorem wr_part {n : Str} {args : List Tm} {i : Nat} {t : Tm} (h : args[i]? = some t) : (wr t).length ≤ (wr (.mk n args)).length := by
  have h0 : ¬ args.length = 0 := fun e => by
    have : args = [] := List.length_eq_zero_iff.mp e
    rw [this] at h
    simp at h
  rw [wr_node h0, len_app, len_app, len_app]
  have hn : wrs args ≠ [] := fun e => by
    have := wrs_length args
    rw [e] at this
    exact h0 this.symm
  have j := join_len comma hn
  have m : (wr t).length ≤ ((wrs args).map (·.length)).sum := mem_sum (List.mem_map.mpr ⟨_, List.mem_of_getElem? (wrs_get h), rfl⟩)
  have hc : comma.length = 2 := rfl
  have hl : 1 ≤ (wrs args).length := by
    rw [wrs_length]
    omega
  rw [hc] at j
  omega
/-! ### the pieces of a text -/
def STP : List Nat := [40, 41, 44]
theorem mem_stops (c : Nat) : (c ∈ (Str.ofString "(),").cps) ↔ c ∈ STP := by
  have : (Str.ofString "(),").cps = STP.toArray := rfl
  rw [this]
  simp
theorem sgn_blank (c : Nat) : ((⟨#[c]⟩ : Str) = Str.ofString " ") ↔ c = 32 := ⟨fun e => by
  have : (⟨#[c]⟩ : Str).cps = #[32] := by rw [e]; rfl
  simpa using this, fun e => by rw [e]; rfl⟩
def txt (cs : List Nat) : Str := ⟨cs.toArray⟩
theorem txt_nil (cs : List Nat) : (txt cs = Str.ofString "") ↔ cs = [] := ⟨fun e => by
  have : (txt cs).cps = #[] := by rw [e]; rfl
  unfold txt at this
  simpa using this, fun e => by rw [e]; rfl⟩
theorem txt_snoc (cs : List Nat) (c : Nat) : (txt cs ++ (⟨#[c]⟩ : Str)) = txt (cs ++ [c]) := by
  show (⟨(txt cs).cps ++ #[c]⟩ : Str) = _
  unfold txt
  simp
theorem txt_len (cs : List Nat) : (txt cs).length = cs.length := by
  show cs.toArray.size = _
  simp
def flushL (nm : List Nat) : List Str := if nm = [] then [] else [txt nm]
def pcsL : List Nat → List Nat → List Str
  | [], nm => flushL nm
  | c :: r, nm => if c ∈ STP ∨ c = 32 then flushL nm ++ ((if c = 32 then [] else [⟨#[c]⟩]) ++ pcsL r []) else pcsL r (nm ++ [c])
def pcs (z : Str) : List Str := pcsL z.cps.toList []
end TM

set_option Elab.async false
set_option linter.all false
set_option maxRecDepth 100000
set_option maxHeartbeats 4000000
/-! the reader of pieces -/
namespace TM
open PySem DL
def inS (p : Str) : Bool := inSub (Str.ofString "(),") p
def inC (p : Str) : Bool := inSub (Str.ofString ",)") p
def opn : Str := Str.ofString "("
def cls : Str := Str.ofString ")"
mutual
inductive Rd : List Str → Option (Tm × List Str) → Prop
  | nil : Rd [] none
  | stop {p : Str} {r : List Str} : inS p = true → Rd (p :: r) none
  | leaf0 {p : Str} : inS p = false → Rd [p] (some (.mk p [], []))
  | leaf {p q : Str} {r : List Str} : inS p = false → q ≠ opn → Rd (p :: q :: r) (some (.mk p [], q :: r))
  | node {p : Str} {r : List Str} {o : Option (List Tm × List Str)} : inS p = false → Rds r o → Rd (p :: opn :: r) (o.map fun x => (.mk p x.1, x.2))
inductive Rds : List Str → Option (List Tm × List Str) → Prop
  | bad {r : List Str} : Rd r none → Rds r none
  | fin {r : List Str} {t : Tm} : Rd r (some (t, [])) → Rds r none
  | odd {r r2 : List Str} {t : Tm} {q : Str} : Rd r (some (t, q :: r2)) → inC q = false → Rds r none
  | last {r r2 : List Str} {t : Tm} : Rd r (some (t, cls :: r2)) → Rds r (some ([t], r2))
  | more {r r2 : List Str} {t : Tm} {q : Str} {o : Option (List Tm × List Str)} : Rd r (some (t, q :: r2)) → inC q = true → q ≠ cls → Rds r2 o → Rds r (o.map fun x => (t :: x.1, x.2))
end
mutual
theorem Rd.suf : ∀ {r : List Str} {o : Option (Tm × List Str)}, Rd r o → ∀ t r', o = some (t, r') → ∃ s, r = s ++ r' ∧ s ≠ []
  | _, _, .nil, _, _, e => nomatch e
  | _, _, .stop _, _, _, e => nomatch e
  | _, _, .leaf0 (p := p) _, _, _, e => by cases e; exact ⟨[p], rfl, by simp⟩
  | _, _, .leaf (p := p) _ _, _, _, e => by cases e; exact ⟨[p], rfl, by simp⟩
  | _, _, .node (p := p) (o := o) _ h, t, r', e => by
    cases o with
    | none => cases e
    | some x =>
      cases e
      obtain ⟨s, es, _⟩ := Rds.suf h x.1 x.2 rfl
      exact ⟨p :: opn :: s, by rw [es]; rfl, by simp⟩
theorem Rds.suf : ∀ {r : List Str} {o : Option (List Tm × List Str)}, Rds r o → ∀ ts r', o = some (ts, r') → ∃ s, r = s ++ r' ∧ s ≠ []
  | _, _, .bad _, _, _, e => nomatch e
  | _, _, .fin _, _, _, e => nomatch e
  | _, _, .odd _ _, _, _, e => nomatch e
  | _, _, .last (r2 := r2) h, _, _, e => by
    cases e
    obtain ⟨s, es, _⟩ := Rd.suf h _ _ rfl
    exact ⟨s ++ [cls], by rw [es]; simp, by simp⟩
  | _, _, .more (q := q) (r2 := r2) (o := o) h _ _ g, ts, r', e => by
    cases o with
    | none => cases e
    | some x =>
      cases e
      obtain ⟨s, es, _⟩ := Rd.suf h _ _ rfl
      obtain ⟨s2, es2, _⟩ := Rds.suf g x.1 x.2 rfl
      exact ⟨s ++ q :: s2, by rw [es, es2]; simp, by simp⟩
end
def opens (r : List Str) : Nat := (r.filter fun p => decide (p = opn)).length
theorem opens_app (a b : List Str) : opens (a ++ b) = opens a + opens b := by unfold opens; rw [List.filter_append, List.length_append]
theorem opens_suf {r s r' : List Str} (h : r = s ++ r') : opens r' ≤ opens r := by rw [h, opens_app]; omega
theorem drop_suf {ps r s : List Str} {p : Nat} (h : ps.drop p = s ++ r) : ps.drop (ps.length - r.length) = r ∧ r.length ≤ ps.length := by
  have hl : (ps.drop p).length = s.length + r.length := by rw [h, List.length_append]
  rw [List.length_drop] at hl
  have hle : r.length ≤ ps.length := by omega
  refine ⟨?_, hle⟩
  by_cases hr : r = []
  · subst hr
    simp
  · have hr' : 0 < r.length := List.length_pos_iff.mpr hr
    have e : ps.length - r.length = p + s.length := by omega
    rw [e, ← List.drop_drop, h]
    simp
theorem tmsD_app : ∀ (a b : List Tm), tmsD (a ++ b) = tmsD a ++ tmsD b
  | [], b => rfl
  | t :: a, b => by rw [List.cons_append, tmsD, tmsD_app a b, tmsD, List.cons_append]
theorem at_drop {ps r : List Str} {p : Nat} {q : Str} (h : ps.drop p = q :: r) : ps[p]? = some q ∧ ps.drop (p + 1) = r := by
  have e : ps[p]? = (ps.drop p)[0]? := by rw [List.getElem?_drop]; rfl
  rw [h] at e
  refine ⟨e, ?_⟩
  rw [← List.drop_drop, h]
  rfl
theorem at_str {ps r : List Str} {p : Nat} {q : Str} (h : ps.drop p = q :: r) : L2.atI (ps.map PyData.str) (p : Int) = some (.str q) := L2.atI_nat (by rw [List.getElem?_map, (at_drop h).1]; rfl)
theorem inC_cls : inC cls = true := by decide +kernel
theorem inC_opn : inC opn = false := by decide +kernel
end TM

set_option Elab.async false
set_option linter.all false
set_option maxRecDepth 100000
set_option maxHeartbeats 4000000
namespace TM
open PySem DL
def tot : List Str → Nat
  | [] => 0
  | p :: r => p.length + tot r
theorem tot_app : ∀ a b : List Str, tot (a ++ b) = tot a + tot b
  | [], b => by rw [List.nil_append, tot, Nat.zero_add]
  | p :: a, b => by rw [List.cons_append, tot, tot, tot_app a b]; omega
def full (r : List Str) : Prop := ∀ p ∈ r, 1 ≤ p.length
theorem full_suf {r s r' : List Str} (h : r = s ++ r') (f : full r) : full r' := fun p m => f p (by rw [h]; exact List.mem_append_right _ m)
mutual
theorem Rd.len : ∀ {r : List Str} {o : Option (Tm × List Str)}, Rd r o → full r → ∀ t r', o = some (t, r') → (wr t).length + 2 * tot r' ≤ 2 * tot r
  | _, _, .nil, _, _, _, e => nomatch e
  | _, _, .stop _, _, _, _, e => nomatch e
  | _, _, .leaf0 (p := p) _, _, _, _, e => by
    cases e
    rw [wr_leaf rfl, tot, tot]
    omega
  | _, _, .leaf (p := p) (q := q) (r := r) _ _, _, _, _, e => by
    cases e
    have e1 : tot (p :: q :: r) = p.length + tot (q :: r) := rfl
    rw [wr_leaf rfl, e1]
    omega
  | _, _, .node (p := p) (r := r) (o := o) _ h, f, t, r', e => by
    cases o with
    | none => cases e
    | some x =>
      cases e
      have := Rds.len h (full_suf (s := [p, opn]) rfl f) x.1 x.2 rfl
      have ho : opn.length = 1 := rfl
      rw [tot, tot, ho]
      by_cases h0 : x.1.length = 0
      · rw [wr_leaf h0]
        omega
      · have hn : wrs x.1 ≠ [] := fun e => by
          have := wrs_length x.1
          rw [e] at this
          exact h0 this.symm
        have j := join_len comma hn
        have hc : comma.length = 2 := rfl
        have hp : (Str.ofString "(").length = 1 := rfl
        have hq : (Str.ofString ")").length = 1 := rfl
        rw [hc, wrs_length] at j
        rw [wr_node h0, len_app, len_app, len_app, hp, hq]
        omega
theorem Rds.len : ∀ {r : List Str} {o : Option (List Tm × List Str)}, Rds r o → full r → ∀ ts r', o = some (ts, r') → ((wrs ts).map (·.length)).sum + 2 * ts.length + 2 * tot r' ≤ 2 * tot r
  | _, _, .bad _, _, _, _, e => nomatch e
  | _, _, .fin _, _, _, _, e => nomatch e
  | _, _, .odd _ _, _, _, _, e => nomatch e
  | _, _, .last (r2 := r2) (t := t) h, f, _, _, e => by
    cases e
    have := Rd.len h f _ _ rfl
    have hc : cls.length = 1 := rfl
    rw [tot, hc] at this
    rw [wrs, wrs]
    simp
    omega
  | _, _, .more (q := q) (r2 := r2) (t := t) (o := o) h _ _ g, f, ts, r', e => by
    cases o with
    | none => cases e
    | some x =>
      cases e
      obtain ⟨s, es, _⟩ := Rd.suf h _ _ rfl
      have h1 := Rd.len h f _ _ rfl
      have hq : 1 ≤ q.length := f q (by rw [es]; simp)
      have h2 := Rds.len g (full_suf (s := s ++ [q]) (by rw [es]; simp) f) x.1 x.2 rfl
      rw [tot] at h1
      rw [wrs]
      simp
      omega
end
mutual
theorem Rd.dep : ∀ {r : List Str} {o : Option (Tm × List Str)}, Rd r o → ∀ t r', o = some (t, r') → dep t ≤ opens r + 1
  | _, _, .nil, _, _, e => nomatch e
  | _, _, .stop _, _, _, e => nomatch e
  | _, _, .leaf0 _, _, _, e => by cases e; rw [TM.dep, deps]; omega
  | _, _, .leaf _ _, _, _, e => by cases e; rw [TM.dep, deps]; omega
  | _, _, .node (p := p) (r := r) (o := o) _ h, t, r', e => by
    cases o with
    | none => cases e
    | some x =>
      cases e
      have := Rds.dep h x.1 x.2 rfl
      have e1 : opens (p :: opn :: r) = opens [p] + (opens [opn] + opens r) := by
        rw [show p :: opn :: r = [p] ++ ([opn] ++ r) from rfl, opens_app, opens_app]
      have e2 : opens [opn] = 1 := by decide +kernel
      rw [TM.dep]
      omega
theorem Rds.dep : ∀ {r : List Str} {o : Option (List Tm × List Str)}, Rds r o → ∀ ts r', o = some (ts, r') → deps ts ≤ opens r + 1
  | _, _, .bad _, _, _, e => nomatch e
  | _, _, .fin _, _, _, e => nomatch e
  | _, _, .odd _ _, _, _, e => nomatch e
  | _, _, .last (t := t) h, _, _, e => by
    cases e
    have := Rd.dep h _ _ rfl
    rw [deps, deps]
    omega
  | _, _, .more (q := q) (r2 := r2) (t := t) (o := o) h _ _ g, ts, r', e => by
    cases o with
    | none => cases e
    | some x =>
      cases e
      obtain ⟨s, es, _⟩ := Rd.suf h _ _ rfl
      have h1 := Rd.dep h _ _ rfl
      have h2 := Rds.dep g x.1 x.2 rfl
      have h3 : opens r2 ≤ opens (s ++ q :: r2) := opens_suf (s := s ++ [q]) (by simp)
      rw [← es] at h3
      rw [deps]
      omega
end
theorem flush_len (nm : List Nat) : (flushL nm).length ≤ nm.length ∧ tot (flushL nm) = nm.length := by
  unfold flushL
  split
  · rename_i h
    subst h
    exact ⟨Nat.le_refl _, rfl⟩
  · rename_i h
    have := List.length_pos_iff.mpr h
    refine ⟨by simp; omega, ?_⟩
    rw [tot, tot, txt_len]
    rfl
theorem pcsL_len : ∀ (cs nm : List Nat), (pcsL cs nm).length ≤ cs.length + nm.length ∧ tot (pcsL cs nm) ≤ cs.length + nm.length
  | [], nm => by
    have := flush_len nm
    rw [pcsL]
    simp
    omega
  | c :: r, nm => by
    rw [pcsL]
    have f := flush_len nm
    split
    · have ih := pcsL_len r []
      rw [List.length_append, List.length_append, tot_app, tot_app]
      have h1 : (if c = 32 then ([] : List Str) else [⟨#[c]⟩]).length ≤ 1 ∧ tot (if c = 32 then ([] : List Str) else [⟨#[c]⟩]) ≤ 1 := by
        split
        · exact ⟨Nat.zero_le _, Nat.zero_le _⟩
        · exact ⟨Nat.le_refl _, Nat.le_refl _⟩
      simp at ih ⊢
      omega
    · have ih := pcsL_len r (nm ++ [c])
      simp at ih ⊢
      omega
theorem pcs_len (z : Str) : (pcs z).length ≤ z.length ∧ tot (pcs z) ≤ z.length := by
  have := pcsL_len z.cps.toList []
  exact this
theorem full_flush (nm : List Nat) : full (flushL nm) := by
  unfold flushL
  split
  · exact fun p m => nomatch m
  · rename_i h
    intro p m
    rw [List.mem_singleton.mp m, txt_len]
    exact List.length_pos_iff.mpr h
theorem full_app {a b : List Str} (f : full a) (g : full b) : full (a ++ b) := fun p m => (List.mem_append.mp m).elim (f p) (g p)
theorem full_pcsL : ∀ (cs nm : List Nat), full (pcsL cs nm)
  | [], nm => by rw [pcsL]; exact full_flush nm
  | c :: r, nm => by
    rw [pcsL]
    split
    · refine full_app (full_flush nm) (full_app ?_ (full_pcsL r []))
      split
      · exact fun p m => nomatch m
      · exact fun p m => by rw [List.mem_singleton.mp m]; exact Nat.le_refl _
    · exact full_pcsL r (nm ++ [c])
theorem full_pcs (z : Str) : full (pcs z) := full_pcsL _ _
theorem opens_flush {nm : List Nat} (h : ¬ 40 ∈ nm) : opens (flushL nm) = 0 := by
  unfold flushL
  split
  · rfl
  · unfold opens
    have : ¬ txt nm = opn := fun e => by
      have e2 : (txt nm).cps.toList = [40] := by rw [e]; rfl
      unfold txt at e2
      simp at e2
      rw [e2] at h
      exact h (by simp)
    simp [this]
theorem opens_pcsL : ∀ (cs nm : List Nat), ¬ 40 ∈ nm → opens (pcsL cs nm) ≤ (cs.filter fun c => decide (c = 40)).length
  | [], nm, h => by rw [pcsL, opens_flush h]; exact Nat.zero_le _
  | c :: r, nm, h => by
    rw [pcsL]
    split
    · have ih := opens_pcsL r [] (by simp)
      rw [opens_app, opens_app, opens_flush h]
      by_cases h4 : c = 40
      · subst h4
        have : opens (if (40 : Nat) = 32 then ([] : List Str) else [⟨#[40]⟩]) ≤ 1 := by decide +kernel
        simp
        simp at this
        omega
      · have : opens (if c = 32 then ([] : List Str) else [⟨#[c]⟩]) = 0 := by
          split
          · rfl
          · unfold opens
            have : ¬ (⟨#[c]⟩ : Str) = opn := fun e => by
              have e2 : (⟨#[c]⟩ : Str).cps = #[40] := by rw [e]; rfl
              exact h4 (by simpa using e2)
            simp [this]
        rw [this]
        simp [h4]
        exact ih
    · rename_i hs
      have h4 : c ≠ 40 := fun e => hs (.inl (by rw [e]; decide))
      have ih := opens_pcsL r (nm ++ [c]) (by simp [h]; exact fun e => h4 e.symm)
      simp [h4]
      exact ih
def lpar (z : Str) : Nat := (z.cps.toList.filter fun c => decide (c = 40)).length
theorem cnt_filter (l : List Nat) : PyProof.Rows.cnt 40 l = ((l.filter fun c => decide (c = 40)).length : Int) := by
  induction l with
  | nil => rfl
  | cons c l ih =>
    simp only [PyProof.Rows.cnt_cons, ih, List.filter_cons]
    by_cases h : c = 40 <;> simp [h] <;> omega
theorem count_lpar (z : Str) : Txt.count z (Str.ofString "(") = (lpar z : Int) := by
  have e : Str.ofString "(" = ⟨#[40]⟩ := rfl
  rw [e, PyProof.Rows.count_cnt, cnt_filter]
  rfl
/-- what nested answers -/
def finO (z : Str) : Option (Tm × List Str) → Option Tm
  | some (t, r) => if r = [] ∧ wr t = z then some t else none
  | none => none
inductive Ns (z : Str) : Option Tm → Prop
  | much : 200 < lpar z → Ns z none
  | read {o : Option (Tm × List Str)} : ¬ 200 < lpar z → Rd (pcs z) o → Ns z (finO z o)
theorem app_nil (a : Str) : a ++ Str.ofString "" = a := by
  show (⟨a.cps ++ (Str.ofString "").cps⟩ : Str) = a
  have : (Str.ofString "").cps = #[] := rfl
  rw [this, Array.append_empty]
theorem nil_app (a : Str) : Str.ofString "" ++ a = a := by
  show (⟨(Str.ofString "").cps ++ a.cps⟩ : Str) = a
  have : (Str.ofString "").cps = #[] := rfl
  rw [this, Array.empty_append]
theorem app_assoc (a b c : Str) : a ++ b ++ c = a ++ (b ++ c) := by
  show (⟨a.cps ++ b.cps ++ c.cps⟩ : Str) = ⟨a.cps ++ (b.cps ++ c.cps)⟩
  rw [Array.append_assoc]
theorem join_snoc (y x : Str) : ∀ a : List Str, Txt.join y (a ++ [x]) = if a = [] then x else Txt.join y a ++ (y ++ x)
  | [] => by rw [TL.join_eq]; rfl
  | [z] => by
    rw [if_neg (by simp), TL.join_eq, TL.join_eq]
    show z ++ y ++ x = z ++ (y ++ x)
    rw [app_assoc]
  | z :: u :: r => by
    rw [if_neg (by simp)]
    have ih := join_snoc y x (u :: r)
    rw [if_neg (by simp)] at ih
    rw [TL.join_eq, TL.join_eq] at ih ⊢
    show z ++ y ++ Str.join y (u :: (r ++ [x])) = z ++ y ++ Str.join y (u :: r) ++ (y ++ x)
    rw [show u :: (r ++ [x]) = (u :: r) ++ [x] from rfl, ih, app_assoc (z ++ y)]
theorem join_nil (y : Str) : Txt.join y [] = Str.ofString "" := by rw [TL.join_eq]; rfl
theorem sum_take_le : ∀ (ls : List Nat) (i : Nat), (ls.take i).sum ≤ ls.sum
  | [], i => by simp
  | l :: ls, 0 => by simp
  | l :: ls, i + 1 => by
    have := sum_take_le ls i
    simp
    omega
theorem join_take_le (y : Str) (ys : List Str) (i : Nat) : (Txt.join y (ys.take i)).length ≤ (Txt.join y ys).length := by
  by_cases h0 : ys.take i = []
  · rw [h0, join_nil]
    exact Nat.zero_le _
  · have h1 : ys ≠ [] := fun e => h0 (by rw [e]; simp)
    have a := join_len y h0
    have b := join_len y h1
    have c := sum_take_le (ys.map (·.length)) i
    have d : (ys.take i).length ≤ ys.length := by rw [List.length_take]; exact Nat.min_le_right _ _
    rw [List.map_take] at a
    have e := Nat.mul_le_mul_right y.length d
    omega
theorem ints_at {lo : Int} {n i : Nat} {x : PyData} (h : (DL.intsD lo n)[i]? = some x) : i < n ∧ x = .int (lo + (i : Int)) := by
  unfold DL.intsD at h
  rw [List.getElem?_map] at h
  obtain ⟨j, h1, h2⟩ := Option.map_eq_some_iff.mp h
  obtain ⟨h3, h4⟩ := List.getElem?_eq_some_iff.mp h1
  rw [List.length_range] at h3
  rw [List.getElem_range] at h4
  subst h4
  exact ⟨h3, h2.symm⟩
theorem ints_len {lo : Int} {n : Nat} : (DL.intsD lo n).length = n := by unfold DL.intsD; simp
theorem tmsD_at {ts : List Tm} {i : Nat} {t : Tm} (h : ts[i]? = some t) : (tmsD ts)[i]? = some (tmD t) := by
  have hi : i < (tmsD ts).length := by rw [tmsD_length]; exact (List.getElem?_eq_some_iff.mp h).1
  obtain ⟨u, hu, e⟩ := tmsD_get (List.getElem?_eq_getElem hi)
  rw [h] at hu
  cases hu
  rw [List.getElem?_eq_getElem hi, e]
end TM

set_option Elab.async false
set_option linter.all false
set_option maxRecDepth 100000
set_option maxHeartbeats 4000000
/-! the law's own reader of texts -/
namespace TM
open PySem DL
def ST4 : List Nat := [40, 41, 44, 32]
theorem mem_st4 (c : Nat) : (c ∈ (Str.ofString "(), ").cps) ↔ c ∈ ST4 := by
  have : (Str.ofString "(), ").cps = ST4.toArray := rfl
  rw [this]
  simp
def nmOf (cs : List Nat) : List Nat := cs.takeWhile fun c => !decide (c ∈ ST4)
def rsOf (cs : List Nat) : List Nat := cs.dropWhile fun c => !decide (c ∈ ST4)
theorem while_cut {p : Nat → Bool} : ∀ {cs : List Nat} {i : Nat}, i ≤ cs.length → (∀ j c, j < i → cs[j]? = some c → p c = true) → (∀ c, cs[i]? = some c → p c = false) → cs.takeWhile p = cs.take i ∧ cs.dropWhile p = cs.drop i
  | [], i, h, _, _ => by simp
  | c :: cs, 0, _, _, h => by
    have := h c rfl
    simp [List.takeWhile_cons, List.dropWhile_cons, this]
  | c :: cs, i + 1, hi, h, g => by
    have h0 := h 0 c (by omega) rfl
    have ih := while_cut (cs := cs) (i := i) (by simpa using hi) (fun j d hj e => h (j + 1) d (by omega) (by simpa using e)) (fun d e => g d (by simpa using e))
    simp [List.takeWhile_cons, List.dropWhile_cons, h0, ih.1, ih.2]
theorem txt_self (z : Str) : txt z.cps.toList = z := by cases z; rfl
theorem cut_to {z : Str} {i : Nat} (h : i ≤ z.length) : L2.cutS z none (some (i : Int)) = txt (z.cps.toList.take i) := by
  have hz : z.cps.toList.length = z.length := Array.length_toList
  have e1 : HT.sIx z.length 0 none = 0 := rfl
  have e2 : HT.sIx z.length z.length (some (i : Int)) = i := by rw [HT.sIx_nat]; omega
  unfold L2.cutS
  simp [e1, e2, hz, txt]
  try rw [e1, e2]
  try simp
theorem cut_from {z : Str} {i : Nat} (h : i ≤ z.length) : L2.cutS z (some (i : Int)) none = txt (z.cps.toList.drop i) := by
  have hz : z.cps.toList.length = z.length := Array.length_toList
  have e1 : HT.sIx z.length 0 (some (i : Int)) = i := by rw [HT.sIx_nat]; omega
  have e2 : HT.sIx z.length z.length none = z.length := rfl
  unfold L2.cutS
  simp [e1, e2, hz, txt]
  exact List.take_of_length_le (by rw [List.length_drop, hz]; exact Nat.le_refl _)
theorem cut_to_txt (cs : List Nat) (n : Nat) : L2.cutS (txt cs) none (some (n : Int)) = txt (cs.take n) := by
  have hz : (txt cs).cps.toList = cs := by unfold txt; simp
  have hl : (txt cs).length = cs.length := txt_len cs
  by_cases h : n ≤ cs.length
  · rw [cut_to (by rw [hl]; exact h), hz]
  · have e2 : HT.sIx cs.length cs.length (some (n : Int)) = cs.length := by rw [HT.sIx_nat]; omega
    have e1 : HT.sIx cs.length 0 none = 0 := rfl
    unfold L2.cutS
    rw [hz, hl, e1, e2]
    show txt _ = _
    rw [List.drop_zero, Nat.sub_zero, List.take_of_length_le (Nat.le_refl _), List.take_of_length_le (by omega)]
theorem cut_from_txt (cs : List Nat) (n : Nat) : L2.cutS (txt cs) (some (n : Int)) none = txt (cs.drop n) := by
  have hz : (txt cs).cps.toList = cs := by unfold txt; simp
  have hl : (txt cs).length = cs.length := txt_len cs
  by_cases h : n ≤ cs.length
  · rw [cut_from (by rw [hl]; exact h), hz]
  · have e2 : HT.sIx cs.length 0 (some (n : Int)) = cs.length := by rw [HT.sIx_nat]; omega
    have e1 : HT.sIx cs.length cs.length none = cs.length := rfl
    unfold L2.cutS
    rw [hz, hl, e1, e2]
    show txt _ = _
    rw [Nat.sub_self, List.take_zero, List.drop_eq_nil_of_le (by omega)]
theorem txt_to1 (cs : List Nat) : L2.cutS (txt cs) none (some 1) = txt (cs.take 1) := cut_to_txt cs 1
theorem txt_to2 (cs : List Nat) : L2.cutS (txt cs) none (some 2) = txt (cs.take 2) := cut_to_txt cs 2
theorem txt_from1 (cs : List Nat) : L2.cutS (txt cs) (some 1) none = txt (cs.drop 1) := cut_from_txt cs 1
theorem txt_from2 (cs : List Nat) : L2.cutS (txt cs) (some 2) none = txt (cs.drop 2) := cut_from_txt cs 2
theorem txt_inj {a b : List Nat} (h : txt a = txt b) : a = b := by
  have : (txt a).cps = (txt b).cps := by rw [h]
  unfold txt at this
  simpa using this
theorem txt_is1 (cs : List Nat) : (txt cs = Str.ofString "(") ↔ cs = [40] := ⟨fun e => txt_inj (b := [40]) e, fun e => by rw [e]; rfl⟩
theorem txt_is2 (cs : List Nat) : (txt cs = Str.ofString ")") ↔ cs = [41] := ⟨fun e => txt_inj (b := [41]) e, fun e => by rw [e]; rfl⟩
theorem txt_is3 (cs : List Nat) : (txt cs = Str.ofString ", ") ↔ cs = [44, 32] := ⟨fun e => txt_inj (b := [44, 32]) e, fun e => by rw [e]; rfl⟩
mutual
inductive LR : List Nat → Option (Tm × List Nat) → Prop
  | none {cs : List Nat} : nmOf cs = [] → LR cs none
  | leaf {cs : List Nat} : nmOf cs ≠ [] → (rsOf cs).take 1 ≠ [40] → LR cs (some (.mk (txt (nmOf cs)) [], rsOf cs))
  | node {cs r : List Nat} {o : Option (List Tm × List Nat)} : nmOf cs ≠ [] → rsOf cs = 40 :: r → LRs r o → LR cs (o.map fun x => (.mk (txt (nmOf cs)) x.1, x.2))
inductive LRs : List Nat → Option (List Tm × List Nat) → Prop
  | bad {r : List Nat} : LR r none → LRs r none
  | last {r r2 : List Nat} {t : Tm} : LR r (some (t, 41 :: r2)) → LRs r (some ([t], r2))
  | odd {r r1 : List Nat} {t : Tm} : LR r (some (t, r1)) → r1.take 1 ≠ [41] → r1.take 2 ≠ [44, 32] → LRs r none
  | more {r r2 : List Nat} {t : Tm} {o : Option (List Tm × List Nat)} : LR r (some (t, 44 :: 32 :: r2)) → LRs r2 o → LRs r (o.map fun x => (t :: x.1, x.2))
end
theorem nm_rs (cs : List Nat) : nmOf cs ++ rsOf cs = cs := List.takeWhile_append_dropWhile
mutual
theorem LR.suf : ∀ {r : List Nat} {o : Option (Tm × List Nat)}, LR r o → ∀ t r', o = some (t, r') → ∃ s, r = s ++ r' ∧ s ≠ []
  | _, _, .none _, _, _, e => nomatch e
  | cs, _, .leaf h _, _, _, e => by cases e; exact ⟨nmOf cs, (nm_rs cs).symm, h⟩
  | cs, _, .node (r := r) (o := o) h hr g, t, r', e => by
    cases o with
    | none => cases e
    | some x =>
      cases e
      obtain ⟨s, es, _⟩ := LRs.suf g x.1 x.2 rfl
      refine ⟨nmOf cs ++ 40 :: s, ?_, by simp⟩
      have := nm_rs cs
      rw [hr, es] at this
      exact this.symm.trans (by simp)
theorem LRs.suf : ∀ {r : List Nat} {o : Option (List Tm × List Nat)}, LRs r o → ∀ ts r', o = some (ts, r') → ∃ s, r = s ++ r' ∧ s ≠ []
  | _, _, .bad _, _, _, e => nomatch e
  | _, _, .odd _ _ _, _, _, e => nomatch e
  | _, _, .last (r2 := r2) h, _, _, e => by
    cases e
    obtain ⟨s, es, _⟩ := LR.suf h _ _ rfl
    exact ⟨s ++ [41], by rw [es]; simp, by simp⟩
  | _, _, .more (r2 := r2) (o := o) h g, ts, r', e => by
    cases o with
    | none => cases e
    | some x =>
      cases e
      obtain ⟨s, es, _⟩ := LR.suf h _ _ rfl
      obtain ⟨s2, es2, _⟩ := LRs.suf g x.1 x.2 rfl
      exact ⟨s ++ 44 :: 32 :: s2, by rw [es, es2]; simp, by simp⟩
end
def lrD : Option (Tm × List Nat) → PyData
  | some (t, r) => .tuple [tmD t, .str (txt r)]
  | none => .none
theorem lrD_s {t : Tm} {r : List Nat} : lrD (some (t, r)) = .tuple [tmD t, .str (txt r)] := rfl
theorem lrD_n : lrD none = .none := rfl
def cntL (cs : List Nat) : Nat := (cs.filter fun c => decide (c = 40)).length
theorem cntL_app (a b : List Nat) : cntL (a ++ b) = cntL a + cntL b := by unfold cntL; rw [List.filter_append, List.length_append]
/-! ### terms with holes -/
def holeN (j : Nat) : Str := Str.ofString "?" ++ (⟨#[97 + j]⟩ : Str)
mutual
inductive Hol : Tm → Tm → Prop
  | hole {n : Str} {j : Nat} : j < 3 → Hol (.mk n []) (.mk (holeN j) [])
  | node {n : Str} {as bs : List Tm} : Hols as bs → Hol (.mk n as) (.mk n bs)
inductive Hols : List Tm → List Tm → Prop
  | nil : Hols [] []
  | cons {a b : Tm} {as bs : List Tm} : Hol a b → Hols as bs → Hols (a :: as) (b :: bs)
end
theorem Hols.app : ∀ {as bs cs ds : List Tm}, Hols as bs → Hols cs ds → Hols (as ++ cs) (bs ++ ds)
  | _, _, _, _, .nil, h => h
  | _, _, _, _, .cons h t, g => .cons h (Hols.app t g)
theorem Hols.len : ∀ {as bs : List Tm}, Hols as bs → as.length = bs.length
  | _, _, .nil => rfl
  | _, _, .cons _ t => congrArg Nat.succ (Hols.len t)
theorem dep_get {n : Str} {args : List Tm} {i : Nat} {t : Tm} (h : args[i]? = some t) : dep t + 1 ≤ dep (.mk n args) := by
  have := deps_get h
  rw [dep]
  omega
end TM

set_option Elab.async false
set_option linter.all false
set_option maxRecDepth 100000
set_option maxHeartbeats 4000000
/-! both readers always come to an end -/
namespace TM
open PySem DL
theorem Rd.total : ∀ (n : Nat) (r : List Str), r.length ≤ n → (∃ o, Rd r o) ∧ ∃ o, Rds r o
  | n, [], _ => ⟨⟨_, .nil⟩, ⟨_, .bad .nil⟩⟩
  | 0, _ :: _, h => by simp at h
  | n + 1, p :: r, h => by
    have hr : r.length ≤ n := by simpa using h
    have one : ∃ o, Rd (p :: r) o := by
      cases hs : inS p with
      | true => exact ⟨_, .stop hs⟩
      | false =>
        cases r with
        | nil => exact ⟨_, .leaf0 hs⟩
        | cons q r =>
          by_cases hq : q = opn
          · subst hq
            obtain ⟨o, g⟩ := (Rd.total n r (by simp at hr; omega)).2
            exact ⟨_, .node hs g⟩
          · exact ⟨_, .leaf hs hq⟩
    refine ⟨one, ?_⟩
    obtain ⟨o, g⟩ := one
    cases o with
    | none => exact ⟨_, .bad g⟩
    | some x =>
      obtain ⟨t, r'⟩ := x
      cases r' with
      | nil => exact ⟨_, .fin g⟩
      | cons q r2 =>
        obtain ⟨s, es, ne⟩ := g.suf _ _ rfl
        have hl := congrArg List.length es
        simp at hl
        by_cases hq : q = cls
        · subst hq
          exact ⟨_, .last g⟩
        · cases hc : inC q with
          | false => exact ⟨_, .odd g hc⟩
          | true =>
            obtain ⟨o2, g2⟩ := (Rd.total n r2 (by omega)).2
            exact ⟨_, .more g hc hq g2⟩
theorem LR.total : ∀ (n : Nat) (r : List Nat), r.length ≤ n → (∃ o, LR r o) ∧ ∃ o, LRs r o
  | n, [], _ => ⟨⟨_, .none rfl⟩, ⟨_, .bad (.none rfl)⟩⟩
  | 0, _ :: _, h => by simp at h
  | n + 1, c :: r, h => by
    have one : ∃ o, LR (c :: r) o := by
      by_cases h0 : nmOf (c :: r) = []
      · exact ⟨_, .none h0⟩
      · by_cases h1 : (rsOf (c :: r)).take 1 = [40]
        · obtain ⟨r1, hr⟩ : ∃ r1, rsOf (c :: r) = 40 :: r1 := by
            cases e : rsOf (c :: r) with
            | nil => rw [e] at h1; cases h1
            | cons d r1 =>
              rw [e] at h1
              have : d = 40 := by simpa using h1
              exact ⟨r1, by rw [this]⟩
          have hl := congrArg List.length (nm_rs (c :: r))
          rw [hr] at hl
          simp at hl h
          obtain ⟨o, g⟩ := (LR.total n r1 (by omega)).2
          exact ⟨_, .node h0 hr g⟩
        · exact ⟨_, .leaf h0 h1⟩
    refine ⟨one, ?_⟩
    obtain ⟨o, g⟩ := one
    cases o with
    | none => exact ⟨_, .bad g⟩
    | some x =>
      obtain ⟨t, r'⟩ := x
      obtain ⟨s, es, ne⟩ := g.suf _ _ rfl
      have hl := congrArg List.length es
      have hp := List.length_pos_iff.mpr ne
      by_cases h41 : r'.take 1 = [41]
      · obtain ⟨r2, hr⟩ : ∃ r2, r' = 41 :: r2 := by
          cases r' with
          | nil => cases h41
          | cons d r1 =>
            have : d = 41 := by simpa using h41
            exact ⟨r1, by rw [this]⟩
        subst hr
        exact ⟨_, .last g⟩
      · by_cases h44 : r'.take 2 = [44, 32]
        · obtain ⟨r2, hr⟩ : ∃ r2, r' = 44 :: 32 :: r2 := by
            cases r' with
            | nil => cases h44
            | cons d r1 =>
              cases r1 with
              | nil => simp at h44
              | cons e r1 =>
                have : d = 44 ∧ e = 32 := by simpa using h44
                exact ⟨r1, by rw [this.1, this.2]⟩
          subst hr
          simp at hl h
          obtain ⟨o2, g2⟩ := (LR.total n r2 (by omega)).2
          exact ⟨_, .more g g2⟩
        · exact ⟨_, .odd g h41 h44⟩
theorem Rd.ex (r : List Str) : ∃ o, Rd r o := (Rd.total r.length r (Nat.le_refl _)).1
theorem LR.ex (r : List Nat) : ∃ o, LR r o := (LR.total r.length r (Nat.le_refl _)).1
theorem Ns.ex (z : Str) : ∃ o, Ns z o := by
  by_cases h : 200 < lpar z
  · exact ⟨_, .much h⟩
  · obtain ⟨o, g⟩ := Rd.ex (pcs z)
    exact ⟨_, .read h g⟩
end TM

set_option Elab.async false
set_option linter.all false
set_option maxRecDepth 100000
set_option maxHeartbeats 4000000
/-! the law's reader reads what is written -/
namespace TM
open PySem DL
def ch (z : Str) : List Nat := z.cps.toList
theorem ch_app (a b : Str) : ch (a ++ b) = ch a ++ ch b := by
  show (a.cps ++ b.cps).toList = _
  simp [ch]
theorem txt_ch (z : Str) : txt (ch z) = z := txt_self z
def okN (n : Str) : Prop := ch n ≠ [] ∧ ∀ c ∈ ch n, ¬ c ∈ ST4
mutual
def okT : Tm → Prop
  | .mk n args => okN n ∧ okTs args
def okTs : List Tm → Prop
  | [] => True
  | t :: ts => okT t ∧ okTs ts
end
/-- what may stand behind a name: nothing, or a stop -/
def stopAt (r : List Nat) : Prop := ∀ c r', r = c :: r' → c ∈ ST4
theorem nm_split : ∀ {a r : List Nat}, (∀ c ∈ a, ¬ c ∈ ST4) → stopAt r → nmOf (a ++ r) = a ∧ rsOf (a ++ r) = r
  | [], r, _, h => by
    cases r with
    | nil => exact ⟨rfl, rfl⟩
    | cons c r =>
      have hc := h c r rfl
      unfold nmOf rsOf
      rw [List.nil_append, List.takeWhile_cons, List.dropWhile_cons, decide_eq_true hc]
      exact ⟨rfl, rfl⟩
  | c :: a, r, h, g => by
    have hc := h c (List.mem_cons_self ..)
    obtain ⟨i1, i2⟩ := nm_split (a := a) (r := r) (fun d hd => h d (List.mem_cons_of_mem _ hd)) g
    unfold nmOf at i1 ⊢
    unfold rsOf at i2 ⊢
    rw [List.cons_append, List.takeWhile_cons, List.dropWhile_cons, decide_eq_false hc]
    exact ⟨congrArg (c :: ·) i1, i2⟩
mutual
theorem LR.wr : ∀ (t : Tm) (r : List Nat), okT t → stopAt r → r.take 1 ≠ [40] → LR (ch (wr t) ++ r) (some (t, r))
  | .mk n args, r, h, hs, h4 => by
    rw [okT] at h
    obtain ⟨⟨n0, nf⟩, ha⟩ := h
    by_cases h0 : args.length = 0
    · have : args = [] := List.length_eq_zero_iff.mp h0
      subst this
      rw [wr_leaf h0]
      obtain ⟨e1, e2⟩ := nm_split (a := ch n) (r := r) nf hs
      have := LR.leaf (cs := ch n ++ r) (by rw [e1]; exact n0) (by rw [e2]; exact h4)
      rw [e1, e2, txt_ch] at this
      exact this
    · rw [wr_node h0, ch_app, ch_app, ch_app, List.append_assoc, List.append_assoc, List.append_assoc]
      have hst : stopAt (ch (Str.ofString "(") ++ (ch (Txt.join comma (wrs args)) ++ (ch (Str.ofString ")") ++ r))) := fun c r' e => by
        have : c = 40 := (List.cons.inj e).1.symm
        rw [this]
        decide
      obtain ⟨e1, e2⟩ := nm_split (a := ch n) nf hst
      have g := LRs.wr args r ha h0
      have := LR.node (by rw [e1]; exact n0) e2 g
      rw [e1, txt_ch] at this
      exact this
theorem LRs.wr : ∀ (ts : List Tm) (r : List Nat), okTs ts → ¬ ts.length = 0 → LRs (ch (Txt.join comma (wrs ts)) ++ (ch (Str.ofString ")") ++ r)) (some (ts, r))
  | [], _, _, h => absurd rfl h
  | [t], r, h, _ => by
    rw [okTs] at h
    have e : Txt.join comma (wrs [t]) = TM.wr t := by rw [wrs, wrs, TL.join_eq]; rfl
    rw [e]
    exact .last (LR.wr t (41 :: r) h.1 (fun c r' e => by rw [← (List.cons.inj e).1]; decide) (by simp))
  | t :: u :: ts, r, h, _ => by
    rw [okTs] at h
    have e : Txt.join comma (wrs (t :: u :: ts)) = TM.wr t ++ comma ++ Txt.join comma (wrs (u :: ts)) := by
      rw [wrs, wrs, TL.join_eq, TL.join_eq]
      rfl
    rw [e, ch_app, ch_app, List.append_assoc, List.append_assoc]
    exact .more (LR.wr t (44 :: 32 :: (ch (Txt.join comma (wrs (u :: ts))) ++ (ch (Str.ofString ")") ++ r))) h.1 (fun c r' e => by rw [← (List.cons.inj e).1]; decide) (by simp)) (LRs.wr (u :: ts) r h.2 (by simp))
end
end TM

set_option Elab.async false
set_option linter.all false
set_option maxRecDepth 100000
set_option maxHeartbeats 4000000
/-! the program's reader reads what is written -/
namespace TM
open PySem DL
theorem st4_iff (c : Nat) : c ∈ ST4 ↔ (c ∈ STP ∨ c = 32) := by
  unfold ST4 STP
  simp only [List.mem_cons, List.not_mem_nil, or_false]
  omega
theorem pcsL_nm : ∀ {a r nm : List Nat}, (∀ c ∈ a, ¬ c ∈ ST4) → stopAt r → nm ++ a ≠ [] → pcsL (a ++ r) nm = txt (nm ++ a) :: pcsL r []
  | [], r, nm, _, h, hn => by
    have hn : nm ≠ [] := by simpa using hn
    have f : flushL nm = [txt nm] := by unfold flushL; rw [if_neg hn]
    have f0 : flushL [] = [] := rfl
    rw [List.append_nil, List.nil_append]
    cases r with
    | nil =>
      rw [pcsL, pcsL, f, f0]
    | cons c r =>
      have hc := (st4_iff c).mp (h c r rfl)
      rw [pcsL, pcsL, if_pos hc, if_pos hc, f, f0]
      rfl
  | c :: a, r, nm, h, g, _ => by
    have hc : ¬ (c ∈ STP ∨ c = 32) := fun z => h c (List.mem_cons_self ..) ((st4_iff c).mpr z)
    rw [List.cons_append, pcsL, if_neg hc, pcsL_nm (a := a) (nm := nm ++ [c]) (fun d hd => h d (List.mem_cons_of_mem _ hd)) g (by simp)]
    simp
theorem inS_good {n : Str} (h : okN n) : inS n = false := by
  cases e : inS n with
  | false => rfl
  | true =>
    obtain ⟨i, hi, hs⟩ := (StrLaws.found_iff (Str.ofString "(),") n).mp e
    obtain ⟨h0, h1⟩ := h
    exfalso
    have e1 : (Str.ofString "(),").cps.extract i (i + n.length) = n.cps := by
      unfold Builtin.Str.subAt at hs
      exact eq_of_beq hs
    cases hc : ch n with
    | nil => exact h0 hc
    | cons c r =>
      have m : c ∈ n.cps := by
        rw [← Array.mem_toList_iff]
        show c ∈ ch n
        rw [hc]
        exact List.mem_cons_self ..
      rw [← e1] at m
      have m2 : c ∈ (Str.ofString "(),").cps := by
        rw [Array.mem_iff_getElem] at m ⊢
        obtain ⟨j, hj, ej⟩ := m
        rw [Array.getElem_extract] at ej
        exact ⟨i + j, by rw [Array.size_extract] at hj; omega, ej⟩
      have m3 := (mem_stops c).mp m2
      exact h1 c (by rw [hc]; exact List.mem_cons_self ..) ((st4_iff c).mpr (.inl m3))
def endAt (r : List Nat) : Prop := r = [] ∨ (∃ r', r = 41 :: r') ∨ ∃ r', r = 44 :: r'
theorem endAt.stop {r : List Nat} (h : endAt r) : stopAt r := fun c r' e => by
  rcases h with h | ⟨x, h⟩ | ⟨x, h⟩ <;> rw [h] at e
  · cases e
  · rw [← (List.cons.inj e).1]; decide
  · rw [← (List.cons.inj e).1]; decide
theorem pcs_stop {c : Nat} {r : List Nat} (h : c ∈ STP) : pcsL (c :: r) [] = (⟨#[c]⟩ : Str) :: pcsL r [] := by
  have h32 : ¬ c = 32 := fun e => by rw [e] at h; exact absurd h (by decide)
  rw [pcsL, if_pos (.inl h), if_neg h32]
  rfl
theorem pcs_blank {r : List Nat} : pcsL (32 :: r) [] = pcsL r [] := by
  rw [pcsL, if_pos (.inr rfl), if_pos rfl]
  rfl
theorem inC_comma : inC (⟨#[44]⟩ : Str) = true := by decide +kernel
mutual
theorem Rd.wr : ∀ (t : Tm) (r : List Nat), okT t → endAt r → Rd (pcsL (ch (wr t) ++ r) []) (some (t, pcsL r []))
  | .mk n args, r, h, he => by
    rw [okT] at h
    obtain ⟨hn, ha⟩ := h
    have hs := inS_good hn
    obtain ⟨n0, nf⟩ := id hn
    by_cases h0 : args.length = 0
    · have : args = [] := List.length_eq_zero_iff.mp h0
      subst this
      rw [wr_leaf h0, pcsL_nm (nm := []) nf he.stop (by simpa using n0), List.nil_append, txt_ch]
      rcases he with rfl | ⟨r', rfl⟩ | ⟨r', rfl⟩
      · exact .leaf0 hs
      · rw [pcs_stop (by decide)]
        exact .leaf hs (by decide +kernel)
      · rw [pcs_stop (by decide)]
        exact .leaf hs (by decide +kernel)
    · rw [wr_node h0, ch_app, ch_app, ch_app, List.append_assoc, List.append_assoc, List.append_assoc]
      have hst : stopAt (ch (Str.ofString "(") ++ (ch (Txt.join comma (wrs args)) ++ (ch (Str.ofString ")") ++ r))) := fun c r' e => by
        have : c = 40 := (List.cons.inj e).1.symm
        rw [this]
        decide
      rw [pcsL_nm (nm := []) nf hst (by simpa using n0), List.nil_append, txt_ch]
      have e : pcsL (ch (Str.ofString "(") ++ (ch (Txt.join comma (wrs args)) ++ (ch (Str.ofString ")") ++ r))) [] = opn :: pcsL (ch (Txt.join comma (wrs args)) ++ (ch (Str.ofString ")") ++ r)) [] := pcs_stop (c := 40) (by decide)
      rw [e]
      exact .node hs (Rds.wr args r ha h0)
theorem Rds.wr : ∀ (ts : List Tm) (r : List Nat), okTs ts → ¬ ts.length = 0 → Rds (pcsL (ch (Txt.join comma (wrs ts)) ++ (ch (Str.ofString ")") ++ r)) []) (some (ts, pcsL r []))
  | [], _, _, h => absurd rfl h
  | [t], r, h, _ => by
    rw [okTs] at h
    have e : Txt.join comma (wrs [t]) = TM.wr t := by rw [wrs, wrs, TL.join_eq]; rfl
    rw [e]
    have g := Rd.wr t (41 :: r) h.1 (.inr (.inl ⟨r, rfl⟩))
    rw [pcs_stop (by decide)] at g
    exact .last g
  | t :: u :: ts, r, h, _ => by
    rw [okTs] at h
    have e : Txt.join comma (wrs (t :: u :: ts)) = TM.wr t ++ comma ++ Txt.join comma (wrs (u :: ts)) := by
      rw [wrs, wrs, TL.join_eq, TL.join_eq]
      rfl
    rw [e, ch_app, ch_app, List.append_assoc, List.append_assoc]
    have g := Rd.wr t (44 :: 32 :: (ch (Txt.join comma (wrs (u :: ts))) ++ (ch (Str.ofString ")") ++ r))) h.1 (.inr (.inr ⟨_, rfl⟩))
    rw [pcs_stop (by decide), pcs_blank] at g
    exact .more g inC_comma (by decide +kernel) (Rds.wr (u :: ts) r h.2 (by simp))
end
/-- the written text of a good term is read -/
theorem Rd.whole {t : Tm} (h : okT t) : Rd (pcs (TM.wr t)) (some (t, [])) := by
  have g := Rd.wr t [] h (.inl rfl)
  rw [List.append_nil] at g
  exact g
end TM

set_option Elab.async false
set_option linter.all false
set_option maxRecDepth 100000
set_option maxHeartbeats 4000000
/-! what the law's reader reads is what is written -/
namespace TM
open PySem DL
theorem ch_txt (cs : List Nat) : ch (txt cs) = cs := by unfold ch txt; simp
theorem mem_while {p : Nat → Bool} : ∀ {cs : List Nat} {c : Nat}, c ∈ cs.takeWhile p → p c = true
  | d :: cs, c, h => by
    rw [List.takeWhile_cons] at h
    cases hd : p d with
    | true =>
      rw [hd] at h
      rcases List.mem_cons.mp h with rfl | h
      · exact hd
      · exact mem_while h
    | false =>
      rw [hd] at h
      exact absurd h (by simp)
theorem mem_nm {cs : List Nat} : ∀ c ∈ nmOf cs, ¬ c ∈ ST4 := fun c h => by
  have := mem_while h
  simpa using this
theorem okN_nm {cs : List Nat} (h : nmOf cs ≠ []) : okN (txt (nmOf cs)) := by
  unfold okN
  rw [ch_txt]
  exact ⟨h, mem_nm⟩
mutual
theorem LR.sound : ∀ {cs : List Nat} {o : Option (Tm × List Nat)}, LR cs o → ∀ t r, o = some (t, r) → cs = ch (TM.wr t) ++ r ∧ okT t
  | _, _, .none _, _, _, e => nomatch e
  | cs, _, .leaf h _, _, _, e => by
    cases e
    rw [wr_leaf rfl, ch_txt, okT]
    exact ⟨(nm_rs cs).symm, okN_nm h, True.intro⟩
  | cs, _, .node (r := r1) (o := o) h hr g, t, r', e => by
    cases o with
    | none => cases e
    | some x =>
      cases e
      obtain ⟨es, ok, ne⟩ := LRs.sound g x.1 x.2 rfl
      have hn := nm_rs cs
      rw [hr, es] at hn
      rw [okT]
      refine ⟨?_, okN_nm h, ok⟩
      rw [wr_node ne, ch_app, ch_app, ch_app, ch_txt, List.append_assoc, List.append_assoc, List.append_assoc]
      exact hn.symm
theorem LRs.sound : ∀ {cs : List Nat} {o : Option (List Tm × List Nat)}, LRs cs o → ∀ ts r, o = some (ts, r) → cs = ch (Txt.join comma (wrs ts)) ++ (ch (Str.ofString ")") ++ r) ∧ okTs ts ∧ ¬ ts.length = 0
  | _, _, .bad _, _, _, e => nomatch e
  | _, _, .odd _ _ _, _, _, e => nomatch e
  | _, _, .last (r2 := r2) (t := t) h, _, _, e => by
    cases e
    obtain ⟨es, ok⟩ := LR.sound h _ _ rfl
    have e : Txt.join comma (wrs [t]) = TM.wr t := by rw [wrs, wrs, TL.join_eq]; rfl
    rw [e, okTs]
    exact ⟨es, ⟨ok, True.intro⟩, by simp⟩
  | _, _, .more (r2 := r2) (t := t) (o := o) h g, ts, r', e => by
    cases o with
    | none => cases e
    | some x =>
      obtain ⟨us, r3⟩ := x
      cases e
      obtain ⟨es, ok⟩ := LR.sound h _ _ rfl
      obtain ⟨es2, ok2, ne⟩ := LRs.sound g us r3 rfl
      cases us with
      | nil => exact absurd rfl ne
      | cons u us =>
        have e : Txt.join comma (wrs (t :: u :: us)) = TM.wr t ++ comma ++ Txt.join comma (wrs (u :: us)) := by
          rw [wrs, wrs, TL.join_eq, TL.join_eq]
          rfl
        rw [okTs]
        refine ⟨?_, ⟨ok, ok2⟩, by simp⟩
        rw [e, ch_app, ch_app, List.append_assoc, List.append_assoc, es, es2]
        rfl
end
end TM

set_option Elab.async false
set_option linter.all false
set_option maxRecDepth 100000
set_option maxHeartbeats 4000000
/-! both readers are functions, and agree -/
namespace TM
open PySem DL
mutual
theorem Rd.det : ∀ {r : List Str} {o o' : Option (Tm × List Str)}, Rd r o → Rd r o' → o = o'
  | _, _, _, .nil, .nil => rfl
  | _, _, _, .stop _, .stop _ => rfl
  | _, _, _, .stop h, .leaf0 g => by rw [h] at g; cases g
  | _, _, _, .stop h, .leaf g _ => by rw [h] at g; cases g
  | _, _, _, .stop h, .node g _ => by rw [h] at g; cases g
  | _, _, _, .leaf0 h, .stop g => by rw [h] at g; cases g
  | _, _, _, .leaf0 _, .leaf0 _ => rfl
  | _, _, _, .leaf h _, .stop g => by rw [h] at g; cases g
  | _, _, _, .leaf _ _, .leaf _ _ => rfl
  | _, _, _, .leaf _ n, .node _ _ => absurd rfl n
  | _, _, _, .node h _, .stop g => by rw [h] at g; cases g
  | _, _, _, .node _ _, .leaf _ n => absurd rfl n
  | _, _, _, .node _ a, .node _ b => by rw [Rds.det a b]
theorem Rds.det : ∀ {r : List Str} {o o' : Option (List Tm × List Str)}, Rds r o → Rds r o' → o = o'
  | _, _, _, .bad _, .bad _ => rfl
  | _, _, _, .bad a, .fin b => by have := Rd.det a b; cases this
  | _, _, _, .bad a, .odd b _ => by have := Rd.det a b; cases this
  | _, _, _, .bad a, .last b => by have := Rd.det a b; cases this
  | _, _, _, .bad a, .more b _ _ _ => by have := Rd.det a b; cases this
  | _, _, _, .fin a, .bad b => by have := Rd.det a b; cases this
  | _, _, _, .fin _, .fin _ => rfl
  | _, _, _, .fin _, .odd _ _ => rfl
  | _, _, _, .fin a, .last b => by have := Rd.det a b; cases this
  | _, _, _, .fin a, .more b _ _ _ => by have := Rd.det a b; cases this
  | _, _, _, .odd a _, .bad b => by have := Rd.det a b; cases this
  | _, _, _, .odd _ _, .fin _ => rfl
  | _, _, _, .odd _ _, .odd _ _ => rfl
  | _, _, _, .odd a c, .last b => by
    have := Rd.det a b
    cases this
    rw [inC_cls] at c
    cases c
  | _, _, _, .odd a c, .more b d _ _ => by
    have := Rd.det a b
    cases this
    rw [d] at c
    cases c
  | _, _, _, .last a, .bad b => by have := Rd.det a b; cases this
  | _, _, _, .last a, .fin b => by have := Rd.det a b; cases this
  | _, _, _, .last a, .odd b c => by
    have := Rd.det a b
    cases this
    rw [inC_cls] at c
    cases c
  | _, _, _, .last a, .last b => by
    have := Rd.det a b
    cases this
    rfl
  | _, _, _, .last a, .more b _ n _ => by
    have := Rd.det a b
    cases this
    exact absurd rfl n
  | _, _, _, .more a _ _ _, .bad b => by have := Rd.det a b; cases this
  | _, _, _, .more a _ _ _, .fin b => by have := Rd.det a b; cases this
  | _, _, _, .more a d _ _, .odd b c => by
    have := Rd.det a b
    cases this
    rw [d] at c
    cases c
  | _, _, _, .more a _ n _, .last b => by
    have := Rd.det a b
    cases this
    exact absurd rfl n
  | _, _, _, .more a _ _ g, .more b _ _ h => by
    have := Rd.det a b
    cases this
    rw [Rds.det g h]
end
theorem LR.dets : ∀ (n : Nat) (r : List Nat), r.length ≤ n → (∀ o o', LR r o → LR r o' → o = o') ∧ ∀ o o', LRs r o → LRs r o' → o = o' := fun n => by
  induction n with
  | zero =>
    intro r h
    have : r = [] := List.length_eq_zero_iff.mp (by omega)
    subst this
    have no : ∀ o, LR [] o → o = Option.none := fun o h => by
      cases h with
      | none _ => rfl
      | leaf h _ => exact absurd rfl h
      | node h _ _ => exact absurd rfl h
    have no2 : ∀ o, LRs [] o → o = Option.none := fun o h => by
      cases h with
      | bad _ => rfl
      | last h => have := no _ h; cases this
      | odd h _ _ => rfl
      | more h _ => have := no _ h; cases this
    exact ⟨fun o o' a b => by rw [no o a, no o' b], fun o o' a b => by rw [no2 o a, no2 o' b]⟩
  | succ n ih =>
    intro r h
    have one : ∀ o o', LR r o → LR r o' → o = o' := fun o o' a b => by
      cases a with
      | none a =>
        cases b with
        | none _ => rfl
        | leaf g _ => exact absurd a g
        | node g _ _ => exact absurd a g
      | leaf a1 a2 =>
        cases b with
        | none g => exact absurd g a1
        | leaf _ _ => rfl
        | node _ e _ => rw [e] at a2; exact absurd rfl a2
      | @node _ r1 o1 a1 a2 a3 =>
        cases b with
        | none g => exact absurd g a1
        | leaf _ e => rw [a2] at e; exact absurd rfl e
        | @node _ r2 o2 _ e b3 =>
          rw [a2] at e
          cases e
          have hl : r1.length ≤ n := by
            have := congrArg List.length (nm_rs r)
            rw [List.length_append, a2] at this
            have : (40 :: r1).length = r1.length + 1 := rfl
            omega
          rw [(ih r1 hl).2 o1 o2 a3 b3]
    refine ⟨one, fun o o' a b => ?_⟩
    cases a with
    | bad a =>
      cases b with
      | bad _ => rfl
      | last b => have := one _ _ a b; cases this
      | odd b _ _ => rfl
      | more b _ => have := one _ _ a b; cases this
    | last a =>
      cases b with
      | bad b => have := one _ _ a b; cases this
      | last b => have := one _ _ a b; cases this; rfl
      | odd b n1 _ => have := one _ _ a b; cases this; exact absurd rfl n1
      | more b _ => have := one _ _ a b; cases this
    | odd a n1 n2 =>
      cases b with
      | bad _ => rfl
      | last b => have := one _ _ a b; cases this; exact absurd rfl n1
      | odd _ _ _ => rfl
      | more b _ => have := one _ _ a b; cases this; exact absurd rfl n2
    | @more _ r1 t o1 a g =>
      cases b with
      | bad b => have := one _ _ a b; cases this
      | last b => have := one _ _ a b; cases this
      | odd b _ n2 => have := one _ _ a b; cases this; exact absurd rfl n2
      | @more _ r2 t2 o2 b g2 =>
        have := one _ _ a b
        cases this
        have hl : r1.length ≤ n := by
          obtain ⟨s, es, _⟩ := LR.suf a _ _ rfl
          have := congrArg List.length es
          rw [List.length_append] at this
          have : (44 :: 32 :: r1).length = r1.length + 2 := rfl
          omega
        rw [(ih r1 hl).2 o1 o2 g g2]
theorem LR.det {r : List Nat} {o o' : Option (Tm × List Nat)} (a : LR r o) (b : LR r o') : o = o' := (LR.dets r.length r (Nat.le_refl _)).1 o o' a b
/-! names that the program reads -/
def gP (p : Str) : Prop := okN p ∨ inS p = true
theorem gP_flush {nm : List Nat} (h : ∀ c ∈ nm, ¬ c ∈ ST4) : ∀ p ∈ flushL nm, gP p := fun p m => by
  unfold flushL at m
  by_cases e : nm = []
  · rw [if_pos e] at m
    cases m
  · rw [if_neg e] at m
    rw [List.mem_singleton.mp m]
    exact .inl ⟨by rw [ch_txt]; exact e, by rw [ch_txt]; exact h⟩
theorem inS_stop {c : Nat} (h : c ∈ STP) : inS (⟨#[c]⟩ : Str) = true := by
  have : c = 40 ∨ c = 41 ∨ c = 44 := by simpa [STP] using h
  rcases this with rfl | rfl | rfl <;> decide +kernel
theorem gP_pcs : ∀ (cs nm : List Nat), (∀ c ∈ nm, ¬ c ∈ ST4) → ∀ p ∈ pcsL cs nm, gP p
  | [], nm, h => by rw [pcsL]; exact gP_flush h
  | c :: r, nm, h => by
    rw [pcsL]
    by_cases hc : c ∈ STP ∨ c = 32
    · rw [if_pos hc]
      intro p m
      rcases List.mem_append.mp m with m | m
      · exact gP_flush h p m
      · rcases List.mem_append.mp m with m | m
        · by_cases h32 : c = 32
          · rw [if_pos h32] at m
            cases m
          · rw [if_neg h32] at m
            rw [List.mem_singleton.mp m]
            exact .inr (inS_stop (hc.resolve_right h32))
        · exact gP_pcs r [] (fun _ m => nomatch m) p m
    · rw [if_neg hc]
      exact gP_pcs r (nm ++ [c]) fun d m => by
        rcases List.mem_append.mp m with m | m
        · exact h d m
        · rw [List.mem_singleton.mp m]
          exact fun z => hc ((st4_iff c).mp z)
theorem gP.name {p : Str} (g : gP p) (h : inS p = false) : okN p := g.elim id fun e => by rw [e] at h; cases h
mutual
theorem Rd.names : ∀ {r : List Str} {o : Option (Tm × List Str)}, Rd r o → (∀ p ∈ r, gP p) → ∀ t r', o = some (t, r') → okT t
  | _, _, .nil, _, _, _, e => nomatch e
  | _, _, .stop _, _, _, _, e => nomatch e
  | _, _, .leaf0 (p := p) h, g, _, _, e => by
    cases e
    rw [okT]
    exact ⟨(g p List.mem_cons_self).name h, by rw [okTs]; trivial⟩
  | _, _, .leaf (p := p) h _, g, _, _, e => by
    cases e
    rw [okT]
    exact ⟨(g p List.mem_cons_self).name h, by rw [okTs]; trivial⟩
  | _, _, .node (p := p) (o := o) h a, g, _, _, e => by
    cases o with
    | none => cases e
    | some x =>
      cases e
      rw [okT]
      exact ⟨(g p List.mem_cons_self).name h, Rds.names a (fun q m => g q (List.mem_cons_of_mem _ (List.mem_cons_of_mem _ m))) x.1 x.2 rfl⟩
theorem Rds.names : ∀ {r : List Str} {o : Option (List Tm × List Str)}, Rds r o → (∀ p ∈ r, gP p) → ∀ ts r', o = some (ts, r') → okTs ts
  | _, _, .bad _, _, _, _, e => nomatch e
  | _, _, .fin _, _, _, _, e => nomatch e
  | _, _, .odd _ _, _, _, _, e => nomatch e
  | _, _, .last a, g, _, _, e => by
    cases e
    rw [okTs, okTs]
    exact ⟨Rd.names a g _ _ rfl, trivial⟩
  | _, _, .more (r2 := r2) (o := o) a _ _ b, g, _, _, e => by
    cases o with
    | none => cases e
    | some x =>
      cases e
      rw [okTs]
      obtain ⟨s, es, _⟩ := Rd.suf a _ _ rfl
      exact ⟨Rd.names a g _ _ rfl, Rds.names b (fun q m => g q (by rw [es]; exact List.mem_append_right _ (List.mem_cons_of_mem _ m))) x.1 x.2 rfl⟩
end
theorem Ns.good {z : Str} {t : Tm} (h : Ns z (some t)) : wr t = z ∧ okT t := by
  generalize ho : some t = o at h
  cases h with
  | much _ => cases ho
  | @read o hp hR =>
    cases o with
    | none => cases ho
    | some x =>
      obtain ⟨u, r⟩ := x
      have e : finO z (some (u, r)) = if r = [] ∧ wr u = z then some u else none := rfl
      rw [e] at ho
      split at ho
      · rename_i h
        cases ho
        exact ⟨h.2, Rd.names hR (gP_pcs _ [] fun _ m => nomatch m) _ _ rfl⟩
      · cases ho
theorem Ns.ok {t : Tm} {o : Option Tm} (h : Ns (wr t) o) (g : okT t) (hp : ¬ 200 < lpar (wr t)) : o = some t := by
  cases h with
  | much h => exact absurd h hp
  | read _ hR =>
    rw [Rd.det hR (Rd.whole g)]
    show (if _ then _ else _) = _
    rw [if_pos ⟨rfl, rfl⟩]
/-- what the law reads of a whole text -/
def allO : Option (Tm × List Nat) → Option Tm
  | some (t, r) => if r = [] then some t else none
  | none => none
theorem both {z : Str} {o : Option Tm} {o' : Option (Tm × List Nat)} (h : Ns z o) (g : LR (ch z) o') (hp : ¬ 200 < lpar z) : o = allO o' := by
  have fw : ∀ t, o' = some (t, []) → o = some t := fun t e => by
    obtain ⟨ez, ok⟩ := LR.sound g t [] e
    rw [List.append_nil] at ez
    have : z = wr t := by rw [← txt_ch z, ez, txt_ch]
    rw [this] at h hp
    exact Ns.ok h ok hp
  have bw : ∀ t, o = some t → o' = some (t, []) := fun t e => by
    rw [e] at h
    obtain ⟨ez, ok⟩ := Ns.good h
    have l := LR.wr t [] ok (fun c r' e => nomatch e) (fun e => nomatch e)
    rw [List.append_nil, ez] at l
    exact LR.det g l
  cases ho : allO o' with
  | some t =>
    cases o' with
    | none => cases ho
    | some x =>
      obtain ⟨u, r⟩ := x
      have e : allO (some (u, r)) = if r = [] then some u else none := rfl
      rw [e] at ho
      split at ho
      · rename_i hr
        cases ho
        exact fw t (by rw [hr])
      · cases ho
  | none =>
    cases o with
    | none => rfl
    | some t =>
      rw [bw t rfl] at ho
      cases ho
end TM

set_option Elab.async false
set_option linter.all false
set_option maxRecDepth 100000
set_option maxHeartbeats 4000000
/-! rows of signatures are sorted; drawn signatures -/
namespace TM
open PySem DL PySem.W
theorem alike_strs : ∀ xs ys : List Str, alikeAll (xs.map .str) (ys.map .str) = true
  | [], _ => by simp [alikeAll]
  | _ :: _, [] => by simp [alikeAll]
  | x :: xs, y :: ys => by
    show alikeAll (.str x :: xs.map .str) (.str y :: ys.map .str) = true
    rw [alikeAll, alike_strs xs ys]
    simp [alike]
theorem depth_strs : ∀ xs : List Str, PyData.depthAll (xs.map .str) = 0
  | [] => by simp [PyData.depthAll]
  | x :: xs => by
    show PyData.depthAll (.str x :: xs.map .str) = 0
    rw [PyData.depthAll, depth_strs xs]
    simp [PyData.depth]
theorem lay_strs : ∀ xs : List Str, noDs (xs.map .str) = true
  | [] => by simp [noDs]
  | x :: xs => by
    show noDs (.str x :: xs.map .str) = true
    rw [noDs, lay_strs xs]
    simp [noD]
theorem rows_srt (rs : List Op) : SrtOk (rs.map rowD) := by
  refine ⟨AllAlike.of fun b b' => ?_, Sortable.tuples fun b => ⟨_, _, rfl⟩, fun d hd => ?_⟩
  · unfold rowD
    simp only [alike, alikeAll, alike_strs, Bool.and_self]
  · obtain ⟨r, _, rfl⟩ := List.mem_map.mp hd
    unfold rowD
    refine ⟨by simp [noD, noDs, lay_strs], ?_⟩
    simp [PyData.depth, PyData.depthAll, depth_strs]
theorem rows_sorted (rs : List Op) : ∃ rs' : List Op, rs'.Perm rs ∧ (rs.map rowD).mergeSort leD = rs'.map rowD :=
  ⟨rs.mergeSort fun a b => leD (rowD a) (rowD b), List.mergeSort_perm _ _, (List.map_mergeSort (r := fun a b => leD (rowD a) (rowD b)) (s := leD) (f := rowD) fun _ _ _ _ => rfl).symm⟩
/-! ### -/
def opNames : List Str := ["cnum", "ct", "dnum", "dt", "f", "g", "h", "k"]
def fghk : List Str := ["f", "g", "h", "k"]
/-- the rows as they are made: k of the four are there -/
def sortsL (b : Bool) : List Str := if b = true then ["num", "t"] else ["num"]
structure SigOk (sig : List Op) : Prop where
  len : sig.length ≤ 8
  nd : (sig.map (·.1)).Nodup
  nm : ∀ r ∈ sig, r.1 ∈ opNames
  ar : ∀ r ∈ sig, r.2.1.length ≤ 3
  lf : ∀ r ∈ sig, ∀ s, s = r.2.2 ∨ s ∈ r.2.1 → ∃ n, (n, [], s) ∈ sig
  ne : sig ≠ []
  so : ∀ r ∈ sig, r.2.2 ∈ sortsL true ∧ ∀ s ∈ r.2.1, s ∈ sortsL true
theorem SigOk.perm {a b : List Op} (h : SigOk a) (p : b.Perm a) : SigOk b :=
  ⟨by rw [p.length_eq]; exact h.len, (p.map _).nodup_iff.mpr h.nd, fun r m => h.nm r (p.mem_iff.mp m), fun r m => h.ar r (p.mem_iff.mp m), fun r m s e => let ⟨n, q⟩ := h.lf r (p.mem_iff.mp m) s e; ⟨n, p.mem_iff.mpr q⟩, fun e => h.ne (by rw [e] at p; exact List.nil_perm.mp p), fun r m => h.so r (p.mem_iff.mp m)⟩
def leafRows (b : Bool) : List Op := (sortsL b).map (fun s => (Str.ofString "c" ++ s, [], s)) ++ (sortsL b).map (fun s => (Str.ofString "d" ++ s, [], s))
structure RowsOk (b : Bool) (k : Nat) (rs : List Op) : Prop where
  len : rs.length ≤ 4 + k
  nms : rs.map (·.1) = (leafRows b).map (·.1) ++ fghk.take k
  ar : ∀ r ∈ rs, r.2.1.length ≤ 3
  srt : ∀ r ∈ rs, r.2.2 ∈ sortsL b ∧ ∀ s ∈ r.2.1, s ∈ sortsL b
  lf : ∀ s ∈ sortsL b, (Str.ofString "c" ++ s, [], s) ∈ rs
theorem rows_start (b : Bool) : RowsOk b 0 (leafRows b) := by
  cases b
  · refine ⟨by decide, by decide, by decide, by decide, by decide⟩
  · refine ⟨by decide, by decide, by decide, by decide, by decide⟩
theorem rows_next {b : Bool} {k : Nat} {rs : List Op} {n : Str} {ins : List Str} {out : Str} (h : RowsOk b k rs) (hn : fghk[k]? = some n) (hl : ins.length ≤ 3) (hi : ∀ s ∈ ins, s ∈ sortsL b) (ho : out ∈ sortsL b) : RowsOk b (k + 1) (rs ++ [(n, ins, out)]) := by
  refine ⟨by have := h.len; simp; omega, ?_, fun r m => ?_, fun r m => ?_, fun s m => List.mem_append_left _ (h.lf s m)⟩
  · rw [List.map_append, h.nms, List.take_add_one, hn, List.append_assoc]
    rfl
  · rcases List.mem_append.mp m with m | m
    · exact h.ar r m
    · rw [List.mem_singleton.mp m]; exact hl
  · rcases List.mem_append.mp m with m | m
    · exact h.srt r m
    · rw [List.mem_singleton.mp m]; exact ⟨ho, hi⟩
theorem rows_sig {b : Bool} {k : Nat} {rs : List Op} (h : RowsOk b k rs) (hk : k ≤ 4) : SigOk rs := by
  have nd : ((leafRows b).map (·.1) ++ fghk).Nodup ∧ ∀ x ∈ (leafRows b).map (·.1) ++ fghk, x ∈ opNames := by cases b <;> decide
  have sb : ∀ s ∈ sortsL b, s ∈ sortsL true := by cases b <;> decide
  have sub : ((leafRows b).map (·.1) ++ fghk.take k).Sublist ((leafRows b).map (·.1) ++ fghk) := List.Sublist.append (List.Sublist.refl _) (List.take_sublist _ _)
  refine ⟨by have := h.len; omega, by rw [h.nms]; exact nd.1.sublist sub, fun r m => ?_, h.ar, fun r m s e => ?_, fun e => ?_, fun r m => ⟨sb _ (h.srt r m).1, fun s q => sb s ((h.srt r m).2 s q)⟩⟩
  · have : r.1 ∈ rs.map (·.1) := List.mem_map.mpr ⟨r, m, rfl⟩
    rw [h.nms] at this
    exact nd.2 _ (sub.subset this)
  · refine ⟨_, h.lf s ?_⟩
    rcases e with rfl | e
    · exact (h.srt r m).1
    · exact (h.srt r m).2 s e
  · have := h.lf "num" (by cases b <;> decide)
    rw [e] at this
    cases this
theorem strOk_names : ∀ n ∈ opNames, PyData.strOk n = true := by decide +kernel
theorem strOk_sorts : ∀ n ∈ sortsL true, PyData.strOk n = true := by decide +kernel
theorem lay_oks : ∀ {xs : List Str}, (∀ s ∈ xs, PyData.strOk s = true) → PyData.canLayAll0 (xs.map .str) = true
  | [], _ => by simp [PyData.canLayAll0]
  | x :: xs, h => by
    show PyData.canLayAll0 (.str x :: xs.map .str) = true
    rw [PyData.canLayAll0, lay_oks fun s m => h s (List.mem_cons_of_mem _ m)]
    simp [PyData.canLay0, h x List.mem_cons_self]
theorem lay_row {sig : List Op} (h : SigOk sig) {r : Op} (m : r ∈ sig) : PyData.canLay0 (rowD r) = true := by
  unfold rowD
  simp [PyData.canLay0, PyData.canLayAll0, strOk_names _ (h.nm r m), strOk_sorts _ (h.so r m).1, lay_oks fun s q => strOk_sorts s ((h.so r m).2 s q)]
theorem depth_row (r : Op) : (rowD r).depth ≤ 2 := by
  unfold rowD
  simp [PyData.depth, PyData.depthAll, depth_strs]
theorem lay_all {ds : List PyData} (h : ∀ d ∈ ds, PyData.canLay0 d = true) : PyData.canLayAll0 ds = true := by
  induction ds with
  | nil => simp [PyData.canLayAll0]
  | cons d ds ih => simp [PyData.canLayAll0, h d List.mem_cons_self, ih fun x m => h x (List.mem_cons_of_mem _ m)]
theorem depth_all {n : Nat} : ∀ {ds : List PyData}, (∀ d ∈ ds, d.depth ≤ n) → PyData.depthAll ds ≤ n
  | [], _ => by simp [PyData.depthAll]
  | d :: ds, h => by
    have h1 := h d List.mem_cons_self
    have h2 := depth_all fun x m => h x (List.mem_cons_of_mem d m)
    rw [PyData.depthAll]
    omega
theorem shaped_of {d : PyData} (h : PyData.canLay0 d = true) (g : d.depth ≤ 64) : SeqAt.shaped d = true := Bool.and_eq_true_iff.mpr ⟨h, decide_eq_true g⟩
theorem shaped_rows {sig : List Op} (h : SigOk sig) {rs : List Op} (m : ∀ r ∈ rs, r ∈ sig) : SeqAt.shaped (.list (rs.map rowD)) = true := by
  refine shaped_of ?_ ?_
  · rw [PyData.canLay0]
    exact lay_all fun d q => by
      obtain ⟨r, hr, rfl⟩ := List.mem_map.mp q
      exact lay_row h (m r hr)
  · rw [PyData.depth]
    have := depth_all (n := 2) (ds := rs.map rowD) fun d q => by
      obtain ⟨r, hr, rfl⟩ := List.mem_map.mp q
      exact depth_row r
    omega
theorem shaped_ins {sig : List Op} (h : SigOk sig) {r : Op} (m : r ∈ sig) : SeqAt.shaped (.tuple (r.2.1.map PyData.str)) = true := by
  refine shaped_of ?_ ?_
  · rw [PyData.canLay0]
    exact lay_oks fun s q => strOk_sorts s ((h.so r m).2 s q)
  · rw [PyData.depth, depth_strs]
    omega
theorem eqv_ins (ins : List Str) : PyData.eqv (.tuple (ins.map PyData.str)) (.tuple []) = decide (ins = []) := by
  cases ins with
  | nil => decide +kernel
  | cons a b => simp [PyData.eqv, PyData.eqvAll]
theorem eqv_nil (ds : List PyData) : PyData.eqv (.list ds) (.list []) = decide (ds = []) := by
  cases ds with
  | nil => decide +kernel
  | cons a b => simp [PyData.eqv, PyData.eqvAll]
/-! drawn terms -/
mutual
inductive DT (sig : List Op) : Str → Nat → Tm → Prop
  | leaf {n srt : Str} {d : Nat} : (n, [], srt) ∈ sig → DT sig srt d (.mk n [])
  | num {d : Nat} : DT sig "num" d (.mk "7" [])
  | node {n srt : Str} {ins : List Str} {d : Nat} {args : List Tm} : (n, ins, srt) ∈ sig → ins ≠ [] → DTs sig ins d args → DT sig srt (d + 1) (.mk n args)
inductive DTs (sig : List Op) : List Str → Nat → List Tm → Prop
  | nil {d : Nat} : DTs sig [] d []
  | cons {i : Str} {is : List Str} {d : Nat} {t : Tm} {ts : List Tm} : DT sig i d t → DTs sig is d ts → DTs sig (i :: is) d (t :: ts)
end
theorem DTs.snoc {sig : List Op} {d : Nat} {i : Str} {t : Tm} : ∀ {is : List Str} {ts : List Tm}, DTs sig is d ts → DT sig i d t → DTs sig (is ++ [i]) d (ts ++ [t])
  | _, _, .nil, h => .cons h .nil
  | _, _, .cons a b, h => .cons a (DTs.snoc b h)
theorem DTs.len {sig : List Op} {d : Nat} : ∀ {is : List Str} {ts : List Tm}, DTs sig is d ts → ts.length = is.length
  | _, _, .nil => rfl
  | _, _, .cons _ b => congrArg Nat.succ (DTs.len b)
def tRows (sig : List Op) (srt : Str) : List Op := sig.filter fun r => decide (r.2.2 = srt ∧ r.2.1 ≠ [])
end TM

set_option Elab.async false
set_option linter.all false
set_option maxRecDepth 100000
set_option maxHeartbeats 4000000
/-! sizes of terms and of their texts; what is drawn is a term; what has holes is none -/
namespace TM
open PySem DL
mutual
def sz : Tm → Nat
  | .mk _ args => szs args + 1
def szs : List Tm → Nat
  | [] => 0
  | t :: ts => sz t + szs ts
end
mutual
def nm4 : Tm → Prop
  | .mk n args => (okN n ∧ (ch n).length ≤ 4 ∧ PyData.strOk n = true) ∧ nm4s args
def nm4s : List Tm → Prop
  | [] => True
  | t :: ts => nm4 t ∧ nm4s ts
end
mutual
theorem nm4.ok : ∀ {t : Tm}, nm4 t → okT t
  | .mk n args, h => by
    rw [nm4] at h
    rw [okT]
    exact ⟨h.1.1, nm4s.ok h.2⟩
theorem nm4s.ok : ∀ {ts : List Tm}, nm4s ts → okTs ts
  | [], _ => by rw [okTs]; trivial
  | t :: ts, h => by
    rw [nm4s] at h
    rw [okTs]
    exact ⟨nm4.ok h.1, nm4s.ok h.2⟩
end
theorem cnt_ok {n : Str} (h : okN n) : cntL (ch n) = 0 := by
  unfold cntL
  rw [List.length_eq_zero_iff, List.filter_eq_nil_iff]
  intro c m z
  exact h.2 c m (by rw [of_decide_eq_true z]; decide)
mutual
theorem wr_meas : ∀ {t : Tm}, nm4 t → (ch (wr t)).length + 2 ≤ 8 * sz t ∧ cntL (ch (wr t)) ≤ sz t
  | .mk n args, h => by
    rw [nm4] at h
    obtain ⟨⟨ok, l4, _⟩, ha⟩ := h
    rw [sz]
    by_cases h0 : args.length = 0
    · rw [wr_leaf h0, cnt_ok ok]
      omega
    · obtain ⟨a, b⟩ := wrs_meas ha h0
      have c1 : (ch (Str.ofString "(")).length = 1 := rfl
      have c2 : (ch (Str.ofString ")")).length = 1 := rfl
      have c3 : cntL (ch (Str.ofString "(")) = 1 := rfl
      have c4 : cntL (ch (Str.ofString ")")) = 0 := rfl
      rw [wr_node h0, ch_app, ch_app, ch_app, List.length_append, List.length_append, List.length_append, cntL_app, cntL_app, cntL_app, c1, c2, c3, c4, cnt_ok ok]
      omega
theorem wrs_meas : ∀ {ts : List Tm}, nm4s ts → ¬ ts.length = 0 → (ch (Txt.join comma (wrs ts))).length + 2 ≤ 8 * szs ts ∧ cntL (ch (Txt.join comma (wrs ts))) ≤ szs ts
  | [], _, h => absurd rfl h
  | [t], h, _ => by
    rw [nm4s] at h
    have e : Txt.join comma (wrs [t]) = TM.wr t := by rw [wrs, wrs, TL.join_eq]; rfl
    rw [e, szs, szs]
    exact wr_meas h.1
  | t :: u :: ts, h, _ => by
    rw [nm4s] at h
    have e : Txt.join comma (wrs (t :: u :: ts)) = TM.wr t ++ comma ++ Txt.join comma (wrs (u :: ts)) := by
      rw [wrs, wrs, TL.join_eq, TL.join_eq]
      rfl
    obtain ⟨a, b⟩ := wr_meas h.1
    obtain ⟨c, d⟩ := wrs_meas h.2 (by simp)
    have c1 : (ch comma).length = 2 := rfl
    have c2 : cntL (ch comma) = 0 := rfl
    rw [e, szs, ch_app, ch_app, List.length_append, List.length_append, cntL_app, cntL_app, c1, c2]
    omega
end
def tri : Nat → Nat
  | 0 => 1
  | d + 1 => 3 * tri d + 1
theorem tri_pos : ∀ d, 1 ≤ tri d
  | 0 => Nat.le_refl _
  | d + 1 => by rw [tri]; omega
theorem find_nd : ∀ {sig : List Op} {n : Str} {r : List Str × Str}, (sig.map (·.1)).Nodup → (n, r) ∈ sig → sig.find? (fun r => decide (r.1 = n)) = some (n, r)
  | [], _, _, _, m => by cases m
  | q :: sig, n, r, nd, m => by
    rw [List.map_cons, List.nodup_cons] at nd
    rcases List.mem_cons.mp m with rfl | m
    · rw [List.find?_cons, decide_eq_true rfl]
    · have : ¬ q.1 = n := fun z => nd.1 (by rw [z]; exact List.mem_map.mpr ⟨_, m, rfl⟩)
      rw [List.find?_cons, decide_eq_false this]
      exact find_nd nd.2 m
theorem num_names : ∀ n ∈ opNames, (numOf n).isSome = false := by decide +kernel
theorem ok_names : ∀ n ∈ opNames, okN n ∧ (ch n).length ≤ 4 ∧ PyData.strOk n = true := by
  have : ∀ n ∈ opNames, (ch n ≠ [] ∧ ∀ c ∈ ch n, ¬ c ∈ ST4) ∧ (ch n).length ≤ 4 ∧ PyData.strOk n = true := by decide +kernel
  exact this
theorem kind_row {sig : List Op} (h : SigOk sig) {n : Str} {r : List Str × Str} (m : (n, r) ∈ sig) : kindOf sig n = some r := by
  unfold kindOf
  rw [if_neg (by rw [num_names n (h.nm _ m)]; decide), find_nd h.nd m]
  rfl
theorem kind_seven {sig : List Op} : kindOf sig "7" = some (([] : List Str), (Str.ofString "num")) := by
  unfold kindOf
  rw [if_pos (by decide +kernel)]
mutual
theorem DT.meas {sig : List Op} (h : SigOk sig) : ∀ {srt : Str} {d : Nat} {t : Tm}, DT sig srt d t → nm4 t ∧ dep t ≤ d + 1 ∧ sz t ≤ tri d
  | _, d, _, .leaf m => by
    rw [nm4, nm4s, dep, deps, sz, szs]
    have := tri_pos d
    exact ⟨⟨ok_names _ (h.nm _ m), trivial⟩, by omega, by omega⟩
  | _, d, _, .num => by
    rw [nm4, nm4s, dep, deps, sz, szs]
    have := tri_pos d
    refine ⟨⟨?_, trivial⟩, by omega, by omega⟩
    have : (ch "7" ≠ [] ∧ ∀ c ∈ ch "7", ¬ c ∈ ST4) ∧ (ch "7").length ≤ 4 ∧ PyData.strOk "7" = true := by decide +kernel
    exact this
  | _, _, _, .node (n := n) (ins := ins) (d := d) m _ a => by
    rw [nm4, dep, sz, tri]
    obtain ⟨h1, h2, h3⟩ := DTs.meas h a
    have := h.ar _ m
    have l3 : ins.length ≤ 3 := this
    have : ins.length * tri d ≤ 3 * tri d := Nat.mul_le_mul_right _ l3
    exact ⟨⟨ok_names _ (h.nm _ m), h1⟩, by omega, by omega⟩
theorem DTs.meas {sig : List Op} (h : SigOk sig) : ∀ {is : List Str} {d : Nat} {ts : List Tm}, DTs sig is d ts → nm4s ts ∧ deps ts ≤ d + 1 ∧ szs ts ≤ is.length * tri d
  | _, d, _, .nil => by
    rw [nm4s, deps, szs]
    exact ⟨trivial, by omega, by omega⟩
  | _, d, _, .cons (is := is) a b => by
    obtain ⟨h1, h2, h3⟩ := DT.meas h a
    obtain ⟨g1, g2, g3⟩ := DTs.meas h b
    rw [nm4s, deps, szs, List.length_cons, Nat.succ_mul]
    exact ⟨⟨h1, g1⟩, by omega, by omega⟩
end
mutual
theorem DT.sort {sig : List Op} (h : SigOk sig) : ∀ {srt : Str} {d : Nat} {t : Tm} {l : Nat}, DT sig srt d t → sz t ≤ l → sortW sig (tmD t) l = some (srt, l - sz t)
  | _, d, _, l, .leaf m, hl => by
    rw [sz, szs] at hl ⊢
    rw [tmD, tmsD, sortW_some (kind_row h m) rfl (by omega), sortsW_nil]
    rfl
  | _, d, _, l, .num, hl => by
    rw [sz, szs] at hl ⊢
    rw [tmD, tmsD, sortW_some kind_seven rfl (by omega), sortsW_nil]
    rfl
  | _, _, _, l, .node (n := n) (ins := ins) (args := args) m _ a, hl => by
    rw [sz] at hl ⊢
    have e := DTs.sort h (l := l - 1) a (by omega)
    have el := a.len
    rw [tmD, sortW_some (kind_row h m) (by rw [tmsD_length, el]) (by omega), e]
    show some (_, _) = _
    rw [show l - 1 - szs args = l - (szs args + 1) by omega]
theorem DTs.sort {sig : List Op} (h : SigOk sig) : ∀ {is : List Str} {d : Nat} {ts : List Tm} {l : Nat}, DTs sig is d ts → szs ts ≤ l → sortsW sig (tmsD ts) is l = some (l - szs ts)
  | _, d, _, l, .nil, hl => by
    rw [tmsD, sortsW_nil, szs]
    rfl
  | _, d, _, l, .cons (t := t) (ts := ts) a b, hl => by
    rw [szs] at hl ⊢
    rw [tmsD, sortsW_cons, DT.sort h a (by omega)]
    simp only [if_true]
    rw [DTs.sort h b (by omega)]
    rw [show l - sz t - szs ts = l - (sz t + szs ts) by omega]
end
theorem DT.term {sig : List Op} (h : SigOk sig) {srt : Str} {t : Tm} (g : DT sig srt 4 t) : isTerm sig (tmD t) = true := by
  have := (g.meas h).2.2
  have e : tri 4 = 121 := rfl
  unfold isTerm
  rw [g.sort h (by omega)]
  rfl
/-! holes -/
theorem hole_names {j : Nat} (hj : j < 3) : (okN (holeN j) ∧ (ch (holeN j)).length ≤ 4 ∧ PyData.strOk (holeN j) = true) ∧ (numOf (holeN j)).isSome = false ∧ ¬ holeN j ∈ opNames := by
  have : ∀ j < 3, ((ch (holeN j) ≠ [] ∧ ∀ c ∈ ch (holeN j), ¬ c ∈ ST4) ∧ (ch (holeN j)).length ≤ 4 ∧ PyData.strOk (holeN j) = true) ∧ (numOf (holeN j)).isSome = false ∧ ¬ holeN j ∈ opNames := by decide +kernel
  exact this j hj
theorem kind_hole {sig : List Op} (h : SigOk sig) {j : Nat} (hj : j < 3) : kindOf sig (holeN j) = none := by
  obtain ⟨_, h1, h2⟩ := hole_names hj
  unfold kindOf
  rw [if_neg (by rw [h1]; decide), List.find?_eq_none.mpr fun r m z => h2 (by rw [← of_decide_eq_true z]; exact h.nm r m)]
  rfl
mutual
theorem Hol.meas : ∀ {t p : Tm}, Hol t p → nm4 t → nm4 p ∧ sz p = sz t ∧ dep p = dep t
  | _, _, .hole hj, _ => by
    rw [nm4, nm4s, sz, szs, dep, deps]
    exact ⟨⟨(hole_names hj).1, trivial⟩, rfl, rfl⟩
  | _, _, .node a, h => by
    rw [nm4] at h ⊢
    obtain ⟨h1, h2, h3⟩ := Hols.meas a h.2
    rw [sz, sz, dep, dep, h2, h3]
    exact ⟨⟨h.1, h1⟩, rfl, rfl⟩
theorem Hols.meas : ∀ {ts ps : List Tm}, Hols ts ps → nm4s ts → nm4s ps ∧ szs ps = szs ts ∧ deps ps = deps ts
  | _, _, .nil, h => ⟨h, rfl, rfl⟩
  | _, _, .cons a b, h => by
    rw [nm4s] at h ⊢
    obtain ⟨h1, h2, h3⟩ := Hol.meas a h.1
    obtain ⟨g1, g2, g3⟩ := Hols.meas b h.2
    rw [szs, szs, deps, deps, h2, h3, g2, g3]
    exact ⟨⟨h1, g1⟩, rfl, rfl⟩
end
mutual
theorem Hol.none {sig : List Op} (h : SigOk sig) : ∀ {t p : Tm}, Hol t p → p = t ∨ ∀ l, sortW sig (tmD p) l = Option.none
  | _, _, .hole hj => .inr fun l => by rw [tmD]; exact sortW_none (kind_hole h hj)
  | _, _, .node (n := n) (as := as) (bs := bs) a => by
    rcases Hols.none h a with e | e
    · exact .inl (by rw [e])
    · refine .inr fun l => ?_
      rw [tmD]
      by_cases l0 : l = 0
      · rw [l0]; exact sortW_zero
      cases hk : kindOf sig n with
      | none => exact sortW_none hk
      | some io =>
        obtain ⟨ins, out⟩ := io
        by_cases hl : ins.length = (tmsD bs).length
        · rw [sortW_some hk hl l0, e (l - 1) ins hl]
          rfl
        · exact sortW_len hk hl
theorem Hols.none {sig : List Op} (h : SigOk sig) : ∀ {ts ps : List Tm}, Hols ts ps → ps = ts ∨ ∀ l ins, ins.length = (tmsD ps).length → sortsW sig (tmsD ps) ins l = Option.none
  | _, _, .nil => .inl rfl
  | _, _, .cons (a := a0) (b := b0) (as := as) (bs := bs) a b => by
    rcases Hol.none h a with e | e
    · rcases Hols.none h b with f | f
      · exact .inl (by rw [e, f])
      · refine .inr fun l ins hl => ?_
        rw [tmsD] at hl ⊢
        cases ins with
        | nil => cases hl
        | cons i is =>
          rw [sortsW_cons]
          have hl : is.length = (tmsD bs).length := Nat.succ.inj hl
          cases sortW sig (tmD b0) l with
          | none => rfl
          | some o =>
            obtain ⟨o, l'⟩ := o
            simp only []
            rw [f l' is hl]
            split <;> rfl
    · refine .inr fun l ins hl => ?_
      rw [tmsD] at hl ⊢
      cases ins with
      | nil => cases hl
      | cons i is => rw [sortsW_cons, e l]
end
theorem Hol.not_term {sig : List Op} (h : SigOk sig) {t p : Tm} (g : Hol t p) (ne : p ≠ t) : isTerm sig (tmD p) = false := by
  rcases g.none h with e | e
  · exact absurd e ne
  · unfold isTerm
    rw [e]
    rfl
mutual
theorem lay_tm : ∀ {t : Tm}, nm4 t → PyData.canLay0 (tmD t) = true
  | .mk n args, h => by
    rw [nm4] at h
    rw [tmD]
    simp [PyData.canLay0, PyData.canLayAll0, h.1.2.2, lay_tms h.2]
theorem lay_tms : ∀ {ts : List Tm}, nm4s ts → PyData.canLayAll0 (tmsD ts) = true
  | [], _ => by rw [tmsD]; simp [PyData.canLayAll0]
  | t :: ts, h => by
    rw [nm4s] at h
    rw [tmsD]
    simp [PyData.canLayAll0, lay_tm h.1, lay_tms h.2]
end
mutual
theorem depth_tm : ∀ (t : Tm), (tmD t).depth ≤ dep t
  | .mk n args => by
    have := depth_tms args
    rw [tmD, dep, PyData.depth, PyData.depthAll, PyData.depth]
    omega
theorem depth_tms : ∀ (ts : List Tm), PyData.depthAll (tmsD ts) ≤ deps ts
  | [] => by rw [tmsD, deps]; simp [PyData.depthAll]
  | t :: ts => by
    have := depth_tm t
    have := depth_tms ts
    rw [tmsD, deps, PyData.depthAll]
    omega
end
theorem shaped_tm {t : Tm} (h : nm4 t) (d : dep t ≤ 64) : SeqAt.shaped (tmD t) = true := shaped_of (lay_tm h) (Nat.le_trans (depth_tm t) d)
mutual
theorem eqv_tm : ∀ (a b : Tm), PyData.eqv (tmD a) (tmD b) = true ↔ a = b
  | .mk n as, .mk m bs => by
    have := eqv_tms as bs
    rw [tmD, tmD, PyData.eqv, PyData.eqvAll, Bool.and_eq_true, this]
    simp [PyData.eqv]
theorem eqv_tms : ∀ (as bs : List Tm), PyData.eqvAll (tmsD as) (tmsD bs) = true ↔ as = bs
  | [], [] => by rw [tmsD]; simp [PyData.eqvAll]
  | [], b :: bs => by rw [tmsD, tmsD]; simp [PyData.eqvAll]
  | a :: as, [] => by rw [tmsD, tmsD]; simp [PyData.eqvAll]
  | a :: as, b :: bs => by
    have h1 := eqv_tm a b
    have h2 := eqv_tms as bs
    rw [tmsD, tmsD, PyData.eqvAll, Bool.and_eq_true, h1, h2]
    simp
end
theorem shaped_form : SeqAt.shaped (.str "form") = true := by decide +kernel
theorem eqv_tm_str (t : Tm) (z : Str) : PyData.eqv (tmD t) (.str z) = false := by
  cases t
  rw [tmD]
  simp [PyData.eqv]
theorem sz_get : ∀ {ts : List Tm} {i : Nat} {t : Tm}, ts[i]? = some t → sz t ≤ szs ts
  | [], i, t, h => by simp at h
  | u :: ts, 0, t, h => by cases h; rw [szs]; omega
  | u :: ts, i + 1, t, h => by
    have := sz_get (ts := ts) (i := i) (t := t) (by simpa using h)
    rw [szs]
    omega
theorem len_szs : ∀ (ts : List Tm), ts.length ≤ szs ts
  | [] => Nat.zero_le _
  | .mk n as :: ts => by
    have := len_szs ts
    rw [szs, sz, List.length_cons]
    omega
theorem len_ch (z : Str) : z.length = (ch z).length := Array.length_toList.symm
theorem lpar_ch (z : Str) : lpar z = cntL (ch z) := rfl
end TM

set_option Elab.async false
set_option linter.all false
set_option maxRecDepth 100000
set_option maxHeartbeats 4000000
/-! texts that nobody writes -/
namespace TM
open PySem DL
def badS : List Str := ["", " ", "cnum ", " cnum", "cnum()", "(", ")", ",", "cnum, cnum", "f(cnum", "f(,cnum)", "f(cnum,)", "f(cnum))"]
theorem bad_lr : ∀ z ∈ badS, ∃ o, LR (ch z) o ∧ ∀ t, o ≠ some (t, []) := fun z m => by
  have rest : ∀ {cs : List Nat} {t u : Tm}, some (u, cs) = some (t, []) → cs = [] := fun e => by cases e; rfl
  simp only [badS, List.mem_cons, List.not_mem_nil, or_false] at m
  rcases m with rfl | rfl | rfl | rfl | rfl | rfl | rfl | rfl | rfl | rfl | rfl | rfl | rfl
  · exact ⟨_, .none (by decide +kernel), fun t e => nomatch e⟩
  · exact ⟨_, .none (by decide +kernel), fun t e => nomatch e⟩
  · exact ⟨_, .leaf (by decide +kernel) (by decide +kernel), fun t e => absurd (rest e) (by decide +kernel)⟩
  · exact ⟨_, .none (by decide +kernel), fun t e => nomatch e⟩
  · exact ⟨_, .node (r := [41]) (by decide +kernel) (by decide +kernel) (.bad (.none (by decide +kernel))), fun t e => nomatch e⟩
  · exact ⟨_, .none (by decide +kernel), fun t e => nomatch e⟩
  · exact ⟨_, .none (by decide +kernel), fun t e => nomatch e⟩
  · exact ⟨_, .none (by decide +kernel), fun t e => nomatch e⟩
  · exact ⟨_, .leaf (by decide +kernel) (by decide +kernel), fun t e => absurd (rest e) (by decide +kernel)⟩
  · exact ⟨_, .node (r := ch "cnum") (by decide +kernel) (by decide +kernel) (.odd (.leaf (by decide +kernel) (by decide +kernel)) (by decide +kernel) (by decide +kernel)), fun t e => nomatch e⟩
  · exact ⟨_, .node (r := ch ",cnum)") (by decide +kernel) (by decide +kernel) (.bad (.none (by decide +kernel))), fun t e => nomatch e⟩
  · exact ⟨_, .node (r := ch "cnum,)") (by decide +kernel) (by decide +kernel) (.odd (.leaf (by decide +kernel) (by decide +kernel)) (by decide +kernel) (by decide +kernel)), fun t e => nomatch e⟩
  · have h : LR (ch "cnum))") (some (.mk (txt (nmOf (ch "cnum))"))) [], 41 :: [41])) := by
      have := LR.leaf (cs := ch "cnum))") (by decide +kernel) (by decide +kernel)
      rw [show rsOf (ch "cnum))") = 41 :: [41] by decide +kernel] at this
      exact this
    exact ⟨_, .node (r := ch "cnum))") (by decide +kernel) (by decide +kernel) (.last h), fun t e => absurd (rest e) (by decide)⟩
theorem bad_ns {z : Str} (m : z ∈ badS) : Ns z none := by
  obtain ⟨o, h⟩ := Ns.ex z
  cases o with
  | none => exact h
  | some t =>
    obtain ⟨e, ok⟩ := Ns.good h
    obtain ⟨o', l, n⟩ := bad_lr z m
    have l2 := LR.wr t [] ok (fun c r' e => nomatch e) (fun e => nomatch e)
    rw [List.append_nil, e] at l2
    exact absurd (LR.det l l2) (n t)
theorem bad_len : ∀ z ∈ badS, z.length ≤ 40000 := by decide +kernel
/-- one sign put in, left out, put elsewhere -/
theorem bent_le {cs : List Nat} {i j : Nat} {c : List Nat} (hc : c.length ≤ 1) (hij : i ≤ j) : (cs.take i ++ (c ++ cs.drop j)).length ≤ cs.length + 1 ∧ cntL (cs.take i ++ (c ++ cs.drop j)) ≤ cntL cs + 1 := by
  have e1 : cntL (cs.take i) + cntL (cs.drop i) = cntL cs := by rw [← cntL_app, List.take_append_drop]
  have e2 : cntL (cs.drop j) ≤ cntL (cs.drop i) := by
    have : cs.drop j = (cs.drop i).drop (j - i) := by rw [List.drop_drop]; congr 1; omega
    rw [this]
    have := cntL_app ((cs.drop i).take (j - i)) ((cs.drop i).drop (j - i))
    rw [List.take_append_drop] at this
    omega
  have e3 : cntL c ≤ c.length := List.length_filter_le _ _
  rw [List.length_append, List.length_append, cntL_app, cntL_app, List.length_take, List.length_drop]
  omega
theorem notVar_names : ∀ n ∈ opNames, isVarS n = false := by decide +kernel
mutual
theorem DT.pat {sig : List Op} (h : SigOk sig) : ∀ {srt : Str} {d : Nat} {t : Tm} {l : Nat} {kn : List (Str × Str)} {w : Option Str}, DT sig srt d t → sz t ≤ l → (w = none ∨ w = some srt) → patW sig (tmD t) w kn l = some (kn, l - sz t)
  | _, d, _, l, kn, w, .leaf m, hl, hw => by
    rw [sz, szs] at hl ⊢
    rw [tmD, tmsD, patW_some (by omega) (by rw [notVar_names _ (h.nm _ m)]; decide) (kind_row h m), if_pos ⟨rfl, hw⟩, patsW_nil]
  | _, d, _, l, kn, w, .num, hl, hw => by
    rw [sz, szs] at hl ⊢
    rw [tmD, tmsD, patW_some (by omega) (by decide +kernel) kind_seven, if_pos ⟨rfl, hw⟩, patsW_nil]
  | _, _, _, l, kn, w, .node (n := n) (ins := ins) (args := args) m _ a, hl, hw => by
    rw [sz] at hl ⊢
    have el := a.len
    rw [tmD, patW_some (by omega) (by rw [notVar_names _ (h.nm _ m)]; decide) (kind_row h m), if_pos ⟨by rw [tmsD_length, el], hw⟩, DTs.pat h a (by omega)]
    rw [show l - 1 - szs args = l - (szs args + 1) by omega]
theorem DTs.pat {sig : List Op} (h : SigOk sig) : ∀ {is : List Str} {d : Nat} {ts : List Tm} {l : Nat} {kn : List (Str × Str)}, DTs sig is d ts → szs ts ≤ l → patsW sig (tmsD ts) is kn l = some (kn, l - szs ts)
  | _, d, _, l, kn, .nil, hl => by
    rw [tmsD, patsW_nil, szs]
    rfl
  | _, d, _, l, kn, .cons (t := t) (ts := ts) a b, hl => by
    rw [szs] at hl ⊢
    rw [tmsD, patsW_cons, DT.pat h a (by omega) (.inr rfl)]
    simp only []
    rw [DTs.pat h b (by omega)]
    rw [show l - sz t - szs ts = l - (sz t + szs ts) by omega]
end
theorem DT.isPat {sig : List Op} (h : SigOk sig) {srt : Str} {t : Tm} (g : DT sig srt 4 t) : TM.isPat sig (tmD t) = true := by
  have := (g.meas h).2.2
  have e : tri 4 = 121 := rfl
  have p := g.pat h (l := 200) (kn := []) (w := none) (by omega) (.inl rfl)
  obtain ⟨n, args⟩ := t
  have hv : isVarS n = false := by
    cases g with
    | leaf m => exact notVar_names _ (h.nm _ m)
    | num => decide +kernel
    | node m _ _ => exact notVar_names _ (h.nm _ m)
  unfold TM.isPat varsOf
  rw [tmD] at p ⊢
  simp only []
  rw [show isVarD (.str n) = false from hv, if_neg (by decide), p]
  rfl
mutual
theorem wr_size : ∀ {t : Tm}, okT t → sz t ≤ (ch (wr t)).length
  | .mk n args, h => by
    rw [okT] at h
    have h1 := List.length_pos_iff.mpr h.1.1
    rw [sz]
    by_cases h0 : args.length = 0
    · have : args = [] := List.length_eq_zero_iff.mp h0
      subst this
      rw [wr_leaf h0, szs]
      omega
    · have := wrs_size h.2 h0
      rw [wr_node h0, ch_app, ch_app, ch_app, List.length_append, List.length_append, List.length_append]
      omega
theorem wrs_size : ∀ {ts : List Tm}, okTs ts → ¬ ts.length = 0 → szs ts ≤ (ch (Txt.join comma (wrs ts))).length
  | [], _, h => absurd rfl h
  | [t], h, _ => by
    rw [okTs] at h
    have e : Txt.join comma (wrs [t]) = TM.wr t := by rw [wrs, wrs, TL.join_eq]; rfl
    rw [e, szs, szs]
    exact wr_size h.1
  | t :: u :: ts, h, _ => by
    rw [okTs] at h
    have e : Txt.join comma (wrs (t :: u :: ts)) = TM.wr t ++ comma ++ Txt.join comma (wrs (u :: ts)) := by
      rw [wrs, wrs, TL.join_eq, TL.join_eq]
      rfl
    have a := wr_size h.1
    have c := wrs_size h.2 (by simp)
    rw [e, szs, ch_app, ch_app, List.length_append, List.length_append]
    omega
end
theorem Ns.dep {z : Str} {t : Tm} (h : Ns z (some t)) : TM.dep t ≤ lpar z + 1 := by
  generalize ho : some t = o at h
  cases h with
  | much _ => cases ho
  | @read o hp hR =>
    cases o with
    | none => cases ho
    | some x =>
      obtain ⟨u, r⟩ := x
      have e : finO z (some (u, r)) = if r = [] ∧ wr u = z then some u else none := rfl
      rw [e] at ho
      split at ho
      · cases ho
        have hdep := Rd.dep hR _ _ rfl
        have hop : opens (pcs z) ≤ lpar z := opens_pcsL z.cps.toList [] (by simp)
        omega
      · cases ho
end TM

set_option Elab.async false
set_option linter.all false
set_option maxRecDepth 100000
set_option maxHeartbeats 4000000
namespace TM
open PySem DL L2
def Ds := (And.intro (@catF3_a) (And.intro (@catF2_a) (And.intro (@catF1_a) (And.intro (@dCatF_e) (And.intro (@dIfX_e) (And.intro (@ifXK_t) (And.intro (@ifXK_f) (And.intro (@dOf_e) (And.intro (@callXR_a) (And.intro (@callXX_a) (And.intro (@callXK1_a) (And.intro (@callXK_a) (And.intro (@dCallX_e) (And.intro (@dTry_e) (And.intro (@tupX2_a) (And.intro (@tupX1_a) (And.intro (@dTupX_e) (And.intro (@dWd_e) (And.intro (@sorted_a) (And.intro (@rep_a) (And.intro (@setSt_c) (And.intro (@stK_a) (And.intro (@dParO_e) (And.intro (@parOK1_a) (And.intro (@parOK_a) (And.intro (@txt_to1) (And.intro (@txt_to2) (And.intro (@txt_from1) (And.intro (@txt_from2) (And.intro (@txt_is1) (And.intro (@txt_is2) (And.intro (@txt_is3) (And.intro (@mem_st4) (And.intro (@outs_c) (And.intro (@outK_a) (And.intro (@argSt_own) (And.intro (@argSt_d) (And.intro (@argSt_non) (And.intro (@argSt_new) (And.intro (@inStr_a) (And.intro (@notInStr_a) (And.intro (@mem_stops) (And.intro (@sgn_blank) (And.intro (@txt_nil) (And.intro (@dMs_e) (And.intro (@msK_a) (And.intro (@msK1_a) (And.intro (@msK2_a) (And.intro (@join_a) (And.intro (@count_a) (And.intro (@notIn_srt) (And.intro (@mem_lets) (And.intro (@sgn_q) (And.intro (@dStar_e) (And.intro (@starK1_a) (And.intro (@starK2_a) (And.intro (@starK3_s) (And.intro (@starK3_i) (And.intro (@dGet2_e) (And.intro (@getK1_a) (And.intro (@getK2_a) (And.intro (@getK3_s) (And.intro (@getK3_i) (And.intro (@int_succ_ne) (And.intro (@cut_tail) (And.intro (@at_zero) (And.intro (@at_one) (And.intro (@at_two) (And.intro (@opK4_a) (And.intro (@opK3_a) (And.intro (@opK2_a) (And.intro (@opK1_a) (And.intro (@dOp_e) (And.intro (@dK_e) (And.intro (@dVar_e) (And.intro (@varK_d) (And.intro (@varK_o) (And.intro (@dView2_e) (And.intro (@vw2_a) (And.intro (@dView_e) (And.intro (@vw1_a) (And.intro (@view_d) (And.intro (@view_o) (And.intro (@owL_a) (And.intro (@unK2_a) (And.intro (@unK_a) (And.intro (@dUn_e) (And.intro (@dNil_e) (And.intro (@consK2_a) (And.intro (@consK_a) (And.intro (@dCons_e) (And.intro (@tupK2_a) (And.intro (@tupK_a) (And.intro (@dTup_e) (And.intro (@lstK2_a) (And.intro (@lstK_a) (And.intro (@dLst_e) (And.intro (@dData_n) (And.intro (@dData_c) (And.intro (@dViews_n) (And.intro (@dViews_c) (And.intro (@vwc_a) (And.intro (@frzK_a) (And.intro (@dFrz_e) (And.intro (@bK_a) (And.intro (@dB_e) (And.intro (@notK_a) (And.intro (@dNot_e) (And.intro (@andK_t) (And.intro (@andK_f) (And.intro (@dAnd_e) (And.intro (@orK_t) (And.intro (@orK_f) (And.intro (@dOr_e) (And.intro (@ifeK_t) (And.intro (@ifeK_f) (And.intro (@dIf_e) (And.intro (@boolK_a) (And.intro (@dBool_e) (And.intro (@andVK_t) (And.intro (@andVK_f) (And.intro (@dAndV_e) (And.intro (@orVK_t) (And.intro (@orVK_f) (And.intro (@dOrV_e) (And.intro (@notVK_a) (And.intro (@dNotV_e) (And.intro (@isiK2_a) (And.intro (@isiK_a) (And.intro (@dIsi_e) (And.intro (@cbK2_a) (And.intro (@cbK_a) (And.intro (@dCB_e) (And.intro (@slK4_a) (And.intro (@slK3_a) (And.intro (@slK2_a) (And.intro (@slK_a) (And.intro (@dSl_e) (And.intro (@doN_e) (And.intro (@doK_a) (And.intro (@doS_e) (And.intro (@chK5_t) (And.intro (@chK5_f) (And.intro (@chK3_a) (And.intro (@chK2_a) (And.intro (@chK1_a) (And.intro (@dChain_e) (And.intro (@dSkip_e) (And.intro (@dSeq_e) (And.intro (@dRet_e) (And.intro (@dRetN_e) (And.intro (@dropK_a) (And.intro (@dDrop_e) (And.intro (@asgK_a) (And.intro (@dAsg_e) (And.intro (@ownK_a) (And.intro (@dOwn_e) (And.intro (@ifK_t) (And.intro (@ifK_f) (And.intro (@dIfS_e) (And.intro (@dgName_e) (And.intro (@dgNil_e) (And.intro (@gcK_a) (And.intro (@dgCons_e) (And.intro (@dgTup_e) (And.intro (@parK_a) (And.intro (@dPar_e) (And.intro (@augK3_a) (And.intro (@augK2_a) (And.intro (@augK1_a) (And.intro (@augK_a) (And.intro (@dAug_e) (And.intro (@forK_a) (And.intro (@dFor_e) (And.intro (@lcK1_a) (And.intro (@dLc_e) (And.intro (@aaK1_a) (And.intro (@dAA_e) (And.intro (@callK3_a) (And.intro (@callK1_a) (And.intro (@callK_a) (And.intro (@dCall_e) (And.intro (@dArgs_n) (And.intro (@dArgs_d) (And.intro (@dArgs_o) (And.intro (@argO_a) (And.intro (@setSt_n) (And.intro (@ivK2_a) (And.intro (@ivK_a) (And.intro (@diV_e) (And.intro (@asStr_a) (And.intro (@asList_a) (And.intro (@asTup_a) (And.intro (@rng1K_a) (And.intro (@diRng1_e) (And.intro (@rng2K_a) (And.intro (@diRng2_e) (And.intro (@zipK_t) (And.intro (@zipK_l) (And.intro (@diZip_e) (And.intro (@appK1_a) (And.intro (@appK_a) (And.intro (@isOw_a) (And.intro (@dApp_e) (And.intro (@popK1_a) (And.intro (@popK_a) (And.intro (@dPop_e) (And.intro (@frK_a) (And.intro (@dFreeze_e) (And.intro (@endK1_d) (And.intro (@endO_a) (And.intro (@endK1_o) (And.intro (@dEnd_e) (And.intro (@outs_n) (And.intro (@eqF_ss) (And.intro (@eqF_ii) (And.intro (@eqF_bb) (And.intro (@eqF_ns) (And.intro (@eqF_sn) (And.intro (@neF_ss) (And.intro (@neF_ii) (And.intro (@neF_bb) (And.intro (@neF_ns) (And.intro (@neF_sn) (And.intro (@eqD_a) (And.intro (@neD_a) (And.intro (@isN_a) (And.intro (@notN_a) (And.intro (@isB_a) (And.intro (@notB_a) (And.intro (@dI_a) (And.intro (@dIC_a) (And.intro (@inSgn_a) (And.intro (@notInSgn_a) (And.intro (@addS_a) (And.intro (@cat_a) (And.intro (@catT_a) (And.intro (@ixK_a) (And.intro (@ix_l) (And.intro (@ix_t) (And.intro (@ix_s) (And.intro (@sl_l) (And.intro (@sl_t) (And.intro (@sl_s) (And.intro (@len_l) (And.intro (@len_t) (And.intro (@lenS_a) (And.intro (@int1_i) (And.intro (@int1_b) (And.intro (@abs_a) (And.intro (@strI_a) (And.intro (@intS_a) (And.intro (@tupOf_l) (And.intro (@tupOf_t) (And.intro (@listOf_l) (And.intro (@listOf_t) (And.intro (@neg_a) (And.intro (@isNon_n) (And.intro (@isNon_t) (And.intro (@isNon_l) (And.intro (@isNon_s) (And.intro (@isNon_i) (And.intro (@isNon_b) (And.intro (@isTup_none) (And.intro (@isTup_bool) (And.intro (@isTup_int) (And.intro (@isTup_str) (And.intro (@isTup_list) (And.intro (@isTup_tuple) (And.intro (@isTup_dict) (And.intro (@isList_none) (And.intro (@isList_bool) (And.intro (@isList_int) (And.intro (@isList_str) (And.intro (@isList_list) (And.intro (@isList_tuple) (And.intro (@isList_dict) (And.intro (@isStr_none) (And.intro (@isStr_bool) (And.intro (@isStr_int) (And.intro (@isStr_str) (And.intro (@isStr_list) (And.intro (@isStr_tuple) (And.intro (@isStr_dict) (And.intro (@isInt_none) (And.intro (@isInt_bool) (And.intro (@isInt_int) (And.intro (@isInt_str) (And.intro (@isInt_list) (And.intro (@isInt_tuple) (And.intro (@isInt_dict) (And.intro (@isBool_none) (And.intro (@isBool_bool) (And.intro (@isBool_int) (And.intro (@isBool_str) (And.intro (@isBool_list) (And.intro (@isBool_tuple) (And.intro (@isBool_dict) (And.intro (@isNon_d) (And.intro (@sgn_minus) (And.intro (@str_empty) (@mem_figs))))))))))))))))))))))))))))))))))))))))))))))))))))))))))))))))))))))))))))))))))))))))))))))))))))))))))))))))))))))))))))))))))))))))))))))))))))))))))))))))))))))))))))))))))))))))))))))))))))))))))))))))))))))))))))))))))))))))))))))))))))))))))))))))))))))))))))))))))))))))))))))))))))))))))))))
end TM

set_option Elab.async false
set_option maxRecDepth 100000
set_option maxHeartbeats 4000000
set_option linter.all false
set_option pp.maxSteps 3000
namespace K05
open PySem L2 DL TM
def top (i : Nat) : Stmt := PySem.Challenge.pw_equalsgrown_k05_whole_texts_of_terms.main.body.getD i (.Pass ⟨0, 0, 0, 0⟩)
abbrev s_is_number : Stmt := top 8
abbrev s_numeral_of : Stmt := top 14
abbrev s_number_of : Stmt := top 15
abbrev s_kind_of : Stmt := top 16
abbrev s_sort_within : Stmt := top 19
abbrev s_is_term : Stmt := top 20
abbrev s_is_variable : Stmt := top 23
abbrev s_sorts_within : Stmt := top 24
abbrev s_variable_sorts : Stmt := top 25
abbrev s_is_pattern : Stmt := top 26
abbrev s_write : Stmt := top 30
abbrev s_pieces_of : Stmt := top 31
abbrev s_read_from : Stmt := top 32
abbrev s_nested : Stmt := top 33
abbrev s_read : Stmt := top 34
abbrev s_read_pattern : Stmt := top 35
abbrev s__law_draws : Stmt := top 37
abbrev s__law_take : Stmt := top 38
abbrev s__law_alike : Stmt := top 39
abbrev s__law_word : Stmt := top 40
abbrev s__law_signature : Stmt := top 41
abbrev s__law_leaves : Stmt := top 42
abbrev s__law_term : Stmt := top 43
abbrev s__law_told : Stmt := top 44
abbrev s__law_text : Stmt := top 45
abbrev s__law_named : Stmt := top 46
abbrev s__law_read : Stmt := top 47
abbrev s__law_whole : Stmt := top 48
abbrev s__law_holed : Stmt := top 49
abbrev s_law : Stmt := top 50
structure Bi (mg : Str → Option Value) : Prop where
  abs : mg "abs" = none
  int : mg "int" = none
  range : mg "range" = none
  len : mg "len" = none
  list : mg "list" = none
  reversed : mg "reversed" = none
  isinstance : mg "isinstance" = none
  bool : mg "bool" = none
  str : mg "str" = none
  tuple : mg "tuple" = none
  all : mg "all" = none
  zip : mg "zip" = none
  sorted : mg "sorted" = none
  g_MOST_NUMERAL : ∃ t, mg "MOST_NUMERAL" = some (.int 999 t)
  g_MOST_SIZE : ∃ t, mg "MOST_SIZE" = some (.int 200 t)
  g_MOST_VARIABLE : ∃ t, mg "MOST_VARIABLE" = some (.int 4 t)
  g_STOPS : ∃ t, mg "STOPS" = some (.str "()," t)
  g_MOST_OPEN : ∃ t, mg "MOST_OPEN" = some (.int 200 t)
  g_NUMBERS : ∃ t, mg "NUMBERS" = some (.str "num" t)
  g_LETTERS : ∃ t, mg "LETTERS" = some (.str "abcdefghijklmnopqrstuvwxyz" t)
  g_FIGURES : ∃ t, mg "FIGURES" = some (.str "0123456789" t)
structure Txt0 (mg : Str → Option Value) : Prop where
  B : Bi mg
def spNum : DSp := fun as k _ => ∃ d l m, as = [.d d, .d (.int l), .d (.int m)] ∧ k (.bool (isNum d l m)) []
def spNumeral : DSp := fun as k _ => ∃ d, as = [.d d] ∧ k (numeralD d) []
def small (d : PyData) : Prop := ∀ z, d = .str z → z.length ≤ sizeLine
def spNumber : DSp := fun as k _ => ∃ d, as = [.d d] ∧ small d ∧ k (numberD d) []
section
variable {P : Program} {w : World} {K : PySem.W.Frag} {mg : Str → Option Value} {base : Heap} {tabs : List Addr}
theorem sc_is_number : FnScope ["value", "least", "most"] ["value", "least", "most"] (defScope s_is_number) := ⟨rfl, rfl, rfl, by decide +kernel, rfl, by decide +kernel, by decide +kernel⟩
theorem ok_is_number {f : Addr} {fd : FuncData} (F : Fun K "is_number" "is_number" s_is_number f fd) (T : Txt0 mg) : FnOk P w K mg base CX0 1 f fd ["value", "least", "most"] (spD K tabs spNum) := by
  refine Fun.okD F sc_is_number (fun as k W ⟨d, l, m, e, _⟩ => by rw [e]; rfl) fun cdv A outer s H E M B W xs mh bh hr => ?_
  refine ⟨_, _, (pdb_one (pds_ret (pd_and (pd_isi isT_int (GK.isiK K) (by rfl) T.B.isinstance (by decide +kernel) (pd_var (pv 0)) (pe_bltn (v := .ty "int") (by rfl) T.B.int (by decide +kernel) rfl)) (pd_and (pd_not (pd_isi isT_bool (GK.isiK K) (by rfl) T.B.isinstance (by decide +kernel) (pd_var (pv 0)) (pe_bltn (v := .ty "bool") (by rfl) T.B.bool (by decide +kernel) rfl))) (pd_one (pd_chain op_le op_le od_cmpI od_cmpI (pd_var (pv 1)) (pd_var (pv 0)) (pd_var (pv 2)))))))), ?_⟩
  rintro _ k ⟨d, l, m, rfl, hk⟩
  cases d with
  | int i =>
    simp [Ds, dRaise, mkRho, nOw, sgn, dYes, wipeR, back]
    by_cases h : l ≤ i <;> simp [isNum, h] at hk ⊢ <;> exact hk
  | _ =>
    simp [Ds, dRaise, mkRho, nOw, sgn, dYes, wipeR, back]
    exact hk
theorem sc_numeral_of : FnScope ["number"] ["number"] (defScope s_numeral_of) := ⟨rfl, rfl, rfl, by decide +kernel, rfl, by decide +kernel, by decide +kernel⟩
theorem ok_numeral {f f1 : Addr} {fd fd1 : FuncData} (F : Fun K "numeral_of" "numeral_of" s_numeral_of f fd) (T : Txt0 mg) (G_is_number : FnOk P w K mg base CX0 1 f1 fd1 ["value", "least", "most"] (spD K tabs spNum)) (F_is_number : Fun K "is_number" "is_number" s_is_number f1 fd1) (b_is_number : Binds K fd1 ["value", "least", "most"] []) (g_is_number : mg "is_number" = some (.ref f1)) :
    FnOk P w K mg base CX0 2 f fd ["number"] (spD K tabs spNumeral) := by
  refine Fun.okD F sc_numeral_of (fun as k W ⟨d, e, _⟩ => by rw [e]; rfl) fun cdv A outer s H E M B W xs mh bh hr1 => ?_
  refine ⟨_, _, (pdb_cons (pds_if (pdt_not (pdt_val (pd_call G_is_number hr1 (by rfl) g_is_number F_is_number.kp b_is_number (pda_cons (pd_var (pv 0)) (pda_cons (pd_un un_neg ud_neg (pd_gint (by rfl) T.B.g_MOST_NUMERAL)) (pda_cons (pd_gint (by rfl) T.B.g_MOST_NUMERAL) pda_nil)))))) 
      (pdb_one (pds_ret pd_non)) pdb_nil)
    (pdb_one (pds_ret (pd_callTy call_str_int cd_strI (by rfl) T.B.str (by decide +kernel) (pda_cons (pd_var (pv 0)) pda_nil))))), ?_⟩
  rintro _ k ⟨d, rfl, hk⟩
  simp [Ds, dRaise, mkRho, nOw, sgn, dYes, wipeR, back]
  refine ⟨.nil, d, -999, 999, rfl, ?_⟩
  cases d with
  | int i =>
    simp [isNum, numeralD, inR, Ds, dRaise, mkRho, nOw, sgn, dYes, wipeR, back] at hk ⊢
    by_cases h1 : -999 ≤ i <;> by_cases h2 : i ≤ 999 <;> simp [h1, h2] at hk ⊢ <;> first | exact hk | skip
    exact ⟨Nat.lt_of_le_of_lt (Nat.log2_le_self _) (by omega), hk⟩
  | _ =>
    simp [isNum, numeralD, inR, Ds, dRaise, mkRho, nOw, sgn, dYes, wipeR, back] at hk ⊢
    exact hk
theorem sc_number_of : FnScope ["name", "figures", "number", "sign"] ["name"] (defScope s_number_of) := ⟨rfl, rfl, rfl, by decide +kernel, rfl, by decide +kernel, by decide +kernel⟩
theorem ok_number {f c Pn f1 : Addr} {fd fd1 : FuncData} (F : FunC K "number_of" "number_of" s_number_of f fd c) (tb_number_of : GxR.TabB base mg c Pn) (ht_number_of : Pn ∈ tabs) (T : Txt0 mg) (G_numeral_of : FnOk P w K mg base CX0 2 f1 fd1 ["number"] (spD K tabs spNumeral)) (F_numeral_of : Fun K "numeral_of" "numeral_of" s_numeral_of f1 fd1) (b_numeral_of : Binds K fd1 ["number"] []) (g_numeral_of : mg "numeral_of" = some (.ref f1)) :
    FnOk P w K mg base CX0 3 f fd ["name"] (spD K tabs spNumber) := by
  refine FunC.okD F sc_number_of (fun as k W ⟨d, e, _⟩ => by rw [e]; rfl) fun A outer s H E M B W xs mh bh hr1 => ?_
  have nd := sc_number_of.nd
  refine ⟨_, _, (pdb_cons (pds_if (PDw.pt (pdw_or (pdt_not (pdt_val (pd_isi isT_str (GK.isiK K) (by rfl) T.B.isinstance (by decide +kernel) (pd_var (pv 0)) (pe_bltn (v := .ty "str") (by rfl) T.B.str (by decide +kernel) rfl)))) (pdw_or1 (pdt_not (pdt_chain op_le op_le od_cmpI od_cmpI pd_int (pd_callB call_len_str cd_lenS (by rfl) T.B.len (by decide +kernel) (pda_cons (pd_var (pv 0)) pda_nil)) (pd_callB call_len_str cd_lenS (by rfl) T.B.len (by decide +kernel) (pda_cons (pd_callTy call_str_int cd_strI (by rfl) T.B.str (by decide +kernel) (pda_cons (pd_un un_neg ud_neg (pd_gint (by rfl) T.B.g_MOST_NUMERAL)) pda_nil)) pda_nil))))))) 
      (pdb_one (pds_ret pd_non)) pdb_nil)
    (pdb_cut (pds_setN (i := 1) nd rfl (.inl rfl) (pd_ifExp (pdt_cmp op_eq od_eqF (pd_ix (GK.ixQK K) od_ix (pd_var (pv 0)) pd_int (fun _ _ => rfl)) pd_str (nomark _)) (pd_slice sl_str sd_str (pd_var (pv 0)) (pdo_some pd_int) pdo_none) (pd_var (pv 0))))
    (pdb_cut (pds_if (PDw.pt (pdw_or (pdt_cmp op_eq od_eqF (pd_var (pv 1)) pd_str (nomark _)) (pdw_or1 (pdt_not (pdt_val (pd_all (own := [("sign", 3)]) s rfl nd hr1 (by rfl) T.B.all (by rfl) tb_number_of ht_number_of rfl (blkOk_by (N := ["name", "figures", "number", "sign"]) (sc := defScope s_number_of) (by decide +kernel)) (by decide +kernel) rfl rfl (pdi_str (pd_var (pv 1))) (fun _ _ _ _ _ _ _ => (pdg_name (pg_name (i := 3) nd rfl (.inl rfl)))) gw_name (fun _ _ _ _ _ _ _ => pdts_nil) (fun _ _ _ _ _ _ _ => (pd_cmp op_in_sign od_inSgn (pd_var (pv 3)) (pd_gstr (by rfl) T.B.g_FIGURES) (by with_unfolding_all rfl))) (by intro _; rfl))))))) 
      (pdb_one (pds_ret pd_non)) pdb_nil)
    (pdb_cut (pds_setN (i := 2) nd rfl (.inl rfl) (pd_ifExp (pdt_cmp op_ne od_neF (pd_ix (GK.ixQK K) od_ix (pd_var (pv 0)) pd_int (fun _ _ => rfl)) pd_str (nomark _)) (pd_callTy call_int_str cd_intS (by rfl) T.B.int (by decide +kernel) (pda_cons (pd_var (pv 1)) pda_nil)) (pd_op op_sub od_int pd_int (pd_callTy call_int_str cd_intS (by rfl) T.B.int (by decide +kernel) (pda_cons (pd_var (pv 1)) pda_nil)))))
    (pdb_one (pds_ret (pd_ifExp (pdt_cmp op_eq od_eqF (pd_call G_numeral_of hr1 (by rfl) g_numeral_of F_numeral_of.kp b_numeral_of (pda_cons (pd_var (pv 2)) pda_nil)) (pd_var (pv 0)) (nomark _)) (pd_var (pv 2)) pd_non))))))), ?_⟩
  rintro _ k ⟨d, rfl, hs, hk⟩
  cases d with
  | str n =>
    have hl := hs n rfl
    have hk : k (optI (numOf n)) [] := hk
    have e0 : (Str.ofString (Int.repr (-999))).length = 4 := by decide +kernel
    have e1 : (4 : Nat) ≤ sizeLine := by decide
    simp [Ds, dRaise, mkRho, nOw, sgn, dYes, wipeR, back]
    refine ⟨hl, ?_⟩
    by_cases h1 : n.length = 0
    · rw [show decide ((1 : Int) ≤ (n.length : Int)) = false from decide_eq_false (by omega)]
      unfold numOf at hk
      rw [if_pos (.inl h1)] at hk
      simp [Ds, dRaise, mkRho, nOw, sgn, dYes, wipeR, back]
      exact hk
    rw [show decide ((1 : Int) ≤ (n.length : Int)) = true from decide_eq_true (by omega)]
    simp [Ds, dRaise, mkRho, nOw, sgn, dYes, wipeR, back, e0]
    refine ⟨by decide, e1, ?_⟩
    by_cases h4 : 4 < n.length
    · rw [show decide ((n.length : Int) ≤ 4) = false from decide_eq_false (by omega)]
      unfold numOf at hk
      rw [if_pos (.inr h4)] at hk
      simp [Ds, dRaise, mkRho, nOw, sgn, dYes, wipeR, back]
      exact hk
    have h4' : n.length ≤ 4 := by omega
    rw [show decide ((n.length : Int) ≤ 4) = true from decide_eq_true (by omega)]
    simp [Ds, dRaise, mkRho, nOw, sgn, dYes, wipeR, back]
    have k1 : numOf n = if figs n = "" ∨ isDig (figs n) = false then none else if TM.inR (figV n) = true ∧ (toString (figV n) : Str) = n then some (figV n) else none := by
      unfold numOf
      rw [if_neg (by omega)]
    obtain ⟨c0, r, hcr⟩ : ∃ c r, n.cps.toList = c :: r := by
      cases e : n.cps.toList with
      | nil =>
        have : n.cps.toList.length = 0 := by rw [e]; rfl
        exact absurd this h1
      | cons c r => exact ⟨c, r, rfl⟩
    have at0 : atI n.cps.toList (0 : Int) = some c0 := by
      rw [hcr]
      exact atI_nat (j := 0) rfl
    have en : neg1 n = decide (c0 = 45) := by
      unfold neg1
      rw [hcr]
    have fl : (figs n).length ≤ 640 := Nat.le_trans (figs_len n) (Nat.le_trans h4' (by decide))
    refine ⟨fun ρ => ρ = [some (.d (.str n)), some (.d (.str (figs n))), none, none], ?_, ?_⟩
    · simp [Ds, dRaise, mkRho, nOw, sgn, dYes, wipeR, back]
      refine ⟨hl, ?_⟩
      rw [at0]
      by_cases hb : c0 = 45
      · simp [Ds, dRaise, mkRho, nOw, sgn, dYes, wipeR, back, figs, en, hb]; exact hl
      · simp [Ds, dRaise, mkRho, nOw, sgn, dYes, wipeR, back, figs, en, hb]
    rintro _ rfl
    refine ⟨fun ρ => ρ = [some (.d (.str n)), some (.d (.str (figs n))), none, none] ∧ figs n ≠ "" ∧ isDig (figs n) = true, ?_, ?_⟩
    · simp [Ds, dRaise, mkRho, nOw, sgn, dYes, wipeR, back]
      by_cases h0 : figs n = ""
      · rw [k1, if_pos (.inl h0)] at hk
        rw [decide_eq_true (show figs n = Str.ofString "" from h0)]
        simp [Ds, dRaise, mkRho, nOw, sgn, dYes, wipeR, back]
        exact hk
      rw [decide_eq_false (show ¬ figs n = Str.ofString "" from h0)]
      simp [Ds, dRaise, mkRho, nOw, sgn, dYes, wipeR, back]
      refine ⟨fun i ρ => ρ = [some (.d (.str n)), some (.d (.str (figs n))), none, none] ∧ ∀ j c, j < i → (figs n).cps[j]? = some c → c ∈ FIG, ⟨rfl, fun _ _ h => absurd h (Nat.not_lt_zero _)⟩, ?_, ?_⟩
      · rintro i _ _ hc0 ⟨rfl, all⟩
        obtain ⟨c, hc, rfl⟩ : ∃ c, (figs n).cps[i]? = some c ∧ _ = _ := by simpa [Ds, dRaise, mkRho, nOw, sgn, dYes, wipeR, back] using hc0
        simp [Ds, dRaise, mkRho, nOw, sgn, dYes, wipeR, back]
        by_cases hm : c ∈ FIG
        · rw [if_pos hm]
          refine fun j c1 hj e1 => ?_
          by_cases ej : j = i
          · rw [ej, hc] at e1
            cases e1
            exact hm
          · exact all j c1 (by omega) e1
        · rw [if_neg hm]
          have hf : isDig (figs n) = false := by
            unfold isDig
            rw [List.all_eq_false]
            refine ⟨c, ?_, by rw [decide_eq_false hm]; decide⟩
            rw [← Array.getElem?_toList] at hc
            exact List.mem_of_getElem? hc
          rw [k1, if_pos (.inr hf)] at hk
          exact hk
      · rintro _ ⟨rfl, all⟩
        simp at all
        refine ⟨rfl, h0, ?_⟩
        unfold isDig
        rw [List.all_eq_true]
        intro c1 hm
        obtain ⟨j, hj, e1⟩ := List.mem_iff_getElem.mp hm
        refine decide_eq_true (all j c1 (by simpa using hj) ?_)
        rw [← Array.getElem?_toList, List.getElem?_eq_getElem hj, e1]
    rintro _ ⟨rfl, hf0, hfd⟩
    have k2 : numOf n = if TM.inR (figV n) = true ∧ (toString (figV n) : Str) = n then some (figV n) else none := by
      rw [k1, if_neg]
      rintro (z | z)
      · exact hf0 z
      · rw [hfd] at z; cases z
    have rd := figs_read hfd hf0 h4'
    refine ⟨fun ρ => ρ = [some (.d (.str n)), some (.d (.str (figs n))), some (.d (.int (figV n))), none], ?_, ?_⟩
    · simp [Ds, dRaise, mkRho, nOw, sgn, dYes, wipeR, back]
      refine ⟨hl, ?_⟩
      rw [at0]
      by_cases hb : c0 = 45
      · simp [Ds, dRaise, mkRho, nOw, sgn, dYes, wipeR, back, en, hb, rd, figV, fl]
      · simp [Ds, dRaise, mkRho, nOw, sgn, dYes, wipeR, back, en, hb, rd, figV, fl]
    rintro _ rfl
    simp [Ds, dRaise, mkRho, nOw, sgn, dYes, wipeR, back]
    refine ⟨.nil, _, rfl, ?_⟩
    rw [k2] at hk
    by_cases hi : TM.inR (figV n) = true
    · by_cases ht : (toString (figV n) : Str) = n
      · rw [if_pos ⟨hi, ht⟩] at hk
        simp [numeralD, hi, Ds, dRaise, mkRho, nOw, sgn, dYes, wipeR, back]
        rw [decide_eq_true (show Str.ofString (Int.repr (figV n)) = n from ht)]
        simp [Ds, dRaise, mkRho, nOw, sgn, dYes, wipeR, back]
        exact hk
      · rw [if_neg (fun z => ht z.2)] at hk
        simp [numeralD, hi, Ds, dRaise, mkRho, nOw, sgn, dYes, wipeR, back]
        rw [decide_eq_false (show ¬ Str.ofString (Int.repr (figV n)) = n from ht)]
        simp [Ds, dRaise, mkRho, nOw, sgn, dYes, wipeR, back]
        exact hk
    · rw [if_neg (fun z => hi z.1)] at hk
      simp [numeralD, hi, Ds, dRaise, mkRho, nOw, sgn, dYes, wipeR, back]
      exact hk
  | _ =>
    simp [Ds, dRaise, mkRho, nOw, sgn, dYes, wipeR, back] at hk ⊢
    exact hk
end
end K05

set_option Elab.async false
set_option maxRecDepth 100000
set_option maxHeartbeats 4000000
set_option linter.all false
set_option pp.maxSteps 3000
namespace K05
open PySem L2 DL TM
def spKind : DSp := fun as k _ => ∃ sig n, as = [.d (sigD sig), .d (.str n)] ∧ n.length ≤ sizeLine ∧ k (kindD (kindOf sig n)) []
def spSort (D : Nat) : DSp := fun as k _ => ∃ sig v l, as = [.d (sigD sig), .d v, .d (.int (l : Nat))] ∧ Fit D v ∧ k (sortD (sortW sig v l)) []
def spTerm (D : Nat) : DSp := fun as k _ => ∃ sig v, as = [.d (sigD sig), .d v] ∧ Fit D v ∧ k (.bool (isTerm sig v)) []
section
variable {P : Program} {w : World} {K : PySem.W.Frag} {mg : Str → Option Value} {base : Heap} {tabs : List Addr}
theorem sc_kind_of : FnScope ["signature", "name", "operation", "ins", "out"] ["signature", "name"] (defScope s_kind_of) := ⟨rfl, rfl, rfl, by decide +kernel, rfl, by decide +kernel, by decide +kernel⟩
theorem ok_kind {f f1 : Addr} {fd fd1 : FuncData} (F : Fun K "kind_of" "kind_of" s_kind_of f fd) (T : Txt0 mg) (G_number_of : FnOk P w K mg base CX0 3 f1 fd1 ["name"] (spD K tabs spNumber)) (F_number_of : Fun K "number_of" "number_of" s_number_of f1 fd1) (b_number_of : Binds K fd1 ["name"] []) (g_number_of : mg "number_of" = some (.ref f1)) :
    FnOk P w K mg base CX0 4 f fd ["signature", "name"] (spD K tabs spKind) := by
  refine Fun.okD F sc_kind_of (fun as k W ⟨_, _, e, _⟩ => by rw [e]; rfl) fun cdv A outer s H E M B W xs mh bh hr1 => ?_
  have nd := sc_kind_of.nd
  refine ⟨_, _, (pdb_cons (pds_if (pdt_cmp op_notN od_notN (pd_call G_number_of hr1 (by rfl) g_number_of F_number_of.kp b_number_of (pda_cons (pd_var (pv 1)) pda_nil)) pd_non (nomark _)) 
      (pdb_one (pds_ret (pd_tup (pda_cons (pd_tup pda_nil) (pda_cons (pd_gstr (by rfl) T.B.g_NUMBERS) pda_nil))))) pdb_nil)
    (pdb_cons (pds_for PassesOwn.never rfl (pdi_tup (pd_var (pv 0))) (pdg_tup (n := 3) rfl (pdgs_cons (pdg_name (pg_name (i := 2) nd rfl (.inl rfl))) (pdgs_cons (pdg_name (pg_name (i := 3) nd rfl (.inl rfl))) (pdgs_cons (pdg_name (pg_name (i := 4) nd rfl (.inl rfl))) pdgs_nil)))) 
      (pdb_one (pds_if (pdt_cmp op_eq od_eqF (pd_var (pv 2)) (pd_var (pv 1)) (nomark _)) 
        (pdb_one (pds_ret (pd_tup (pda_cons (pd_var (pv 3)) (pda_cons (pd_var (pv 4)) pda_nil))))) pdb_nil)))
    (pdb_one (pds_ret pd_non)))), ?_⟩
  rintro _ k ⟨sig, n, rfl, hs, hk⟩
  simp [Ds, dRaise, mkRho, nOw, sgn, dYes, wipeR, back]
  refine ⟨.nil, _, rfl, fun z e => by cases e; exact hs, ?_⟩
  simp [Ds, dRaise, mkRho, nOw, sgn, dYes, wipeR, back, numberD]
  cases hn : numOf n with
  | some i =>
    have e : kindOf sig n = some ([], Str.ofString "num") := by
      unfold kindOf
      rw [hn]
      rfl
    rw [e] at hk
    simp [Ds, dRaise, mkRho, nOw, sgn, dYes, wipeR, back, optI]
    exact ⟨by decide, hk⟩
  | none =>
    have e : kindOf sig n = (sig.find? fun r => decide (r.1 = n)).map (·.2) := by
      unfold kindOf
      rw [hn]
      rfl
    rw [e] at hk
    simp [Ds, dRaise, mkRho, nOw, sgn, dYes, wipeR, back, optI, sigD]
    refine ⟨fun i ρ => (∃ a b c, ρ = [some (.d (.tuple (sig.map rowD))), some (.d (.str n)), a, b, c]) ∧ ∀ j r, j < i → sig[j]? = some r → r.1 ≠ n, ⟨⟨_, _, _, rfl⟩, fun _ _ h => absurd h (Nat.not_lt_zero _)⟩, ?_, ?_⟩
    · rintro i _ _ hx ⟨⟨a, b, c, rfl⟩, all⟩
      rw [List.getElem?_map] at hx
      obtain ⟨r, hr, rfl⟩ := Option.map_eq_some_iff.mp hx
      simp [Ds, dRaise, mkRho, nOw, sgn, dYes, wipeR, back, rowD]
      by_cases hc : r.1 = n
      · rw [decide_eq_true hc]
        simp [Ds, dRaise, mkRho, nOw, sgn, dYes, wipeR, back]
        rw [find_at hr (decide_eq_true hc) fun j y hj e => decide_eq_false (all j y hj e)] at hk
        exact ⟨by decide, hk⟩
      · rw [decide_eq_false hc]
        simp [Ds, dRaise, mkRho, nOw, sgn, dYes, wipeR, back]
        refine fun j r1 r2 r3 hj e => ?_
        by_cases ej : j = i
        · rw [ej, hr] at e
          cases e
          exact hc
        · exact all j (r1, r2, r3) (by omega) e
    · rintro ρ ⟨⟨a, b, c, rfl⟩, all⟩
      simp [Ds, dRaise, mkRho, nOw, sgn, dYes, wipeR, back]
      rw [List.find?_eq_none.mpr fun r hr => by
        obtain ⟨j, hj, e1⟩ := List.mem_iff_getElem.mp hr
        rw [decide_eq_false (all j r (by simpa using hj) (by rw [List.getElem?_eq_getElem hj, e1]))]
        decide] at hk
      exact hk
theorem sc_sort_within : FnScope ["signature", "value", "left", "kind", "sort", "one", "found"] ["signature", "value", "left"] (defScope s_sort_within) := ⟨rfl, rfl, rfl, by decide +kernel, rfl, by decide +kernel, by decide +kernel⟩
theorem ok_sort_step {N : Nat} {f f1 : Addr} {fd fd1 : FuncData} (F : Fun K "sort_within" "sort_within" s_sort_within f fd) (T : Txt0 mg) (b_sort_within : Binds K fd ["signature", "value", "left"] []) (g_sort_within : mg "sort_within" = some (.ref f))
    (G_kind_of : FnOk P w K mg base CX0 4 f1 fd1 ["signature", "name"] (spD K tabs spKind)) (F_kind_of : Fun K "kind_of" "kind_of" s_kind_of f1 fd1) (b_kind_of : Binds K fd1 ["signature", "name"] []) (g_kind_of : mg "kind_of" = some (.ref f1))
    (D : Nat) (hN : 4 ≤ N) (G_sort_within : FnOk P w K mg base CX0 N f fd ["signature", "value", "left"] (spD K tabs fun as k W => ∃ D', D' + 1 = D ∧ spSort D' as k W)) :
    FnOk P w K mg base CX0 (N + 1) f fd ["signature", "value", "left"] (spD K tabs (spSort D)) := by
  refine Fun.okD F sc_sort_within (fun as k W ⟨_, _, _, e, _⟩ => by rw [e]; rfl) fun cdv A outer s H E M B W xs mh bh hr => ?_
  have nd := sc_sort_within.nd
  have F_sort_within := F
  have hr1 := hr.mono hN
  refine ⟨_, _, (pdb_cons (pds_if (PDw.pt (pdw_or (pdt_not (pdt_val (pd_isi isT_tup (GK.isiK K) (by rfl) T.B.isinstance (by decide +kernel) (pd_var (pv 1)) (pe_bltn (v := .ty "tuple") (by rfl) T.B.tuple (by decide +kernel) rfl)))) (pdw_or (pdt_cmp op_eq od_eqF (pd_callB (GK.lenK K) cd_len (by rfl) T.B.len (by decide +kernel) (pda_cons (pd_var (pv 1)) pda_nil)) pd_int (nomark _)) (pdw_or (pdt_not (pdt_val (pd_isi isT_str (GK.isiK K) (by rfl) T.B.isinstance (by decide +kernel) (pd_ix (GK.ixQK K) od_ix (pd_var (pv 1)) pd_int (fun _ _ => rfl)) (pe_bltn (v := .ty "str") (by rfl) T.B.str (by decide +kernel) rfl)))) (pdw_or1 (pdt_cmp op_eq od_eqF (pd_var (pv 2)) pd_int (nomark _))))))) 
      (pdb_one (pds_ret pd_non)) pdb_nil)
    (pdb_cons (pds_setN (i := 3) nd rfl (.inl rfl) (pd_call G_kind_of hr1 (by rfl) g_kind_of F_kind_of.kp b_kind_of (pda_cons (pd_var (pv 0)) (pda_cons (pd_ix (GK.ixQK K) od_ix (pd_var (pv 1)) pd_int (fun _ _ => rfl)) pda_nil))))
    (pdb_cons (pds_if (PDw.pt (pdw_or (pdt_cmp op_isN od_isN (pd_var (pv 3)) pd_non (nomark _)) (pdw_or1 (pdt_cmp op_ne od_neF (pd_callB (GK.lenK K) cd_len (by rfl) T.B.len (by decide +kernel) (pda_cons (pd_ix (GK.ixQK K) od_ix (pd_var (pv 3)) pd_int (fun _ _ => rfl)) pda_nil)) (pd_op op_sub od_int (pd_callB (GK.lenK K) cd_len (by rfl) T.B.len (by decide +kernel) (pda_cons (pd_var (pv 1)) pda_nil)) pd_int) (nomark _))))) 
      (pdb_one (pds_ret pd_non)) pdb_nil)
    (pdb_cons (pds_augN (i := 2) nd rfl (.inl rfl) pd_int ip_sub od_int)
    (pdb_cons (pds_for PassesOwn.never rfl (pdi_zip (by rfl) T.B.zip (pda_cons (pd_ix (GK.ixQK K) od_ix (pd_var (pv 3)) pd_int (fun _ _ => rfl)) (pda_cons (pd_slice (slTAK K) sd_tup (pd_var (pv 1)) (pdo_some pd_int) pdo_none) pda_nil))) (pdg_tup (n := 2) rfl (pdgs_cons (pdg_name (pg_name (i := 4) nd rfl (.inl rfl))) (pdgs_cons (pdg_name (pg_name (i := 5) nd rfl (.inl rfl))) pdgs_nil))) 
      (pdb_cons (pds_setN (i := 6) nd rfl (.inl rfl) (pd_call G_sort_within hr (by rfl) g_sort_within F_sort_within.kp b_sort_within (pda_cons (pd_var (pv 0)) (pda_cons (pd_var (pv 5)) (pda_cons (pd_var (pv 2)) pda_nil)))))
      (pdb_cons (pds_if (PDw.pt (pdw_or (pdt_cmp op_isN od_isN (pd_var (pv 6)) pd_non (nomark _)) (pdw_or1 (pdt_cmp op_ne od_neF (pd_ix (GK.ixQK K) od_ix (pd_var (pv 6)) pd_int (fun _ _ => rfl)) (pd_var (pv 4)) (nomark _))))) 
        (pdb_one (pds_ret pd_non)) pdb_nil)
      (pdb_one (pds_setN (i := 2) nd rfl (.inl rfl) (pd_ix (GK.ixQK K) od_ix (pd_var (pv 6)) pd_int (fun _ _ => rfl)))))))
    (pdb_one (pds_ret (pd_tup (pda_cons (pd_ix (GK.ixQK K) od_ix (pd_var (pv 3)) pd_int (fun _ _ => rfl)) (pda_cons (pd_var (pv 2)) pda_nil)))))))))), ?_⟩
  rintro _ k ⟨sig, v, l, rfl, hv, hk⟩
  have rest : ∀ v', Fit D v' → (∀ ds, v' ≠ .tuple ds) → k (sortD (sortW sig v' l)) [] → k PyData.none [] := fun v' _ h e => by
    have : sortW sig v' l = none := by
      cases v' with
      | tuple ds => exact absurd rfl (h ds)
      | _ => simp [sortW]
    rw [this] at e
    exact e
  cases v with
  | tuple ds =>
    cases ds with
    | nil =>
      simp [Ds, dRaise, mkRho, nOw, sgn, dYes, wipeR, back]
      rw [show sortW sig (.tuple []) l = none from by simp [sortW]] at hk
      exact hk
    | cons d0 args =>
    have at0 : atI (d0 :: args) (0 : Int) = some d0 := atI_nat (j := 0) rfl
    have cut1 : cutD (d0 :: args) (some 1) none = args := by
      exact cut_tail d0 args
    by_cases hz : ∃ z, d0 = .str z
    · obtain ⟨n, rfl⟩ := hz
      simp [Ds, dRaise, mkRho, nOw, sgn, dYes, wipeR, back]
      by_cases l0 : l = 0
      · rw [show decide (l = 0) = true from decide_eq_true l0]
        rw [show sortW sig (.tuple (.str n :: args)) l = none from by simp [sortW, l0]] at hk
        simp [Ds, dRaise, mkRho, nOw, sgn, dYes, wipeR, back]
        exact hk
      rw [show decide (l = 0) = false from decide_eq_false l0]
      simp [Ds, dRaise, mkRho, nOw, sgn, dYes, wipeR, back]
      have fit : ∀ d ∈ args, ∃ D', D' + 1 = D ∧ Fit D' d := by
        cases hv with
        | tup h => exact fun d hd => ⟨_, rfl, h d (List.mem_cons_of_mem _ hd)⟩
        | oth h _ => exact absurd rfl (h _)
      have sm : n.length ≤ sizeLine := by
        cases hv with
        | tup h =>
          have := h (.str n) (List.mem_cons_self ..)
          cases this with
          | str h => exact h
          | oth _ h => exact absurd rfl (h _)
        | oth h _ => exact absurd rfl (h _)
      refine ⟨.nil, sig, n, rfl, sm, ?_⟩
      cases hkd : kindOf sig n with
      | none =>
        rw [sortW_none hkd] at hk
        simp [Ds, dRaise, mkRho, nOw, sgn, dYes, wipeR, back, kindD]
        exact hk
      | some io =>
      obtain ⟨ins, out⟩ := io
      simp [Ds, dRaise, mkRho, nOw, sgn, dYes, wipeR, back, kindD]
      by_cases hl : ins.length = args.length
      · rw [sortW_some hkd hl l0] at hk
        simp [Ds, dRaise, mkRho, nOw, sgn, dYes, wipeR, back, hl]
        refine ⟨fun i ρ => ∃ (m : Nat) (a b c : Option DV), ρ = [some (.d (sigD sig)), some (.d (.tuple (.str n :: args))), some (.d (.int (m : Int))), some (.d (.tuple [.tuple (ins.map .str), .str out])), a, b, c] ∧ sortsW sig (args.drop i) (ins.drop i) m = sortsW sig args ins (l - 1), ⟨l - 1, none, none, none, ?_, rfl⟩, ?_, ?_⟩
        · rw [show ((l - 1 : Nat) : Int) = (l : Int) - 1 by omega]
        · rintro i x _ hx ⟨m, a, b, c, rfl, hm⟩
          have hi : i < args.length := by
            have := (List.getElem?_eq_some_iff.mp hx).1
            rw [pairs2_length] at this
            omega
          have hi2 : i < ins.length := by omega
          have g1 : (ins.map PyData.str)[i]? = some (.str ins[i]) := by
            rw [List.getElem?_map, List.getElem?_eq_getElem hi2]
            rfl
          have g2 : args[i]? = some args[i] := List.getElem?_eq_getElem hi
          rw [pairs2_get g1 g2] at hx
          cases hx
          rw [List.drop_eq_getElem_cons hi, List.drop_eq_getElem_cons hi2, sortsW_cons] at hm
          simp [Ds, dRaise, mkRho, nOw, sgn, dYes, wipeR, back]
          obtain ⟨D', eD, ft⟩ := fit args[i] (List.getElem_mem ..)
          refine ⟨.nil, D', eD, sig, args[i], m, rfl, ft, ?_⟩
          cases hs : sortW sig args[i] m with
          | none =>
            rw [hs] at hm
            rw [← hm] at hk
            simp [Ds, dRaise, mkRho, nOw, sgn, dYes, wipeR, back, sortD]
            exact hk
          | some ol =>
            obtain ⟨o, l'⟩ := ol
            rw [hs] at hm
            simp only [] at hm
            simp [Ds, dRaise, mkRho, nOw, sgn, dYes, wipeR, back, sortD]
            by_cases ho : o = ins[i]
            · rw [if_pos ho] at hm
              simp [Ds, dRaise, mkRho, nOw, sgn, dYes, wipeR, back, ho]
              exact ⟨l', rfl, hm⟩
            · rw [if_neg ho] at hm
              rw [← hm] at hk
              simp [Ds, dRaise, mkRho, nOw, sgn, dYes, wipeR, back, ho]
              exact hk
        · rintro ρ ⟨m, a, b, c, rfl, hm⟩
          rw [pairs2_length, List.drop_eq_nil_of_le (by simp [hl]), sortsW_nil] at hm
          rw [← hm] at hk
          simp [Ds, dRaise, mkRho, nOw, sgn, dYes, wipeR, back]
          exact ⟨by decide, hk⟩
      · rw [sortW_len hkd hl] at hk
        have : ¬ (ins.length : Int) = (args.length : Int) := by omega
        simp [Ds, dRaise, mkRho, nOw, sgn, dYes, wipeR, back, hl, this]
        exact hk
    · have : isStr d0 = false := by
        cases d0 with
        | str z => exact absurd ⟨z, rfl⟩ hz
        | _ => rfl
      have e : sortW sig (.tuple (d0 :: args)) l = none := by
        cases d0 with
        | str z => exact absurd ⟨z, rfl⟩ hz
        | _ => simp [sortW]
      rw [e] at hk
      simp [Ds, dRaise, mkRho, nOw, sgn, dYes, wipeR, back, this]
      exact hk
  | _ =>
    simp [Ds, dRaise, mkRho, nOw, sgn, dYes, wipeR, back]
    exact rest _ hv (fun _ e => nomatch e) hk
theorem ok_sort {f f1 : Addr} {fd fd1 : FuncData} (F : Fun K "sort_within" "sort_within" s_sort_within f fd) (T : Txt0 mg) (b_sort_within : Binds K fd ["signature", "value", "left"] []) (g_sort_within : mg "sort_within" = some (.ref f))
    (G_kind_of : FnOk P w K mg base CX0 4 f1 fd1 ["signature", "name"] (spD K tabs spKind)) (F_kind_of : Fun K "kind_of" "kind_of" s_kind_of f1 fd1) (b_kind_of : Binds K fd1 ["signature", "name"] []) (g_kind_of : mg "kind_of" = some (.ref f1)) :
    ∀ D : Nat, FnOk P w K mg base CX0 (5 + D) f fd ["signature", "value", "left"] (spD K tabs (spSort D))
  | 0 => ok_sort_step F T b_sort_within g_sort_within G_kind_of F_kind_of b_kind_of g_kind_of 0 (Nat.le_refl _) (okNever fun _ _ _ ⟨_, e, _⟩ => nomatch e)
  | D + 1 => ok_sort_step F T b_sort_within g_sort_within G_kind_of F_kind_of b_kind_of g_kind_of (D + 1) (by show 4 ≤ 5 + D; omega) (okImp (ok_sort F T b_sort_within g_sort_within G_kind_of F_kind_of b_kind_of g_kind_of D) fun _ _ _ ⟨D', e, h⟩ => by
    have : D' = D := by omega
    rw [← this]
    exact h)
theorem sc_is_term : FnScope ["signature", "value"] ["signature", "value"] (defScope s_is_term) := ⟨rfl, rfl, rfl, by decide +kernel, rfl, by decide +kernel, by decide +kernel⟩
theorem ok_is_term {f f1 : Addr} {fd fd1 : FuncData} (F : Fun K "is_term" "is_term" s_is_term f fd) (T : Txt0 mg) {D : Nat} (G_sort_within : FnOk P w K mg base CX0 (5 + D) f1 fd1 ["signature", "value", "left"] (spD K tabs (spSort D))) (F_sort_within : Fun K "sort_within" "sort_within" s_sort_within f1 fd1) (b_sort_within : Binds K fd1 ["signature", "value", "left"] []) (g_sort_within : mg "sort_within" = some (.ref f1)) :
    FnOk P w K mg base CX0 (6 + D) f fd ["signature", "value"] (spD K tabs (spTerm D)) := by
  rw [show 6 + D = (5 + D) + 1 by omega]
  refine Fun.okD F sc_is_term (fun as k W ⟨_, _, e, _⟩ => by rw [e]; rfl) fun cdv A outer s H E M B W xs mh bh hr1 => ?_
  have nd := sc_is_term.nd
  refine ⟨_, _, (pdb_one (pds_ret (pd_cmp op_notN od_notN (pd_call G_sort_within hr1 (by rfl) g_sort_within F_sort_within.kp b_sort_within (pda_cons (pd_var (pv 0)) (pda_cons (pd_var (pv 1)) (pda_cons (pd_gint (by rfl) T.B.g_MOST_SIZE) pda_nil)))) pd_non (nomark _)))), ?_⟩
  rintro _ k ⟨sig, v, rfl, hv, hk⟩
  simp [Ds, dRaise, mkRho, nOw, sgn, dYes, wipeR, back]
  refine ⟨.nil, sig, v, 200, rfl, hv, ?_⟩
  unfold isTerm at hk
  cases h : sortW sig v 200 with
  | none =>
    rw [h] at hk
    simp [Ds, dRaise, mkRho, nOw, sgn, dYes, wipeR, back, sortD]
    exact hk
  | some ol =>
    rw [h] at hk
    obtain ⟨o, l⟩ := ol
    simp [Ds, dRaise, mkRho, nOw, sgn, dYes, wipeR, back, sortD]
    exact hk
end
end K05

set_option Elab.async false
set_option maxRecDepth 100000
set_option maxHeartbeats 4000000
set_option linter.all false
set_option pp.maxSteps 3000
namespace K05
open PySem L2 DL TM
def spVar : DSp := fun as k _ => ∃ d, as = [.d d] ∧ small d ∧ k (.bool (isVarD d)) []
def spPat (D : Nat) : DSp := fun as k _ => ∃ sig v srt kn l, as = [.d (sigD sig), .d v, .d (srtD srt), .d (dicS kn), .d (.int (l : Nat))] ∧ Fit D v ∧ kn.length + l ≤ 1000 ∧ (srt = none → ∀ n args, v = .tuple (.str n :: args) → isVarS n = false) ∧ k (patD (patW sig v srt kn l)) []
section
variable {P : Program} {w : World} {K : PySem.W.Frag} {mg : Str → Option Value} {base : Heap} {tabs : List Addr}
theorem sc_is_variable : FnScope ["value", "sign"] ["value"] (defScope s_is_variable) := ⟨rfl, rfl, rfl, by decide +kernel, rfl, by decide +kernel, by decide +kernel⟩
theorem ok_is_variable {f c Pn : Addr} {fd : FuncData} (F : FunC K "is_variable" "is_variable" s_is_variable f fd c) (tb_is_variable : GxR.TabB base mg c Pn) (ht_is_variable : Pn ∈ tabs) (T : Txt0 mg) :
    FnOk P w K mg base CX0 2 f fd ["value"] (spD K tabs spVar) := by
  refine FunC.okD F sc_is_variable (fun as k W ⟨_, e, _⟩ => by rw [e]; rfl) fun A outer s H E M B W xs mh bh hr1 => ?_
  have nd := sc_is_variable.nd
  refine ⟨_, _, (pdb_cons (pds_if (PDw.pt (pdw_or (pdt_not (pdt_val (pd_isi isT_str (GK.isiK K) (by rfl) T.B.isinstance (by decide +kernel) (pd_var (pv 0)) (pe_bltn (v := .ty "str") (by rfl) T.B.str (by decide +kernel) rfl)))) (pdw_or (pdt_not (pdt_chain op_le op_le od_cmpI od_cmpI pd_int (pd_callB call_len_str cd_lenS (by rfl) T.B.len (by decide +kernel) (pda_cons (pd_var (pv 0)) pda_nil)) (pd_op op_add od_int (pd_gint (by rfl) T.B.g_MOST_VARIABLE) pd_int))) (pdw_or1 (pdt_cmp op_ne od_neF (pd_ix (GK.ixQK K) od_ix (pd_var (pv 0)) pd_int (fun _ _ => rfl)) pd_str (nomark _)))))) 
      (pdb_one (pds_ret pd_bl)) pdb_nil)
    (pdb_one (pds_ret (pd_all (own := [("sign", 1)]) s rfl nd hr1 (by rfl) T.B.all (by rfl) tb_is_variable ht_is_variable rfl (blkOk_by (N := ["value", "sign"]) (sc := defScope s_is_variable) (by decide +kernel)) (by decide +kernel) rfl rfl (pdi_str (pd_slice sl_str sd_str (pd_var (pv 0)) (pdo_some pd_int) pdo_none)) (fun _ _ _ _ _ _ _ => (pdg_name (pg_name (i := 1) nd rfl (.inl rfl)))) gw_name (fun _ _ _ _ _ _ _ => pdts_nil) (fun _ _ _ _ _ _ _ => (pd_cmp op_in_sign od_inSgn (pd_var (pv 1)) (pd_gstr (by rfl) T.B.g_LETTERS) (by with_unfolding_all rfl))) (by intro _; rfl))))), ?_⟩
  rintro _ k ⟨d, rfl, hs, hk⟩
  cases d with
  | str z =>
    have hl := hs z rfl
    have hk : k (.bool (isVarS z)) [] := hk
    simp [Ds, dRaise, mkRho, nOw, sgn, dYes, wipeR, back]
    refine ⟨hl, ?_⟩
    have e5 : (4 + 1 : Int) = 5 := rfl
    by_cases h2 : 2 ≤ z.length
    · rw [show decide ((2 : Int) ≤ (z.length : Int)) = true from decide_eq_true (by omega)]
      simp [Ds, dRaise, mkRho, nOw, sgn, dYes, wipeR, back]
      by_cases h5 : z.length ≤ 5
      · rw [show decide ((z.length : Int) ≤ 5) = true from decide_eq_true (by omega)]
        simp [Ds, dRaise, mkRho, nOw, sgn, dYes, wipeR, back]
        obtain ⟨c0, r, hcr⟩ : ∃ c r, z.cps.toList = c :: r := by
          cases e : z.cps.toList with
          | nil =>
            have h0 : z.cps.toList.length = 0 := by rw [e]; rfl
            have : z.length = 0 := h0
            omega
          | cons c r => exact ⟨c, r, rfl⟩
        have ev : isVarS z = (decide (c0 = 63) && r.all fun c => decide (c ∈ LET)) := by
          unfold isVarS
          rw [hcr, decide_eq_true h2, decide_eq_true h5]
          rfl
        rw [ev] at hk
        refine ⟨hl, ?_⟩
        rw [hcr]
        simp [Ds, dRaise, mkRho, nOw, sgn, dYes, wipeR, back]
        by_cases hq : c0 = 63
        · rw [decide_eq_true hq] at hk ⊢
          simp [Ds, dRaise, mkRho, nOw, sgn, dYes, wipeR, back]
          refine ⟨hl, ?_⟩
          rw [cutS_tail hcr]
          refine ⟨fun i ρ => ρ = [some (.d (.str z)), none] ∧ ∀ j c, j < i → r[j]? = some c → c ∈ LET, ⟨rfl, fun _ _ h => absurd h (Nat.not_lt_zero _)⟩, ?_, ?_⟩
          · rintro i _ _ hc0 ⟨rfl, all⟩
            obtain ⟨c, hc, rfl⟩ : ∃ c, r[i]? = some c ∧ _ = _ := by simpa [Ds, dRaise, mkRho, nOw, sgn, dYes, wipeR, back] using hc0
            simp [Ds, dRaise, mkRho, nOw, sgn, dYes, wipeR, back]
            by_cases hm : c ∈ LET
            · rw [if_pos hm]
              refine fun j c1 hj e1 => ?_
              by_cases ej : j = i
              · rw [ej, hc] at e1
                cases e1
                exact hm
              · exact all j c1 (by omega) e1
            · rw [if_neg hm]
              have hf : (r.all fun c => decide (c ∈ LET)) = false := by
                rw [List.all_eq_false]
                exact ⟨c, List.mem_of_getElem? hc, by rw [decide_eq_false hm]; decide⟩
              rw [hf] at hk
              exact hk
          · rintro _ ⟨rfl, all⟩
            simp at all
            have hf : (r.all fun c => decide (c ∈ LET)) = true := by
              rw [List.all_eq_true]
              intro c1 hm
              obtain ⟨j, hj, e1⟩ := List.mem_iff_getElem.mp hm
              exact decide_eq_true (all j c1 (by simpa using hj) (by rw [List.getElem?_eq_getElem hj, e1]))
            rw [hf] at hk
            simp [Ds, dRaise, mkRho, nOw, sgn, dYes, wipeR, back]
            exact hk
        · rw [decide_eq_false hq] at hk ⊢
          simp [Ds, dRaise, mkRho, nOw, sgn, dYes, wipeR, back]
          exact hk
      · rw [show decide ((z.length : Int) ≤ 5) = false from decide_eq_false (by omega)]
        have : isVarS z = false := by
          unfold isVarS
          rw [decide_eq_false h5, Bool.and_false]
          rfl
        rw [this] at hk
        simp [Ds, dRaise, mkRho, nOw, sgn, dYes, wipeR, back]
        exact hk
    · rw [show decide ((2 : Int) ≤ (z.length : Int)) = false from decide_eq_false (by omega)]
      have : isVarS z = false := by
        unfold isVarS
        rw [decide_eq_false h2]
        rfl
      rw [this] at hk
      simp [Ds, dRaise, mkRho, nOw, sgn, dYes, wipeR, back]
      exact hk
  | _ =>
    simp [Ds, dRaise, mkRho, nOw, sgn, dYes, wipeR, back]
    exact hk
theorem sc_sorts_within : FnScope ["signature", "value", "sort", "known", "left", "kind", "inner", "one", "found"] ["signature", "value", "sort", "known", "left"] (defScope s_sorts_within) := ⟨rfl, rfl, rfl, by decide +kernel, rfl, by decide +kernel, by decide +kernel⟩
theorem ok_pat_step {N : Nat} {f f1 f2 : Addr} {fd fd1 fd2 : FuncData} (F : Fun K "sorts_within" "sorts_within" s_sorts_within f fd) (T : Txt0 mg) (b_sorts_within : Binds K fd ["signature", "value", "sort", "known", "left"] []) (g_sorts_within : mg "sorts_within" = some (.ref f))
    (G_kind_of : FnOk P w K mg base CX0 4 f1 fd1 ["signature", "name"] (spD K tabs spKind)) (F_kind_of : Fun K "kind_of" "kind_of" s_kind_of f1 fd1) (b_kind_of : Binds K fd1 ["signature", "name"] []) (g_kind_of : mg "kind_of" = some (.ref f1))
    (G_is_variable : FnOk P w K mg base CX0 2 f2 fd2 ["value"] (spD K tabs spVar)) (F_is_variable : Fun K "is_variable" "is_variable" s_is_variable f2 fd2) (b_is_variable : Binds K fd2 ["value"] []) (g_is_variable : mg "is_variable" = some (.ref f2))
    (D : Nat) (hN : 4 ≤ N) (G_sorts_within : FnOk P w K mg base CX0 N f fd ["signature", "value", "sort", "known", "left"] (spD K tabs fun as k W => ∃ D', D' + 1 = D ∧ spPat D' as k W)) :
    FnOk P w K mg base CX0 (N + 1) f fd ["signature", "value", "sort", "known", "left"] (spD K tabs (spPat D)) := by
  refine Fun.okD F sc_sorts_within (fun as k W ⟨_, _, _, _, _, e, _⟩ => by rw [e]; rfl) fun cdv A outer s H E M B W xs mh bh hr => ?_
  have nd := sc_sorts_within.nd
  have F_sorts_within := F
  have hr1 := hr.mono hN
  have hrv := hr.mono (show 2 ≤ N by omega)
  have hu : (A.deeper (PyProof.Rows.envOfC "sorts_within" (defScope s_sorts_within) s.heap.objs.size f cdv)).units + 1 < cLine := by
    have := hr.un
    omega
  refine ⟨_, _, (pdb_cons (pds_if (PDw.pt (pdw_or (pdt_not (pdt_val (pd_isi isT_tup (GK.isiK K) (by rfl) T.B.isinstance (by decide +kernel) (pd_var (pv 1)) (pe_bltn (v := .ty "tuple") (by rfl) T.B.tuple (by decide +kernel) rfl)))) (pdw_or (pdt_cmp op_eq od_eqF (pd_callB (GK.lenK K) cd_len (by rfl) T.B.len (by decide +kernel) (pda_cons (pd_var (pv 1)) pda_nil)) pd_int (nomark _)) (pdw_or (pdt_not (pdt_val (pd_isi isT_str (GK.isiK K) (by rfl) T.B.isinstance (by decide +kernel) (pd_ix (GK.ixQK K) od_ix (pd_var (pv 1)) pd_int (fun _ _ => rfl)) (pe_bltn (v := .ty "str") (by rfl) T.B.str (by decide +kernel) rfl)))) (pdw_or1 (pdt_cmp op_eq od_eqF (pd_var (pv 4)) pd_int (nomark _))))))) 
      (pdb_one (pds_ret pd_non)) pdb_nil)
    (pdb_cons (pds_augN (i := 4) nd rfl (.inl rfl) pd_int ip_sub od_int)
    (pdb_cons (pds_if (pdt_val (pd_call G_is_variable hrv (by rfl) g_is_variable F_is_variable.kp b_is_variable (pda_cons (pd_ix (GK.ixQK K) od_ix (pd_var (pv 1)) pd_int (fun _ _ => rfl)) pda_nil))) 
      (pdb_cons (pds_if (PDw.pt (pdw_or (pdt_cmp op_ne od_neF (pd_callB (GK.lenK K) cd_len (by rfl) T.B.len (by decide +kernel) (pda_cons (pd_var (pv 1)) pda_nil)) pd_int (nomark _)) (pdw_or1 (pdt_cmp op_ne od_neF (pd_get2 hu (pd_var (pv 3)) (pd_ix (GK.ixQK K) od_ix (pd_var (pv 1)) pd_int (fun _ _ => rfl)) (pd_var (pv 2)) ⟨rfl, rfl, rfl, rfl⟩) (pd_var (pv 2)) (nomark _))))) 
        (pdb_one (pds_ret pd_non)) pdb_nil)
      (pdb_one (pds_ret (pd_tup (pda_cons (pd_star (pd_var (pv 3)) (pd_ix (GK.ixQK K) od_ix (pd_var (pv 1)) pd_int (fun _ _ => rfl)) (pd_var (pv 2))) (pda_cons (pd_var (pv 4)) pda_nil)))))) pdb_nil)
    (pdb_cons (pds_setN (i := 5) nd rfl (.inl rfl) (pd_call G_kind_of hr1 (by rfl) g_kind_of F_kind_of.kp b_kind_of (pda_cons (pd_var (pv 0)) (pda_cons (pd_ix (GK.ixQK K) od_ix (pd_var (pv 1)) pd_int (fun _ _ => rfl)) pda_nil))))
    (pdb_cons (pds_if (PDw.pt (pdw_or (pdt_cmp op_isN od_isN (pd_var (pv 5)) pd_non (nomark _)) (pdw_or (pdt_cmp op_ne od_neF (pd_callB (GK.lenK K) cd_len (by rfl) T.B.len (by decide +kernel) (pda_cons (pd_ix (GK.ixQK K) od_ix (pd_var (pv 5)) pd_int (fun _ _ => rfl)) pda_nil)) (pd_op op_sub od_int (pd_callB (GK.lenK K) cd_len (by rfl) T.B.len (by decide +kernel) (pda_cons (pd_var (pv 1)) pda_nil)) pd_int) (nomark _)) (pdw_or1 (pdt_cmp (GK.notInK K) od_in (pd_var (pv 2)) (pd_tup (pda_cons pd_non (pda_cons (pd_ix (GK.ixQK K) od_ix (pd_var (pv 5)) pd_int (fun _ _ => rfl)) pda_nil))) (by with_unfolding_all rfl)))))) 
      (pdb_one (pds_ret pd_non)) pdb_nil)
    (pdb_cons (pds_for PassesOwn.never rfl (pdi_zip (by rfl) T.B.zip (pda_cons (pd_ix (GK.ixQK K) od_ix (pd_var (pv 5)) pd_int (fun _ _ => rfl)) (pda_cons (pd_slice (slTAK K) sd_tup (pd_var (pv 1)) (pdo_some pd_int) pdo_none) pda_nil))) (pdg_tup (n := 2) rfl (pdgs_cons (pdg_name (pg_name (i := 6) nd rfl (.inl rfl))) (pdgs_cons (pdg_name (pg_name (i := 7) nd rfl (.inl rfl))) pdgs_nil))) 
      (pdb_cons (pds_setN (i := 8) nd rfl (.inl rfl) (pd_call G_sorts_within hr (by rfl) g_sorts_within F_sorts_within.kp b_sorts_within (pda_cons (pd_var (pv 0)) (pda_cons (pd_var (pv 7)) (pda_cons (pd_var (pv 6)) (pda_cons (pd_var (pv 3)) (pda_cons (pd_var (pv 4)) pda_nil)))))))
      (pdb_cons (pds_if (pdt_cmp op_isN od_isN (pd_var (pv 8)) pd_non (nomark _)) 
        (pdb_one (pds_ret pd_non)) pdb_nil)
      (pdb_one (pds_asg (pd_var (pv 8)) (pdg_tup (n := 2) rfl (pdgs_cons (pdg_name (pg_name (i := 3) nd rfl (.inl rfl))) (pdgs_cons (pdg_name (pg_name (i := 4) nd rfl (.inl rfl))) pdgs_nil))))))))
    (pdb_one (pds_ret (pd_tup (pda_cons (pd_var (pv 3)) (pda_cons (pd_var (pv 4)) pda_nil))))))))))), ?_⟩
  rintro _ k ⟨sig, v, srt, kn, l, rfl, hv, lim, top, hk⟩
  simp [Ds, dRaise, mkRho, nOw, sgn, dYes, wipeR, back]
  cases v with
  | tuple ds =>
    cases ds with
    | nil =>
      simp [Ds, dRaise, mkRho, nOw, sgn, dYes, wipeR, back]
      rw [patW_other fun n args e => by cases e] at hk
      exact hk
    | cons d0 args =>
    by_cases hz : ∃ z, d0 = .str z
    · obtain ⟨n, rfl⟩ := hz
      simp [Ds, dRaise, mkRho, nOw, sgn, dYes, wipeR, back]
      by_cases l0 : l = 0
      · rw [show decide (l = 0) = true from decide_eq_true l0]
        subst l0
        rw [patW_zero] at hk
        simp [Ds, dRaise, mkRho, nOw, sgn, dYes, wipeR, back]
        exact hk
      rw [show decide (l = 0) = false from decide_eq_false l0]
      simp [Ds, dRaise, mkRho, nOw, sgn, dYes, wipeR, back]
      have fit : ∀ d ∈ args, ∃ D', D' + 1 = D ∧ Fit D' d := by
        cases hv with
        | tup h => exact fun d hd => ⟨_, rfl, h d (List.mem_cons_of_mem _ hd)⟩
        | oth h _ => exact absurd rfl (h _)
      have sm : n.length ≤ sizeLine := by
        cases hv with
        | tup h =>
          have := h (.str n) (List.mem_cons_self ..)
          cases this with
          | str h => exact h
          | oth _ h => exact absurd rfl (h _)
        | oth h _ => exact absurd rfl (h _)
      refine ⟨.nil, .str n, rfl, fun z e => by cases e; exact sm, ?_⟩
      have s1000 : (1000 : Nat) < sizeLine := by decide
      cases hvv : isVarS n with
      | true =>
        obtain ⟨s, rfl⟩ : ∃ s, srt = some s := by
          cases srt with
          | some s => exact ⟨s, rfl⟩
          | none => exact absurd (top rfl n args rfl) (by rw [hvv]; decide)
        rw [patW_var l0 hvv] at hk
        simp [Ds, dRaise, mkRho, nOw, sgn, dYes, wipeR, back, isVarD, hvv, srtD]
        by_cases ha : args.length = 0
        · simp [Ds, dRaise, mkRho, nOw, sgn, dYes, wipeR, back, ha, dicS]
          rw [look_s, getD_str]
          simp [Ds, dRaise, mkRho, nOw, sgn, dYes, wipeR, back]
          by_cases hg : (lkS kn n).getD s = s
          · rw [if_pos ⟨ha, hg⟩] at hk
            rw [decide_eq_true hg]
            simp [Ds, dRaise, mkRho, nOw, sgn, dYes, wipeR, back]
            refine ⟨by omega, by decide, ?_⟩
            rw [put_s, show (l : Int) - 1 = ((l - 1 : Nat) : Int) by omega]
            exact hk
          · rw [if_neg fun z => hg z.2] at hk
            rw [decide_eq_false hg]
            simp [Ds, dRaise, mkRho, nOw, sgn, dYes, wipeR, back]
            exact hk
        · rw [if_neg fun z => ha z.1] at hk
          have : ¬ args = [] := fun e => ha (by rw [e]; rfl)
          rw [show decide ((args.length : Int) + 1 = 1) = false from decide_eq_false (by omega)]
          simp [Ds, dRaise, mkRho, nOw, sgn, dYes, wipeR, back]
          exact hk
      | false =>
        have hvn : ¬ isVarS n = true := by rw [hvv]; decide
        simp [Ds, dRaise, mkRho, nOw, sgn, dYes, wipeR, back, isVarD, hvv]
        refine ⟨.nil, sig, n, rfl, sm, ?_⟩
        cases hkd : kindOf sig n with
        | none =>
          rw [patW_none l0 hvn hkd] at hk
          simp [Ds, dRaise, mkRho, nOw, sgn, dYes, wipeR, back, kindD]
          exact hk
        | some io =>
        obtain ⟨ins, out⟩ := io
        rw [patW_some l0 hvn hkd] at hk
        simp [Ds, dRaise, mkRho, nOw, sgn, dYes, wipeR, back, kindD]
        by_cases hl : ins.length = args.length
        · simp [Ds, dRaise, mkRho, nOw, sgn, dYes, wipeR, back, hl]
          refine ⟨by decide, ?_⟩
          by_cases hs : srt = none ∨ srt = some out
          · rw [show srtOk srt out = true from decide_eq_true hs]
            rw [if_pos ⟨hl, hs⟩] at hk
            simp [Ds, dRaise, mkRho, nOw, sgn, dYes, wipeR, back]
            refine ⟨fun i ρ => ∃ (m : Nat) (kn' : List (Str × Str)) (a b c : Option DV), ρ = [some (.d (sigD sig)), some (.d (.tuple (.str n :: args))), some (.d (srtD srt)), some (.d (dicS kn')), some (.d (.int (m : Int))), some (.d (.tuple [.tuple (ins.map .str), .str out])), a, b, c] ∧ kn'.length + m ≤ 1000 ∧ patsW sig (args.drop i) (ins.drop i) kn' m = patsW sig args ins kn (l - 1), ⟨l - 1, kn, none, none, none, ?_, by omega, rfl⟩, ?_, ?_⟩
            · rw [show ((l - 1 : Nat) : Int) = (l : Int) - 1 by omega]
            · rintro i x _ hx ⟨m, kn', a, b, c, rfl, lim', hm⟩
              have hi : i < args.length := by
                have := (List.getElem?_eq_some_iff.mp hx).1
                rw [pairs2_length] at this
                omega
              have hi2 : i < ins.length := by omega
              have g1 : (ins.map PyData.str)[i]? = some (.str ins[i]) := by
                rw [List.getElem?_map, List.getElem?_eq_getElem hi2]
                rfl
              have g2 : args[i]? = some args[i] := List.getElem?_eq_getElem hi
              rw [pairs2_get g1 g2] at hx
              cases hx
              rw [List.drop_eq_getElem_cons hi, List.drop_eq_getElem_cons hi2, patsW_cons] at hm
              simp [Ds, dRaise, mkRho, nOw, sgn, dYes, wipeR, back]
              obtain ⟨D', eD, ft⟩ := fit args[i] (List.getElem_mem ..)
              refine ⟨.nil, D', eD, sig, args[i], some ins[i], kn', m, rfl, ft, lim', (fun e => nomatch e), ?_⟩
              cases hs2 : patW sig args[i] (some ins[i]) kn' m with
              | none =>
                rw [hs2] at hm
                rw [← hm] at hk
                simp [Ds, dRaise, mkRho, nOw, sgn, dYes, wipeR, back, patD]
                exact hk
              | some ol =>
                obtain ⟨kn2, l'⟩ := ol
                rw [hs2] at hm
                simp only [] at hm
                simp [Ds, dRaise, mkRho, nOw, sgn, dYes, wipeR, back, patD]
                have lim2 := patW_lim hs2
                exact ⟨l', kn2, ⟨rfl, rfl⟩, by omega, hm⟩
            · rintro ρ ⟨m, kn', a, b, c, rfl, lim', hm⟩
              rw [pairs2_length, List.drop_eq_nil_of_le (by simp [hl]), patsW_nil] at hm
              rw [← hm] at hk
              simp [Ds, dRaise, mkRho, nOw, sgn, dYes, wipeR, back]
              exact ⟨by decide, hk⟩
          · rw [show srtOk srt out = false from decide_eq_false hs]
            rw [if_neg fun z => hs z.2] at hk
            simp [Ds, dRaise, mkRho, nOw, sgn, dYes, wipeR, back]
            exact hk
        · rw [if_neg fun z => hl z.1] at hk
          have : ¬ (ins.length : Int) = (args.length : Int) := by omega
          simp [Ds, dRaise, mkRho, nOw, sgn, dYes, wipeR, back, hl, this]
          exact hk
    · have : isStr d0 = false := by
        cases d0 with
        | str z => exact absurd ⟨z, rfl⟩ hz
        | _ => rfl
      rw [patW_other fun n args e => by cases e; exact hz ⟨n, rfl⟩] at hk
      simp [Ds, dRaise, mkRho, nOw, sgn, dYes, wipeR, back, this]
      exact hk
  | _ =>
    simp [Ds, dRaise, mkRho, nOw, sgn, dYes, wipeR, back]
    rw [patW_other fun n args e => by cases e] at hk
    exact hk
theorem ok_pat {f f1 f2 : Addr} {fd fd1 fd2 : FuncData} (F : Fun K "sorts_within" "sorts_within" s_sorts_within f fd) (T : Txt0 mg) (b_sorts_within : Binds K fd ["signature", "value", "sort", "known", "left"] []) (g_sorts_within : mg "sorts_within" = some (.ref f))
    (G_kind_of : FnOk P w K mg base CX0 4 f1 fd1 ["signature", "name"] (spD K tabs spKind)) (F_kind_of : Fun K "kind_of" "kind_of" s_kind_of f1 fd1) (b_kind_of : Binds K fd1 ["signature", "name"] []) (g_kind_of : mg "kind_of" = some (.ref f1))
    (G_is_variable : FnOk P w K mg base CX0 2 f2 fd2 ["value"] (spD K tabs spVar)) (F_is_variable : Fun K "is_variable" "is_variable" s_is_variable f2 fd2) (b_is_variable : Binds K fd2 ["value"] []) (g_is_variable : mg "is_variable" = some (.ref f2)) :
    ∀ D : Nat, FnOk P w K mg base CX0 (5 + D) f fd ["signature", "value", "sort", "known", "left"] (spD K tabs (spPat D))
  | 0 => ok_pat_step F T b_sorts_within g_sorts_within G_kind_of F_kind_of b_kind_of g_kind_of G_is_variable F_is_variable b_is_variable g_is_variable 0 (Nat.le_refl _) (okNever fun _ _ _ ⟨_, e, _⟩ => nomatch e)
  | D + 1 => ok_pat_step F T b_sorts_within g_sorts_within G_kind_of F_kind_of b_kind_of g_kind_of G_is_variable F_is_variable b_is_variable g_is_variable (D + 1) (by show 4 ≤ 5 + D; omega) (okImp (ok_pat F T b_sorts_within g_sorts_within G_kind_of F_kind_of b_kind_of g_kind_of G_is_variable F_is_variable b_is_variable g_is_variable D) fun _ _ _ ⟨D', e, h⟩ => by
    have : D' = D := by omega
    rw [← this]
    exact h)
def varsD : Option (List (Str × Str)) → PyData
  | some kn => dicS kn
  | none => .none
def spVars (D : Nat) : DSp := fun as k _ => ∃ sig v, as = [.d (sigD sig), .d v] ∧ Fit D v ∧ k (varsD (varsOf sig v)) []
def spIsPat (D : Nat) : DSp := fun as k _ => ∃ sig v, as = [.d (sigD sig), .d v] ∧ Fit D v ∧ k (.bool (isPat sig v)) []
theorem sc_variable_sorts : FnScope ["signature", "value", "found"] ["signature", "value"] (defScope s_variable_sorts) := ⟨rfl, rfl, rfl, by decide +kernel, rfl, by decide +kernel, by decide +kernel⟩
theorem ok_vars {f f1 f2 : Addr} {fd fd1 fd2 : FuncData} (F : Fun K "variable_sorts" "variable_sorts" s_variable_sorts f fd) (T : Txt0 mg) {D : Nat} (G_sorts_within : FnOk P w K mg base CX0 (5 + D) f1 fd1 ["signature", "value", "sort", "known", "left"] (spD K tabs (spPat D))) (F_sorts_within : Fun K "sorts_within" "sorts_within" s_sorts_within f1 fd1) (b_sorts_within : Binds K fd1 ["signature", "value", "sort", "known", "left"] []) (g_sorts_within : mg "sorts_within" = some (.ref f1))
    (G_is_variable : FnOk P w K mg base CX0 2 f2 fd2 ["value"] (spD K tabs spVar)) (F_is_variable : Fun K "is_variable" "is_variable" s_is_variable f2 fd2) (b_is_variable : Binds K fd2 ["value"] []) (g_is_variable : mg "is_variable" = some (.ref f2)) :
    FnOk P w K mg base CX0 (6 + D) f fd ["signature", "value"] (spD K tabs (spVars D)) := by
  rw [show 6 + D = (5 + D) + 1 by omega]
  refine Fun.okD F sc_variable_sorts (fun as k W ⟨_, _, e, _⟩ => by rw [e]; rfl) fun cdv A outer s H E M B W xs mh bh hr1 => ?_
  have nd := sc_variable_sorts.nd
  have hrv := hr1.mono (show 2 ≤ 5 + D by omega)
  refine ⟨_, _, (pdb_cons (pds_if (PDw.pt (pdw_or (pdt_not (pdt_val (pd_isi isT_tup (GK.isiK K) (by rfl) T.B.isinstance (by decide +kernel) (pd_var (pv 1)) (pe_bltn (v := .ty "tuple") (by rfl) T.B.tuple (by decide +kernel) rfl)))) (pdw_or (pdt_cmp op_eq od_eqF (pd_callB (GK.lenK K) cd_len (by rfl) T.B.len (by decide +kernel) (pda_cons (pd_var (pv 1)) pda_nil)) pd_int (nomark _)) (pdw_or1 (pdt_val (pd_call G_is_variable hrv (by rfl) g_is_variable F_is_variable.kp b_is_variable (pda_cons (pd_ix (GK.ixQK K) od_ix (pd_var (pv 1)) pd_int (fun _ _ => rfl)) pda_nil))))))) 
      (pdb_one (pds_ret pd_non)) pdb_nil)
    (pdb_cons (pds_setN (i := 2) nd rfl (.inl rfl) (pd_call G_sorts_within hr1 (by rfl) g_sorts_within F_sorts_within.kp b_sorts_within (pda_cons (pd_var (pv 0)) (pda_cons (pd_var (pv 1)) (pda_cons pd_non (pda_cons pd_dnew (pda_cons (pd_gint (by rfl) T.B.g_MOST_SIZE) pda_nil)))))))
    (pdb_one (pds_ret (pd_ifExp (pdt_cmp op_isN od_isN (pd_var (pv 2)) pd_non (nomark _)) pd_non (pd_ix (GK.ixQK K) od_ix (pd_var (pv 2)) pd_int (fun _ _ => rfl))))))), ?_⟩
  rintro _ k ⟨sig, v, rfl, hv, hk⟩
  simp [Ds, dRaise, mkRho, nOw, sgn, dYes, wipeR, back]
  cases v with
  | tuple ds =>
    cases ds with
    | nil =>
      simp [Ds, dRaise, mkRho, nOw, sgn, dYes, wipeR, back]
      exact hk
    | cons d0 args =>
      have sm : small d0 := fun z e => by
        subst e
        cases hv with
        | tup h =>
          have := h (.str z) (List.mem_cons_self ..)
          cases this with
          | str h => exact h
          | oth _ h => exact absurd rfl (h _)
        | oth h _ => exact absurd rfl (h _)
      simp [Ds, dRaise, mkRho, nOw, sgn, dYes, wipeR, back]
      refine ⟨.nil, d0, rfl, sm, ?_⟩
      have e1 : varsOf sig (.tuple (d0 :: args)) = if isVarD d0 = true then none else (patW sig (.tuple (d0 :: args)) none [] 200).map (·.1) := rfl
      rw [e1] at hk
      cases hd : isVarD d0 with
      | true =>
        rw [if_pos hd] at hk
        simp [Ds, dRaise, mkRho, nOw, sgn, dYes, wipeR, back]
        exact hk
      | false =>
        rw [if_neg (by rw [hd]; decide)] at hk
        simp [Ds, dRaise, mkRho, nOw, sgn, dYes, wipeR, back]
        refine ⟨.nil, sig, .tuple (d0 :: args), none, [], 200, rfl, hv, by decide, (fun _ n as e => ?_), ?_⟩
        · cases e
          exact hd
        cases hp : patW sig (.tuple (d0 :: args)) none [] 200 with
        | none =>
          rw [hp] at hk
          simp [Ds, dRaise, mkRho, nOw, sgn, dYes, wipeR, back, patD]
          exact hk
        | some x =>
          obtain ⟨kn, l⟩ := x
          rw [hp] at hk
          simp [Ds, dRaise, mkRho, nOw, sgn, dYes, wipeR, back, patD]
          exact hk
  | _ =>
    simp [Ds, dRaise, mkRho, nOw, sgn, dYes, wipeR, back]
    exact hk
theorem sc_is_pattern : FnScope ["signature", "value"] ["signature", "value"] (defScope s_is_pattern) := ⟨rfl, rfl, rfl, by decide +kernel, rfl, by decide +kernel, by decide +kernel⟩
theorem ok_is_pattern {f f1 : Addr} {fd fd1 : FuncData} (F : Fun K "is_pattern" "is_pattern" s_is_pattern f fd) (T : Txt0 mg) {D : Nat} (G_variable_sorts : FnOk P w K mg base CX0 (6 + D) f1 fd1 ["signature", "value"] (spD K tabs (spVars D))) (F_variable_sorts : Fun K "variable_sorts" "variable_sorts" s_variable_sorts f1 fd1) (b_variable_sorts : Binds K fd1 ["signature", "value"] []) (g_variable_sorts : mg "variable_sorts" = some (.ref f1)) :
    FnOk P w K mg base CX0 (7 + D) f fd ["signature", "value"] (spD K tabs (spIsPat D)) := by
  rw [show 7 + D = (6 + D) + 1 by omega]
  refine Fun.okD F sc_is_pattern (fun as k W ⟨_, _, e, _⟩ => by rw [e]; rfl) fun cdv A outer s H E M B W xs mh bh hr1 => ?_
  have nd := sc_is_pattern.nd
  refine ⟨_, _, (pdb_one (pds_ret (pd_cmp op_notN od_notN (pd_call G_variable_sorts hr1 (by rfl) g_variable_sorts F_variable_sorts.kp b_variable_sorts (pda_cons (pd_var (pv 0)) (pda_cons (pd_var (pv 1)) pda_nil))) pd_non (nomark _)))), ?_⟩
  rintro _ k ⟨sig, v, rfl, hv, hk⟩
  simp [Ds, dRaise, mkRho, nOw, sgn, dYes, wipeR, back]
  refine ⟨.nil, sig, v, rfl, hv, ?_⟩
  unfold isPat at hk
  cases h : varsOf sig v with
  | none =>
    rw [h] at hk
    simp [Ds, dRaise, mkRho, nOw, sgn, dYes, wipeR, back, varsD]
    exact hk
  | some kn =>
    rw [h] at hk
    simp [Ds, dRaise, mkRho, nOw, sgn, dYes, wipeR, back, varsD, dicS]
    exact hk
end
end K05

set_option Elab.async false
set_option maxRecDepth 100000
set_option maxHeartbeats 4000000
set_option linter.all false
set_option pp.maxSteps 3000
namespace K05
open PySem L2 DL TM
def spWrite (D : Nat) : DSp := fun as k _ => ∃ t, as = [.d (tmD t)] ∧ dep t ≤ D ∧ (wr t).length ≤ 100000 ∧ k (.str (wr t)) []
def spPieces : DSp := fun as k _ => ∃ z, as = [.d (.str z)] ∧ z.length ≤ 100000 ∧ k (.list ((pcs z).map .str)) []
section
variable {P : Program} {w : World} {K : PySem.W.Frag} {mg : Str → Option Value} {base : Heap} {tabs : List Addr}
theorem sc_write : FnScope ["term", "one"] ["term"] (defScope s_write) := ⟨rfl, rfl, rfl, by decide +kernel, rfl, by decide +kernel, by decide +kernel⟩
theorem ok_write_step {N : Nat} {f : Addr} {fd : FuncData} (F : Fun K "write" "write" s_write f fd) (T : Txt0 mg) (b_write : Binds K fd ["term"] []) (g_write : mg "write" = some (.ref f)) (D : Nat)
    (G_write : FnOk P w K mg base CX0 N f fd ["term"] (spD K tabs fun as k W => ∃ D', D' + 1 ≤ D ∧ spWrite D' as k W)) :
    FnOk P w K mg base CX0 (N + 1) f fd ["term"] (spD K tabs (spWrite D)) := by
  refine Fun.okD F sc_write (fun as k W ⟨_, e, _⟩ => by rw [e]; rfl) fun cdv A outer s H E M B W xs mh bh hr => ?_
  have nd := sc_write.nd
  have F_write := F
  refine ⟨_, _, (pdb_cons (pds_if (pdt_cmp op_eq od_eqF (pd_callB (GK.lenK K) cd_len (by rfl) T.B.len (by decide +kernel) (pda_cons (pd_var (pv 0)) pda_nil)) pd_int (nomark _)) 
      (pdb_one (pds_ret (pd_ix (GK.ixQK K) od_ix (pd_var (pv 0)) pd_int (fun _ _ => rfl)))) pdb_nil)
    (pdb_one (pds_ret (pd_op op_add_str od_addS (pd_op op_add_str od_addS (pd_op op_add_str od_addS (pd_ix (GK.ixQK K) od_ix (pd_var (pv 0)) pd_int (fun _ _ => rfl)) pd_str) (pd_ms PySem.F.slot_str_join PySem.F.type_str_join (joinK K) md_join pd_str (pda_cons (pd_frz (pf_lc (own := [("one", 1)]) rfl nd (pdi_tup (pd_slice (slTAK K) sd_tup (pd_var (pv 0)) (pdo_some pd_int) pdo_none)) (blkOk_by (N := ["term", "one"]) (sc := defScope s_write) (by decide +kernel)) (fun _ _ _ _ _ => (pdg_name (pg_name (i := 1) nd rfl (.inl rfl)))) gw_name (fun _ _ _ _ _ => pdts_nil) (fun _ _ _ _ _ => (pd_call G_write hr (by rfl) g_write F_write.kp b_write (pda_cons (pd_var (pv 1)) pda_nil))) s)) pda_nil))) pd_str)))), ?_⟩
  rintro _ k ⟨t, rfl, hd, hl, hk⟩
  obtain ⟨n, args⟩ := t
  simp [Ds, dRaise, mkRho, nOw, sgn, dYes, wipeR, back, tmD]
  by_cases h0 : args.length = 0
  · have : args = [] := List.length_eq_zero_iff.mp h0
    subst this
    rw [wr_leaf h0] at hk
    simp [Ds, dRaise, mkRho, nOw, sgn, dYes, wipeR, back, tmsD]
    exact hk
  · have hm : (tmsD args).length ≠ 0 := by rw [tmsD_length]; exact h0
    rw [show decide (((tmsD args).length : Int) + 1 = 1) = false from decide_eq_false (by omega)]
    simp [Ds, dRaise, mkRho, nOw, sgn, dYes, wipeR, back]
    have e := wr_node (n := n) h0
    have hw : wrs args ≠ [] := fun e => by
      have := wrs_length args
      rw [e] at this
      exact h0 this.symm
    have jl := join_len comma hw
    have hc : comma.length = 2 := rfl
    have hp : (Str.ofString "(").length = 1 := rfl
    have hq : (Str.ofString ")").length = 1 := rfl
    rw [hc, wrs_length] at jl
    have hl' := hl
    rw [e, len_app, len_app, len_app, hp, hq] at hl'
    have big : 200002 < sizeLine := by decide
    refine ⟨by rw [hp]; omega, fun i acc ρ => ρ = [some (.d (.tuple (.str n :: tmsD args))), none] ∧ acc = ((wrs args).take i).map PyData.str, ⟨rfl, rfl⟩, ?_, ?_⟩
    · rintro i x acc ρ hx ⟨rfl, rfl⟩
      obtain ⟨t, ht, rfl⟩ := tmsD_get hx
      simp [Ds, dRaise, mkRho, nOw, sgn, dYes, wipeR, back]
      have hi : i < args.length := (List.getElem?_eq_some_iff.mp ht).1
      refine ⟨.nil, dep t, ?_, t, rfl, Nat.le_refl _, Nat.le_trans (wr_part (n := n) ht) hl, ?_⟩
      · have := deps_get ht
        rw [dep] at hd
        omega
      · simp [Ds, dRaise, mkRho, nOw, sgn, dYes, wipeR, back]
        have hwi := wrs_get ht
        refine ⟨by rw [wrs_length]; omega, ?_⟩
        simp [List.take_add_one, hwi]
    · rintro acc ρ ⟨rfl, rfl⟩
      simp [Ds, dRaise, mkRho, nOw, sgn, dYes, wipeR, back]
      refine ⟨wrs args, by rw [tmsD_length, ← wrs_length args, List.take_of_length_le (by simp)], ?_, ?_⟩
      · rw [wrs_length]
        show _ + _ * 2 ≤ _
        omega
      · rw [e] at hk
        rw [show Str.ofString ", " = comma from rfl, len_app, len_app, len_app, hp, hq]
        exact ⟨by omega, by omega, hk⟩
theorem sc_pieces_of : FnScope ["text", "found", "name", "sign"] ["text"] (defScope s_pieces_of) := ⟨rfl, rfl, rfl, by decide +kernel, rfl, by decide +kernel, by decide +kernel⟩
theorem ok_pieces {f : Addr} {fd : FuncData} (F : Fun K "pieces_of" "pieces_of" s_pieces_of f fd) (T : Txt0 mg) : FnOk P w K mg base CX0 1 f fd ["text"] (spD K tabs spPieces) := by
  refine Fun.okD F sc_pieces_of (fun as k W ⟨_, e, _⟩ => by rw [e]; rfl) fun cdv A outer s H E M B W xs mh bh hr1 => ?_
  have nd := sc_pieces_of.nd
  refine ⟨_, _, (pdb_cons (pds_ownN (i := 1) nd rfl (.inl rfl) (pf_lst pda_nil))
    (pdb_cons (pds_setN (i := 2) nd rfl (.inl rfl) pd_str)
    (pdb_cons (pds_for PassesOwn.never rfl (pdi_str (pd_var (pv 0))) (pdg_name (pg_name (i := 3) nd rfl (.inl rfl))) 
      (pdb_one (pds_if (PDw.pt (pdw_or (pdt_cmp op_in_sign od_inSgn (pd_var (pv 3)) (pd_gstr (by rfl) T.B.g_STOPS) (by with_unfolding_all rfl)) (pdw_or1 (pdt_cmp op_eq od_eqF (pd_var (pv 3)) pd_str (nomark _))))) 
        (pdb_cons (pds_if (pdt_cmp op_ne od_neF (pd_var (pv 2)) pd_str (nomark _)) 
          (pdb_cons (pds_expr (pd_appN (pv 1) (pd_var (pv 2))))
          (pdb_one (pds_setN (i := 2) nd rfl (.inl rfl) pd_str))) pdb_nil)
        (pdb_one (pds_if (pdt_cmp op_ne od_neF (pd_var (pv 3)) pd_str (nomark _)) 
          (pdb_one (pds_expr (pd_appN (pv 1) (pd_var (pv 3))))) pdb_nil))) 
        (pdb_one (pds_setN (i := 2) nd rfl (.inl rfl) (pd_op op_add_str od_addS (pd_var (pv 2)) (pd_var (pv 3))))))))
    (pdb_cons (pds_if (pdt_cmp op_ne od_neF (pd_var (pv 2)) pd_str (nomark _)) 
      (pdb_one (pds_expr (pd_appN (pv 1) (pd_var (pv 2))))) pdb_nil)
    (pdb_one (pds_ret (pd_var (pv 1)))))))), ?_⟩
  rintro _ k ⟨z, rfl, hl, hk⟩
  simp [Ds, dRaise, mkRho, nOw, sgn, dYes, wipeR, back]
  refine ⟨fun i ρ => ∃ (acc : List Str) (nm : List Nat) (c : Option DV), ρ = [some (.d (.str z)), some (.ow (.lst none (acc.map .str))), some (.d (.str (txt nm))), c] ∧ acc.length ≤ 2 * i ∧ nm.length ≤ i ∧ acc ++ pcsL (z.cps.toList.drop i) nm = pcs z, ⟨[], [], none, rfl, Nat.le_refl _, Nat.le_refl _, rfl⟩, ?_, ?_⟩
  · rintro i x _ hx ⟨acc, nm, c0, rfl, la, ln, he⟩
    obtain ⟨c, hc, rfl⟩ : ∃ c, z.cps.toList[i]? = some c ∧ sgn c = x := by
      rw [List.getElem?_map] at hx
      obtain ⟨c, h1, h2⟩ := Option.map_eq_some_iff.mp hx
      exact ⟨c, h1, h2⟩
    have hi : i < z.cps.toList.length := (List.getElem?_eq_some_iff.mp hc).1
    have hl2 : z.cps.toList.length ≤ 100000 := hl
    have ec : z.cps.toList[i] = c := (List.getElem?_eq_some_iff.mp hc).2
    rw [List.drop_eq_getElem_cons hi, ec, pcsL] at he
    have big : 200002 < sizeLine := by decide
    simp [Ds, dRaise, mkRho, nOw, sgn, dYes, wipeR, back]
    by_cases hs : c ∈ STP ∨ c = 32
    · rw [if_pos hs] at he
      by_cases h32 : c = 32
      · have hn : ¬ c ∈ STP := fun m => by rw [h32] at m; exact absurd m (by decide)
        rw [decide_eq_false hn]
        rw [if_pos h32] at he
        simp [Ds, dRaise, mkRho, nOw, sgn, dYes, wipeR, back]
        rw [decide_eq_true h32]
        simp [Ds, dRaise, mkRho, nOw, sgn, dYes, wipeR, back]
        by_cases he0 : nm = []
        · rw [decide_eq_true he0]
          subst he0
          simp [Ds, dRaise, mkRho, nOw, sgn, dYes, wipeR, back]
          rw [decide_eq_true h32]
          simp [Ds, dRaise, mkRho, nOw, sgn, dYes, wipeR, back]
          exact ⟨acc, [], ⟨rfl, rfl⟩, by omega, by simp, by simpa [flushL] using he⟩
        · rw [decide_eq_false he0]
          simp [Ds, dRaise, mkRho, nOw, sgn, dYes, wipeR, back]
          rw [decide_eq_true h32]
          simp [Ds, dRaise, mkRho, nOw, sgn, dYes, wipeR, back]
          exact ⟨by omega, acc ++ [txt nm], [], ⟨by simp, rfl⟩, by simp; omega, by simp, by simpa [flushL, he0] using he⟩
      · have hm : c ∈ STP := hs.resolve_right h32
        rw [decide_eq_true hm]
        rw [if_neg h32] at he
        simp [Ds, dRaise, mkRho, nOw, sgn, dYes, wipeR, back]
        by_cases he0 : nm = []
        · rw [decide_eq_true he0]
          subst he0
          simp [Ds, dRaise, mkRho, nOw, sgn, dYes, wipeR, back]
          rw [decide_eq_false h32]
          simp [Ds, dRaise, mkRho, nOw, sgn, dYes, wipeR, back]
          exact ⟨by omega, acc ++ [⟨#[c]⟩], [], ⟨by simp, rfl⟩, by simp; omega, by simp, by simpa [flushL] using he⟩
        · rw [decide_eq_false he0]
          simp [Ds, dRaise, mkRho, nOw, sgn, dYes, wipeR, back]
          rw [decide_eq_false h32]
          simp [Ds, dRaise, mkRho, nOw, sgn, dYes, wipeR, back]
          exact ⟨by omega, by omega, acc ++ [txt nm, ⟨#[c]⟩], [], ⟨by simp, rfl⟩, by simp; omega, by simp, by simpa [flushL, he0] using he⟩
    · rw [if_neg hs] at he
      rw [decide_eq_false fun m => hs (.inl m)]
      simp [Ds, dRaise, mkRho, nOw, sgn, dYes, wipeR, back]
      rw [decide_eq_false fun m => hs (.inr m)]
      simp [Ds, dRaise, mkRho, nOw, sgn, dYes, wipeR, back]
      exact ⟨by rw [txt_len]; show _ + 1 ≤ _; omega, acc, nm ++ [c], ⟨rfl, txt_snoc nm c⟩, by omega, by simp; omega, he⟩
  · rintro ρ ⟨acc, nm, c0, rfl, la, ln, he⟩
    rw [List.length_map, List.drop_eq_nil_of_le (Nat.le_refl _), pcsL] at he
    simp [Ds, dRaise, mkRho, nOw, sgn, dYes, wipeR, back]
    rw [← he] at hk
    by_cases he0 : nm = []
    · rw [decide_eq_true he0]
      subst he0
      simp [Ds, dRaise, mkRho, nOw, sgn, dYes, wipeR, back, flushL] at hk ⊢
      exact hk
    · rw [decide_eq_false he0]
      simp [Ds, dRaise, mkRho, nOw, sgn, dYes, wipeR, back, flushL, he0] at hk ⊢
      have big : 200002 < sizeLine := by decide
      have hl2 : z.cps.toList.length ≤ 100000 := hl
      rw [List.length_map] at la
      exact ⟨by omega, hk⟩
theorem ok_write {f : Addr} {fd : FuncData} (F : Fun K "write" "write" s_write f fd) (T : Txt0 mg) (b_write : Binds K fd ["term"] []) (g_write : mg "write" = some (.ref f)) :
    ∀ D : Nat, FnOk P w K mg base CX0 (1 + D) f fd ["term"] (spD K tabs (spWrite D))
  | 0 => ok_write_step F T b_write g_write 0 (okNever fun _ _ _ ⟨_, e, _⟩ => nomatch e)
  | D + 1 => ok_write_step F T b_write g_write (D + 1) (okImp (ok_write F T b_write g_write D) fun _ _ _ ⟨D', e, t, ea, h, r⟩ => ⟨t, ea, by omega, r⟩)
end
end K05

set_option Elab.async false
set_option maxRecDepth 100000
set_option maxHeartbeats 4000000
set_option linter.all false
set_option pp.maxSteps 3000
namespace K05
open PySem L2 DL TM
theorem passN {X : Cx} {E : XK} (hs : X.stack = X.env :: X.outer) (hf : X.env.frame = some X.env.locals) (hex : X.ex = []) {E₁ : Value → Shared → Prop}
    (hx : X.xe = fun e s' => wpAny (model X.prog X.w) X.A (leaving X.env e) (fun _ s'' => L2N.CX X.prog X.w X.outer X.H_0 X.s_0 E e s'') E₁ s') : Passes (L2N.CX X.prog X.w) X E := L2N.passes_call (L2N.takes_of hs hf hex hx) fun _ _ _ _ h => h
structure TxE (K : PySem.W.Frag) (mg : Str → Option Value) (Cm : Addr) : Prop extends Txt0 mg where
  gM : mg "Malformed" = some (.ref Cm)
  kM : PySem.W.keepIn K (.ref Cm) = true
  qM : PySem.W.excIn K Cm [.type "ValueError", .type "Exception", .type "BaseException", .type "object"] "ValueError.__new__" = true
  bM : PySem.W.subIn K (.ref Cm) (.type "BaseException") = some true
  tM : PySem.W.typeIn K (.ref Cm) = some (.type "type")
def outRd (Cm : Addr) (ps : List Str) (k : PyData → List (List PyData) → Prop) (W : Addr → Prop) : Option (Tm × List Str) → Prop
  | some (t, r) => k (.tuple [tmD t, .int ((ps.length - r.length : Nat) : Int)]) []
  | none => W Cm
theorem outRd_s {Cm : Addr} {ps r : List Str} {k : PyData → List (List PyData) → Prop} {W : Addr → Prop} {t : Tm} : outRd Cm ps k W (some (t, r)) = k (.tuple [tmD t, .int ((ps.length - r.length : Nat) : Int)]) [] := rfl
def spRead (Cm : Addr) (D : Nat) : DSp := fun as k W => ∃ (ps : List Str) (p : Nat) (o : Option (Tm × List Str)), as = [.d (.list (ps.map .str)), .d (.int (p : Int))] ∧ ps.length ≤ 200000 ∧ opens (ps.drop p) ≤ D ∧ Rd (ps.drop p) o ∧ outRd Cm ps k W o
section
variable {P : Program} {w : World} {K : PySem.W.Frag} {mg : Str → Option Value} {base : Heap} {tabs : List Addr}
theorem sc_read_from : FnScope ["pieces", "place", "found", "one"] ["pieces", "place"] (defScope s_read_from) := ⟨rfl, rfl, rfl, by decide +kernel, rfl, by decide +kernel, by decide +kernel⟩
theorem ok_read_step {N : Nat} {f Cm : Addr} {fd : FuncData} (F : Fun K "read_from" "read_from" s_read_from f fd) (T : TxE K mg Cm) (b_read_from : Binds K fd ["pieces", "place"] []) (g_read_from : mg "read_from" = some (.ref f)) (D : Nat)
    (G_read_from : FnOk P w K mg base (L2N.CX P w) N f fd ["pieces", "place"] (spD K tabs fun as k W => ∃ D', D' + 1 = D ∧ spRead Cm D' as k W)) :
    FnOk P w K mg base (L2N.CX P w) (N + 1) f fd ["pieces", "place"] (spD K tabs (spRead Cm D)) := by
  refine Fun.okX F sc_read_from (fun as k W ⟨_, _, _, e, _⟩ => by rw [e]; rfl) fun cdv A outer s H E M B W xs mh bh hr => ?_
  have nd := sc_read_from.nd
  have F_read_from := F
  refine ⟨_, _, (pdb_cons (pds_if (PDw.pt (pdw_or (pdt_cmp op_ge od_cmpI (pd_var (pv 1)) (pd_callB (GK.lenK K) cd_len (by rfl) T.B.len (by decide +kernel) (pda_cons (pd_var (pv 0)) pda_nil)) (nomark _)) (pdw_or1 (pdt_cmp op_in_str od_inStr (pd_ix (GK.ixQK K) od_ix (pd_var (pv 0)) (pd_var (pv 1)) (fun _ _ => rfl)) (pd_gstr (by rfl) T.B.g_STOPS) (by with_unfolding_all rfl))))) 
      (pdb_one (pds_raise (L2N.ps_raise rfl (L2N.takes_of rfl rfl rfl rfl) (L2N.pmk_own PySem.F.excBase_ValueError T.qM T.gM T.kM (raises_own T.bM T.tM) (by exact rfl))))) pdb_nil)
    (pdb_cons (pds_ownN (i := 2) nd rfl (.inl rfl) (pf_lst (pda_cons (pd_ix (GK.ixQK K) od_ix (pd_var (pv 0)) (pd_var (pv 1)) (fun _ _ => rfl)) pda_nil)))
    (pdb_cons (pds_augN (i := 1) nd rfl (.inl rfl) pd_int ip_add od_int)
    (pdb_cons (pds_if (PDw.pt (pdw_or (pdt_cmp op_ge od_cmpI (pd_var (pv 1)) (pd_callB (GK.lenK K) cd_len (by rfl) T.B.len (by decide +kernel) (pda_cons (pd_var (pv 0)) pda_nil)) (nomark _)) (pdw_or1 (pdt_cmp op_ne od_neF (pd_ix (GK.ixQK K) od_ix (pd_var (pv 0)) (pd_var (pv 1)) (fun _ _ => rfl)) pd_str (nomark _))))) 
      (pdb_one (pds_ret (pd_tup (pda_cons (pd_callTy (GK.tupOfK K) cd_tupOf (by rfl) T.B.tuple (by decide +kernel) (pda_cons (pd_var (pv 2)) pda_nil)) (pda_cons (pd_var (pv 1)) pda_nil))))) pdb_nil)
    (pdb_one (pds_while PassesOwn.leaving (pdt_val pd_bl) 
      (pdb_cons (pds_asg (pd_callX G_read_from hr (by rfl) g_read_from F_read_from.kp b_read_from (passN rfl rfl rfl rfl) (pda_cons (pd_var (pv 0)) (pda_cons (pd_op op_add od_int (pd_var (pv 1)) pd_int) pda_nil))) (pdg_tup (n := 2) rfl (pdgs_cons (pdg_name (pg_name (i := 3) nd rfl (.inl rfl))) (pdgs_cons (pdg_name (pg_name (i := 1) nd rfl (.inl rfl))) pdgs_nil))))
      (pdb_cons (pds_expr (pd_appN (pv 2) (pd_var (pv 3))))
      (pdb_cons (pds_if (PDw.pt (pdw_or (pdt_cmp op_ge od_cmpI (pd_var (pv 1)) (pd_callB (GK.lenK K) cd_len (by rfl) T.B.len (by decide +kernel) (pda_cons (pd_var (pv 0)) pda_nil)) (nomark _)) (pdw_or1 (pdt_cmp L2.op_notIn_str od_notInStr (pd_ix (GK.ixQK K) od_ix (pd_var (pv 0)) (pd_var (pv 1)) (fun _ _ => rfl)) pd_str (by with_unfolding_all rfl))))) 
        (pdb_one (pds_raise (L2N.ps_raise rfl (L2N.takes_of rfl rfl rfl rfl) (L2N.pmk_own PySem.F.excBase_ValueError T.qM T.gM T.kM (raises_own T.bM T.tM) (by exact rfl))))) pdb_nil)
      (pdb_one (pds_if (pdt_cmp op_eq od_eqF (pd_ix (GK.ixQK K) od_ix (pd_var (pv 0)) (pd_var (pv 1)) (fun _ _ => rfl)) pd_str (nomark _)) 
        (pdb_one (pds_ret (pd_tup (pda_cons (pd_callTy (GK.tupOfK K) cd_tupOf (by rfl) T.B.tuple (by decide +kernel) (pda_cons (pd_var (pv 2)) pda_nil)) (pda_cons (pd_op op_add od_int (pd_var (pv 1)) pd_int) pda_nil))))) pdb_nil))))))))))), ?_⟩
  rintro _ k ⟨ps, p, o, rfl, hl, hd, hR, ho⟩
  have big : 200002 < sizeLine := by decide
  have opE : (Str.ofString "(") = opn := rfl
  simp [Ds, dRaise, mkRho, nOw, sgn, dYes, wipeR, back]
  by_cases hp : ps.length ≤ p
  · rw [decide_eq_true hp]
    rw [List.drop_eq_nil_of_le hp] at hR
    cases hR
    simp [Ds, dRaise, mkRho, nOw, sgn, dYes, wipeR, back]
    exact ho
  rw [decide_eq_false hp]
  simp [Ds, dRaise, mkRho, nOw, sgn, dYes, wipeR, back]
  obtain ⟨p0, rest, hdr⟩ : ∃ p0 rest, ps.drop p = p0 :: rest := by
    cases e : ps.drop p with
    | nil =>
      have := List.drop_eq_nil_iff.mp e
      exact absurd this hp
    | cons a b => exact ⟨a, b, rfl⟩
  have at0 := at_str hdr
  have hdr1 := (at_drop hdr).2
  have hlen : (ps.drop p).length = rest.length + 1 := by rw [hdr]; rfl
  rw [List.length_drop] at hlen
  rw [hdr] at hR hd
  rw [at0]
  simp [Ds, dRaise, mkRho, nOw, sgn, dYes, wipeR, back]
  rw [show inSub (Str.ofString "(),") p0 = inS p0 from rfl]
  cases hs : inS p0 with
  | true =>
    cases hR with
    | stop _ =>
      simp [Ds, dRaise, mkRho, nOw, sgn, dYes, wipeR, back]
      exact ho
    | leaf0 h => rw [hs] at h; cases h
    | leaf h _ => rw [hs] at h; cases h
    | node h _ => rw [hs] at h; cases h
  | false =>
    simp [Ds, dRaise, mkRho, nOw, sgn, dYes, wipeR, back]
    rw [at0]
    simp [Ds, dRaise, mkRho, nOw, sgn, dYes, wipeR, back]
    refine ⟨by decide, ?_⟩
    by_cases hp1 : ps.length ≤ p + 1
    · have : rest = [] := by
        refine List.length_eq_zero_iff.mp ?_
        omega
      subst this
      rw [show decide ((ps.length : Int) ≤ (p : Int) + 1) = true from decide_eq_true (by omega)]
      simp [Ds, dRaise, mkRho, nOw, sgn, dYes, wipeR, back]
      cases hR with
      | stop h => rw [hs] at h; cases h
      | leaf0 _ =>
        have e : ((ps.length - ([] : List Str).length : Nat) : Int) = (p : Int) + 1 := by
          show ((ps.length - 0 : Nat) : Int) = _
          omega
        have ho : k (.tuple [tmD (.mk p0 []), .int ((ps.length - ([] : List Str).length : Nat) : Int)]) [] := ho
        rw [e] at ho
        exact ⟨by decide, ho⟩
    rw [show decide ((ps.length : Int) ≤ (p : Int) + 1) = false from decide_eq_false (by omega)]
    simp [Ds, dRaise, mkRho, nOw, sgn, dYes, wipeR, back]
    obtain ⟨q, r, hr⟩ : ∃ q r, rest = q :: r := by
      cases rest with
      | nil => exact absurd (by simp at hlen; omega) hp1
      | cons q r => exact ⟨q, r, rfl⟩
    subst hr
    have at1 := at_str hdr1
    rw [show ((p + 1 : Nat) : Int) = (p : Int) + 1 by omega] at at1
    have hdr2 := (at_drop hdr1).2
    rw [at1]
    simp [Ds, dRaise, mkRho, nOw, sgn, dYes, wipeR, back]
    by_cases hq : q = opn
    · rw [decide_eq_true (show q = Str.ofString "(" from hq)]
      simp [Ds, dRaise, mkRho, nOw, sgn, dYes, wipeR, back]
      subst hq
      obtain ⟨o2, hR2, ho2⟩ : ∃ o2, Rds r o2 ∧ outRd Cm ps k W (o2.map fun x => (.mk p0 x.1, x.2)) := by
        cases hR with
        | stop h => rw [hs] at h; cases h
        | leaf _ h => exact absurd rfl h
        | node _ h => exact ⟨_, h, ho⟩
      have hop : opens r + 1 ≤ D := by
        have e1 : opens (p0 :: opn :: r) = opens [p0] + (opens [opn] + opens r) := by
          rw [show p0 :: opn :: r = [p0] ++ ([opn] ++ r) from rfl, opens_app, opens_app]
        have e2 : opens [opn] = 1 := by decide +kernel
        omega
      refine ⟨fun m ρ => ∃ (p1 : Nat) (acc : List Tm) (x : Option DV) (o2 : Option (List Tm × List Str)), ρ = [some (.d (.list (ps.map .str))), some (.d (.int (p1 : Int))), some (.ow (.lst none (.str p0 :: tmsD acc))), x] ∧ m = ps.length - p1 ∧ p1 < ps.length ∧ acc.length ≤ p1 ∧ opens (ps.drop (p1 + 1)) + 1 ≤ D ∧ Rds (ps.drop (p1 + 1)) o2 ∧ outRd Cm ps k W (o2.map fun x => (.mk p0 (acc ++ x.1), x.2)),
        ⟨ps.length - (p + 1), p + 1, [], none, o2, by rw [show ((p + 1 : Nat) : Int) = (p : Int) + 1 by omega]; rfl, rfl, by omega, Nat.zero_le _, by rw [hdr2]; exact hop, by rw [hdr2]; exact hR2, ho2⟩, ?_⟩
      rintro m _ ⟨p1, acc, x, o2, rfl, rfl, hp1', hacc, hop', hR2, ho2⟩
      simp [Ds, dRaise, mkRho, nOw, sgn, dYes, wipeR, back]
      have call : ∀ o1 : Option (Tm × List Str), Rd (ps.drop (p1 + 1)) o1 → ∃ D', D' + 1 = D ∧ opens (ps.drop (p1 + 1)) ≤ D' ∧ Rd (ps.drop (p1 + 1)) o1 := fun o1 h => ⟨D - 1, by omega, by omega, h⟩
      have e11 : ((p1 : Int) + 1) = ((p1 + 1 : Nat) : Int) := by omega
      have back1 : ∀ {t : Tm} {r2 : List Str}, Rd (ps.drop (p1 + 1)) (some (t, r2)) → ps.drop (ps.length - r2.length) = r2 ∧ r2.length ≤ ps.length ∧ p1 + 1 < ps.length - r2.length + 1 ∧ opens r2 ≤ opens (ps.drop (p1 + 1)) := fun h => by
        obtain ⟨s, es, ne⟩ := h.suf _ _ rfl
        obtain ⟨a, b⟩ := drop_suf es
        refine ⟨a, b, ?_, opens_suf es⟩
        have hl2 := congrArg List.length es
        rw [List.length_drop, List.length_append] at hl2
        have := List.length_pos_iff.mpr ne
        omega
      cases hR2 with
      | bad h =>
        obtain ⟨D', eD, hle, h⟩ := call _ h
        exact ⟨.nil, D', eD, ps, p1 + 1, none, by rw [e11], hl, hle, h, ho2⟩
      | @fin _ t h =>
        obtain ⟨D', eD, hle, h'⟩ := call _ h
        refine ⟨.nil, D', eD, ps, p1 + 1, _, by rw [e11], hl, hle, h', ?_⟩
        have hmm : (tmsD acc).length + 1 < sizeLine := by rw [tmsD_length]; omega
        simp [Ds, dRaise, mkRho, nOw, sgn, dYes, wipeR, back, outRd_s]
        refine ⟨hmm, ?_⟩
        exact ho2
      | @odd _ r2 t q h hq =>
        obtain ⟨D', eD, hle, h'⟩ := call _ h
        refine ⟨.nil, D', eD, ps, p1 + 1, _, by rw [e11], hl, hle, h', ?_⟩
        have hmm : (tmsD acc).length + 1 < sizeLine := by rw [tmsD_length]; omega
        obtain ⟨hd2, hl2, hlt, _⟩ := back1 h
        have at2 := at_str hd2
        have hl3 : (q :: r2).length = r2.length + 1 := rfl
        have hP0 : ps.length - (q :: r2).length < ps.length := by omega
        rw [outRd_s]
        generalize ps.length - (q :: r2).length = P2 at hd2 at2 hlt hP0 ⊢
        simp [Ds, dRaise, mkRho, nOw, sgn, dYes, wipeR, back]
        refine ⟨hmm, ?_⟩
        rw [show decide (ps.length ≤ P2) = false from decide_eq_false (by omega)]
        simp [Ds, dRaise, mkRho, nOw, sgn, dYes, wipeR, back]
        rw [at2]
        simp [Ds, dRaise, mkRho, nOw, sgn, dYes, wipeR, back]
        rw [show inSub (Str.ofString ",)") q = inC q from rfl, hq]
        simp [Ds, dRaise, mkRho, nOw, sgn, dYes, wipeR, back]
        exact ho2
      | @last _ r2 t h =>
        obtain ⟨D', eD, hle, h'⟩ := call _ h
        refine ⟨.nil, D', eD, ps, p1 + 1, _, by rw [e11], hl, hle, h', ?_⟩
        have hmm : (tmsD acc).length + 1 < sizeLine := by rw [tmsD_length]; omega
        obtain ⟨hd2, hl2, hlt, _⟩ := back1 h
        have at2 := at_str hd2
        have hl3 : (cls :: r2).length = r2.length + 1 := rfl
        have hP0 : ps.length - (cls :: r2).length < ps.length := by omega
        have hP1 : ((ps.length - r2.length : Nat) : Int) = ((ps.length - (cls :: r2).length : Nat) : Int) + 1 := by omega
        have ho3 : k (.tuple [tmD (.mk p0 (acc ++ [t])), .int ((ps.length - r2.length : Nat) : Int)]) [] := ho2
        rw [hP1] at ho3
        rw [outRd_s]
        generalize ps.length - (cls :: r2).length = P2 at hd2 at2 hlt hP0 ho3 ⊢
        simp [Ds, dRaise, mkRho, nOw, sgn, dYes, wipeR, back]
        refine ⟨hmm, ?_⟩
        rw [show decide (ps.length ≤ P2) = false from decide_eq_false (by omega)]
        simp [Ds, dRaise, mkRho, nOw, sgn, dYes, wipeR, back]
        rw [at2]
        simp [Ds, dRaise, mkRho, nOw, sgn, dYes, wipeR, back]
        rw [show inSub (Str.ofString ",)") cls = inC cls from rfl, inC_cls]
        simp [Ds, dRaise, mkRho, nOw, sgn, dYes, wipeR, back]
        rw [at2]
        simp [Ds, dRaise, mkRho, nOw, sgn, dYes, wipeR, back]
        rw [show decide (cls = Str.ofString ")") = true from decide_eq_true rfl]
        simp [Ds, dRaise, mkRho, nOw, sgn, dYes, wipeR, back]
        rw [tmD, tmsD_app] at ho3
        exact ⟨by decide, ho3⟩
      | @more _ r2 t q o3 h hq hn h3 =>
        obtain ⟨D', eD, hle, h'⟩ := call _ h
        refine ⟨.nil, D', eD, ps, p1 + 1, _, by rw [e11], hl, hle, h', ?_⟩
        have hmm : (tmsD acc).length + 1 < sizeLine := by rw [tmsD_length]; omega
        obtain ⟨hd2, hl2, hlt, hop2⟩ := back1 h
        have at2 := at_str hd2
        have hl3 : (q :: r2).length = r2.length + 1 := rfl
        have hP0 : ps.length - (q :: r2).length < ps.length := by omega
        rw [outRd_s]
        generalize ps.length - (q :: r2).length = P2 at hd2 at2 hlt hP0 ⊢
        have hd3 := (at_drop hd2).2
        have hop3 : opens r2 + 1 ≤ D := by
          have : opens r2 ≤ opens (q :: r2) := opens_suf (s := [q]) rfl
          omega
        simp [Ds, dRaise, mkRho, nOw, sgn, dYes, wipeR, back]
        refine ⟨hmm, ?_⟩
        rw [show decide (ps.length ≤ P2) = false from decide_eq_false (by omega)]
        simp [Ds, dRaise, mkRho, nOw, sgn, dYes, wipeR, back]
        rw [at2]
        simp [Ds, dRaise, mkRho, nOw, sgn, dYes, wipeR, back]
        rw [show inSub (Str.ofString ",)") q = inC q from rfl, hq]
        simp [Ds, dRaise, mkRho, nOw, sgn, dYes, wipeR, back]
        rw [at2]
        simp [Ds, dRaise, mkRho, nOw, sgn, dYes, wipeR, back]
        rw [show decide (q = Str.ofString ")") = false from decide_eq_false hn]
        simp [Ds, dRaise, mkRho, nOw, sgn, dYes, wipeR, back]
        refine ⟨_, (by omega : ps.length - P2 < ps.length - p1), P2, acc ++ [t], ⟨rfl, by rw [tmsD_app]; rfl⟩, rfl, hP0, by rw [List.length_append]; show acc.length + 1 ≤ P2; omega, by rw [hd3]; exact hop3, o3, by rw [hd3]; exact h3, ?_⟩
        cases o3 with
        | none => exact ho2
        | some x =>
          have e : (acc ++ [t]) ++ x.1 = acc ++ t :: x.1 := by simp
          show outRd Cm ps k W (some (Tm.mk p0 ((acc ++ [t]) ++ x.1), x.2))
          rw [e]
          exact ho2
    · rw [decide_eq_false (show ¬ q = Str.ofString "(" from hq)]
      simp [Ds, dRaise, mkRho, nOw, sgn, dYes, wipeR, back]
      cases hR with
      | stop h => rw [hs] at h; cases h
      | leaf _ _ =>
        have ho : k (.tuple [tmD (.mk p0 []), .int ((ps.length - (q :: r).length : Nat) : Int)]) [] := ho
        rw [show ((ps.length - (q :: r).length : Nat) : Int) = (p : Int) + 1 by simp at hlen ⊢; omega] at ho
        exact ⟨by decide, ho⟩
      | node _ _ => exact absurd rfl hq
theorem ok_read_from {f Cm : Addr} {fd : FuncData} (F : Fun K "read_from" "read_from" s_read_from f fd) (T : TxE K mg Cm) (b_read_from : Binds K fd ["pieces", "place"] []) (g_read_from : mg "read_from" = some (.ref f)) :
    ∀ D : Nat, FnOk P w K mg base (L2N.CX P w) (1 + D) f fd ["pieces", "place"] (spD K tabs (spRead Cm D))
  | 0 => ok_read_step F T b_read_from g_read_from 0 (okNever fun _ _ _ ⟨_, e, _⟩ => nomatch e)
  | D + 1 => ok_read_step F T b_read_from g_read_from (D + 1) (okImp (ok_read_from F T b_read_from g_read_from D) fun _ _ _ ⟨D', e, h⟩ => by
    have : D' = D := by omega
    rw [← this]
    exact h)
end
end K05

set_option Elab.async false
set_option maxRecDepth 100000
set_option maxHeartbeats 4000000
set_option linter.all false
set_option pp.maxSteps 3000
namespace K05
open PySem L2 DL TM
def outNs (Cm : Addr) (k : PyData → List (List PyData) → Prop) (W : Addr → Prop) : Option Tm → Prop
  | some t => k (tmD t) []
  | none => W Cm
theorem outNs_s {Cm : Addr} {k : PyData → List (List PyData) → Prop} {W : Addr → Prop} {t : Tm} : outNs Cm k W (some t) = k (tmD t) [] := rfl
theorem outNs_n {Cm : Addr} {k : PyData → List (List PyData) → Prop} {W : Addr → Prop} : outNs Cm k W none = W Cm := rfl
/-- texts up to 40000 signs, or no text -/
def NsD (d : PyData) (o : Option Tm) : Prop := (∃ z, d = .str z ∧ z.length ≤ 40000 ∧ Ns z o) ∨ ((∀ z, d ≠ .str z) ∧ o = none)
def spNested (Cm : Addr) : DSp := fun as k W => ∃ d o, as = [.d d] ∧ NsD d o ∧ outNs Cm k W o
section
variable {P : Program} {w : World} {K : PySem.W.Frag} {mg : Str → Option Value} {base : Heap} {tabs : List Addr}
theorem sc_nested : FnScope ["text", "pieces", "found", "place"] ["text"] (defScope s_nested) := ⟨rfl, rfl, rfl, by decide +kernel, rfl, by decide +kernel, by decide +kernel⟩
theorem ok_nested {f f1 f2 f3 Cm : Addr} {fd fd1 fd2 fd3 : FuncData} (F : Fun K "nested" "nested" s_nested f fd) (T : TxE K mg Cm)
    (G_pieces_of : FnOk P w K mg base CX0 1 f1 fd1 ["text"] (spD K tabs spPieces)) (F_pieces_of : Fun K "pieces_of" "pieces_of" s_pieces_of f1 fd1) (b_pieces_of : Binds K fd1 ["text"] []) (g_pieces_of : mg "pieces_of" = some (.ref f1))
    (G_read_from : FnOk P w K mg base (L2N.CX P w) 201 f2 fd2 ["pieces", "place"] (spD K tabs (spRead Cm 200))) (F_read_from : Fun K "read_from" "read_from" s_read_from f2 fd2) (b_read_from : Binds K fd2 ["pieces", "place"] []) (g_read_from : mg "read_from" = some (.ref f2))
    (G_write : FnOk P w K mg base CX0 202 f3 fd3 ["term"] (spD K tabs (spWrite 201))) (F_write : Fun K "write" "write" s_write f3 fd3) (b_write : Binds K fd3 ["term"] []) (g_write : mg "write" = some (.ref f3)) :
    FnOk P w K mg base (L2N.CX P w) 203 f fd ["text"] (spD K tabs (spNested Cm)) := by
  refine Fun.okX F sc_nested (fun as k W ⟨_, _, e, _⟩ => by rw [e]; rfl) fun cdv A outer s H E M B W xs mh bh hr => ?_
  have nd := sc_nested.nd
  have hr1 := hr.mono (show 1 ≤ 202 by decide)
  have hr2 := hr.mono (show 201 ≤ 202 by decide)
  have hr3 := hr
  refine ⟨_, _, (pdb_cons (pds_if (PDw.pt (pdw_or (pdt_not (pdt_val (pd_isi isT_str (GK.isiK K) (by rfl) T.B.isinstance (by decide +kernel) (pd_var (pv 0)) (pe_bltn (v := .ty "str") (by rfl) T.B.str (by decide +kernel) rfl)))) (pdw_or1 (pdt_cmp op_gt od_cmpI (pd_ms PySem.F.slot_str_count PySem.F.type_str_count mt_count md_count (pd_var (pv 0)) (pda_cons pd_str pda_nil)) (pd_gint (by rfl) T.B.g_MOST_OPEN) (nomark _))))) 
      (pdb_one (pds_raise (L2N.ps_raise rfl (L2N.takes_of rfl rfl rfl rfl) (L2N.pmk_own PySem.F.excBase_ValueError T.qM T.gM T.kM (raises_own T.bM T.tM) (by exact rfl))))) pdb_nil)
    (pdb_cons (pds_setN (i := 1) nd rfl (.inl rfl) (pd_call G_pieces_of hr1 (by rfl) g_pieces_of F_pieces_of.kp b_pieces_of (pda_cons (pd_var (pv 0)) pda_nil)))
    (pdb_cons (pds_asg (pd_callX G_read_from hr2 (by rfl) g_read_from F_read_from.kp b_read_from (passN rfl rfl rfl rfl) (pda_cons (pd_var (pv 1)) (pda_cons pd_int pda_nil))) (pdg_tup (n := 2) rfl (pdgs_cons (pdg_name (pg_name (i := 2) nd rfl (.inl rfl))) (pdgs_cons (pdg_name (pg_name (i := 3) nd rfl (.inl rfl))) pdgs_nil))))
    (pdb_cons (pds_if (PDw.pt (pdw_or (pdt_cmp op_ne od_neF (pd_var (pv 3)) (pd_callB (GK.lenK K) cd_len (by rfl) T.B.len (by decide +kernel) (pda_cons (pd_var (pv 1)) pda_nil)) (nomark _)) (pdw_or1 (pdt_cmp op_ne od_neF (pd_call G_write hr3 (by rfl) g_write F_write.kp b_write (pda_cons (pd_var (pv 2)) pda_nil)) (pd_var (pv 0)) (nomark _))))) 
      (pdb_one (pds_raise (L2N.ps_raise rfl (L2N.takes_of rfl rfl rfl rfl) (L2N.pmk_own PySem.F.excBase_ValueError T.qM T.gM T.kM (raises_own T.bM T.tM) (by exact rfl))))) pdb_nil)
    (pdb_one (pds_ret (pd_var (pv 2)))))))), ?_⟩
  rintro _ k ⟨d, o, rfl, hN, ho⟩
  rcases hN with ⟨z, rfl, hz, hN⟩ | ⟨hn, rfl⟩
  · have ec := count_lpar z
    simp [Ds, dRaise, mkRho, nOw, sgn, dYes, wipeR, back]
    rw [ec]
    cases hN with
    | much h =>
      rw [show decide ((200 : Int) < (lpar z : Int)) = true from decide_eq_true (by omega)]
      simp [Ds, dRaise, mkRho, nOw, sgn, dYes, wipeR, back]
      exact ho
    | @read o h hR =>
      rw [show decide ((200 : Int) < (lpar z : Int)) = false from decide_eq_false (by omega)]
      simp [Ds, dRaise, mkRho, nOw, sgn, dYes, wipeR, back]
      refine ⟨.nil, z, rfl, Nat.le_trans hz (by decide), ?_⟩
      simp [Ds, dRaise, mkRho, nOw, sgn, dYes, wipeR, back]
      have hop : opens (pcs z) ≤ 200 := Nat.le_trans (opens_pcsL z.cps.toList [] (by simp)) (by have : lpar z ≤ 200 := Nat.not_lt.mp h; exact this)
      have hpl := pcs_len z
      refine ⟨.nil, pcs z, 0, o, rfl, Nat.le_trans hpl.1 (Nat.le_trans hz (by decide)), hop, hR, ?_⟩
      cases o with
      | none => exact ho
      | some x =>
        obtain ⟨t, r⟩ := x
        have hlen := Rd.len hR (full_pcs z) t r rfl
        have hdep := Rd.dep hR t r rfl
        rw [outRd_s]
        simp [Ds, dRaise, mkRho, nOw, sgn, dYes, wipeR, back]
        obtain ⟨sf, es, _⟩ := hR.suf t r rfl
        have hsl : (pcs z).length = sf.length + r.length := by
          have := congrArg List.length es
          rw [List.length_append] at this
          exact this
        by_cases hr0 : r = []
        · subst hr0
          rw [show decide ((((pcs z).length - ([] : List Str).length : Nat) : Int) = ((pcs z).length : Int)) = true from decide_eq_true (by simp)]
          simp [Ds, dRaise, mkRho, nOw, sgn, dYes, wipeR, back]
          refine ⟨.nil, t, rfl, by omega, by omega, ?_⟩
          simp [Ds, dRaise, mkRho, nOw, sgn, dYes, wipeR, back]
          by_cases hw : wr t = z
          · rw [decide_eq_true hw]
            have e : finO z (some (t, [])) = some t := by
              show (if _ then _ else _) = _
              rw [if_pos ⟨rfl, hw⟩]
            rw [e] at ho
            simp [Ds, dRaise, mkRho, nOw, sgn, dYes, wipeR, back]
            exact ho
          · rw [decide_eq_false hw]
            have e : finO z (some (t, [])) = none := by
              show (if _ then _ else _) = _
              rw [if_neg fun x => hw x.2]
            rw [e] at ho
            simp [Ds, dRaise, mkRho, nOw, sgn, dYes, wipeR, back]
            exact ho
        · have hpos := List.length_pos_iff.mpr hr0
          rw [show decide ((((pcs z).length - r.length : Nat) : Int) = ((pcs z).length : Int)) = false from decide_eq_false (by omega)]
          have e : finO z (some (t, r)) = none := by
            show (if _ then _ else _) = _
            rw [if_neg fun x => hr0 x.1]
          rw [e] at ho
          simp [Ds, dRaise, mkRho, nOw, sgn, dYes, wipeR, back]
          exact ho
  · have : isStr d = false := by
      cases d with
      | str z => exact absurd rfl (hn z)
      | _ => rfl
    simp [Ds, dRaise, mkRho, nOw, sgn, dYes, wipeR, back, this]
    exact ho
end
/-- what read answers: a term of the signature -/
def rdO (sig : List Op) (o : Option Tm) : Option Tm := match o with
  | some t => if isTerm sig (tmD t) = true then some t else none
  | none => none
def rpO (sig : List Op) (o : Option Tm) : Option Tm := match o with
  | some t => if isPat sig (tmD t) = true then some t else none
  | none => none
mutual
theorem fit_tm : ∀ (t : Tm) {D : Nat}, dep t ≤ D → (wr t).length ≤ 100000 → Fit D (tmD t)
  | .mk n args, D, h, hl => by
    rw [dep] at h
    cases D with
    | zero => omega
    | succ D =>
      rw [tmD]
      refine .tup fun d hd => ?_
      rcases List.mem_cons.mp hd with rfl | hd
      · refine .str ?_
        have big : 100000 ≤ sizeLine := by decide
        by_cases h0 : args.length = 0
        · rw [wr_leaf h0] at hl
          omega
        · rw [wr_node h0, len_app, len_app, len_app] at hl
          omega
      · exact fit_tms args (by omega) (fun t i ht => Nat.le_trans (wr_part (n := n) ht) hl) d hd
theorem fit_tms : ∀ (ts : List Tm) {D : Nat}, deps ts ≤ D → (∀ (t : Tm) (i : Nat), ts[i]? = some t → (wr t).length ≤ 100000) → ∀ d ∈ tmsD ts, Fit D d
  | [], _, _, _, d, hd => by rw [tmsD] at hd; exact absurd hd (by simp)
  | t :: ts, D, h, hl, d, hd => by
    rw [deps] at h
    rw [tmsD] at hd
    rcases List.mem_cons.mp hd with rfl | hd
    · exact fit_tm t (by omega) (hl t 0 rfl)
    · exact fit_tms ts (by omega) (fun u i hu => hl u (i + 1) (by simpa using hu)) d hd
end
theorem Ns_fit {d : PyData} {t : Tm} (h : NsD d (some t)) : Fit 201 (tmD t) := by
  rcases h with ⟨z, _, hz, h⟩ | ⟨_, h⟩
  · generalize ho : some t = o at h
    cases h with
    | much _ => cases ho
    | @read o hp hR =>
      cases o with
      | none => cases ho
      | some x =>
        obtain ⟨u, r⟩ := x
        have e : finO z (some (u, r)) = if r = [] ∧ wr u = z then some u else none := rfl
        rw [e] at ho
        split at ho
        · cases ho
          have hlen := Rd.len hR (full_pcs z) _ _ rfl
          have hdep := Rd.dep hR _ _ rfl
          have hop : opens (pcs z) ≤ 200 := Nat.le_trans (opens_pcsL z.cps.toList [] (by simp)) (by have : lpar z ≤ 200 := Nat.not_lt.mp hp; exact this)
          have hpl := pcs_len z
          exact fit_tm _ (by omega) (by omega)
        · cases ho
  · cases h
def spReadT (Cm : Addr) : DSp := fun as k W => ∃ sig d o, as = [.d (sigD sig), .d d] ∧ NsD d o ∧ outNs Cm k W (rdO sig o)
def spReadP (Cm : Addr) : DSp := fun as k W => ∃ sig d o, as = [.d (sigD sig), .d d] ∧ NsD d o ∧ outNs Cm k W (rpO sig o)
section
variable {P : Program} {w : World} {K : PySem.W.Frag} {mg : Str → Option Value} {base : Heap} {tabs : List Addr}
theorem sc_read : FnScope ["signature", "text", "found"] ["signature", "text"] (defScope s_read) := ⟨rfl, rfl, rfl, by decide +kernel, rfl, by decide +kernel, by decide +kernel⟩
theorem ok_read {f f1 f2 Cm : Addr} {fd fd1 fd2 : FuncData} (F : Fun K "read" "read" s_read f fd) (T : TxE K mg Cm)
    (G_nested : FnOk P w K mg base (L2N.CX P w) 203 f1 fd1 ["text"] (spD K tabs (spNested Cm))) (F_nested : Fun K "nested" "nested" s_nested f1 fd1) (b_nested : Binds K fd1 ["text"] []) (g_nested : mg "nested" = some (.ref f1))
    (G_is_term : FnOk P w K mg base CX0 207 f2 fd2 ["signature", "value"] (spD K tabs (spTerm 201))) (F_is_term : Fun K "is_term" "is_term" s_is_term f2 fd2) (b_is_term : Binds K fd2 ["signature", "value"] []) (g_is_term : mg "is_term" = some (.ref f2)) :
    FnOk P w K mg base (L2N.CX P w) 210 f fd ["signature", "text"] (spD K tabs (spReadT Cm)) := by
  refine Fun.okX F sc_read (fun as k W ⟨_, _, _, e, _⟩ => by rw [e]; rfl) fun cdv A outer s H E M B W xs mh bh hr => ?_
  have nd := sc_read.nd
  have hr1 := hr.mono (show 203 ≤ 209 by decide)
  have hr2 := hr.mono (show 207 ≤ 209 by decide)
  refine ⟨_, _, (pdb_cons (pds_setN (i := 2) nd rfl (.inl rfl) (pd_callX G_nested hr1 (by rfl) g_nested F_nested.kp b_nested (passN rfl rfl rfl rfl) (pda_cons (pd_var (pv 1)) pda_nil)))
    (pdb_cons (pds_if (pdt_not (pdt_val (pd_call G_is_term hr2 (by rfl) g_is_term F_is_term.kp b_is_term (pda_cons (pd_var (pv 0)) (pda_cons (pd_var (pv 2)) pda_nil))))) 
      (pdb_one (pds_raise (L2N.ps_raise rfl (L2N.takes_of rfl rfl rfl rfl) (L2N.pmk_own PySem.F.excBase_ValueError T.qM T.gM T.kM (raises_own T.bM T.tM) (by exact rfl))))) pdb_nil)
    (pdb_one (pds_ret (pd_var (pv 2)))))), ?_⟩
  rintro _ k ⟨sig, d, o, rfl, hN, ho⟩
  simp [Ds, dRaise, mkRho, nOw, sgn, dYes, wipeR, back]
  refine ⟨.nil, d, o, rfl, hN, ?_⟩
  cases o with
  | none => exact ho
  | some t =>
    rw [outNs_s]
    simp [Ds, dRaise, mkRho, nOw, sgn, dYes, wipeR, back]
    refine ⟨.nil, sig, tmD t, rfl, Ns_fit hN, ?_⟩
    have e : rdO sig (some t) = if isTerm sig (tmD t) = true then some t else none := rfl
    rw [e] at ho
    cases h : isTerm sig (tmD t) with
    | true =>
      rw [if_pos h] at ho
      simp [Ds, dRaise, mkRho, nOw, sgn, dYes, wipeR, back]
      exact ho
    | false =>
      rw [if_neg (by rw [h]; decide)] at ho
      simp [Ds, dRaise, mkRho, nOw, sgn, dYes, wipeR, back]
      exact ho
theorem sc_read_pattern : FnScope ["signature", "text", "found"] ["signature", "text"] (defScope s_read_pattern) := ⟨rfl, rfl, rfl, by decide +kernel, rfl, by decide +kernel, by decide +kernel⟩
theorem ok_read_pattern {f f1 f2 Cm : Addr} {fd fd1 fd2 : FuncData} (F : Fun K "read_pattern" "read_pattern" s_read_pattern f fd) (T : TxE K mg Cm)
    (G_nested : FnOk P w K mg base (L2N.CX P w) 203 f1 fd1 ["text"] (spD K tabs (spNested Cm))) (F_nested : Fun K "nested" "nested" s_nested f1 fd1) (b_nested : Binds K fd1 ["text"] []) (g_nested : mg "nested" = some (.ref f1))
    (G_is_pattern : FnOk P w K mg base CX0 208 f2 fd2 ["signature", "value"] (spD K tabs (spIsPat 201))) (F_is_pattern : Fun K "is_pattern" "is_pattern" s_is_pattern f2 fd2) (b_is_pattern : Binds K fd2 ["signature", "value"] []) (g_is_pattern : mg "is_pattern" = some (.ref f2)) :
    FnOk P w K mg base (L2N.CX P w) 210 f fd ["signature", "text"] (spD K tabs (spReadP Cm)) := by
  refine Fun.okX F sc_read_pattern (fun as k W ⟨_, _, _, e, _⟩ => by rw [e]; rfl) fun cdv A outer s H E M B W xs mh bh hr => ?_
  have nd := sc_read_pattern.nd
  have hr1 := hr.mono (show 203 ≤ 209 by decide)
  have hr2 := hr.mono (show 208 ≤ 209 by decide)
  refine ⟨_, _, (pdb_cons (pds_setN (i := 2) nd rfl (.inl rfl) (pd_callX G_nested hr1 (by rfl) g_nested F_nested.kp b_nested (passN rfl rfl rfl rfl) (pda_cons (pd_var (pv 1)) pda_nil)))
    (pdb_cons (pds_if (pdt_not (pdt_val (pd_call G_is_pattern hr2 (by rfl) g_is_pattern F_is_pattern.kp b_is_pattern (pda_cons (pd_var (pv 0)) (pda_cons (pd_var (pv 2)) pda_nil))))) 
      (pdb_one (pds_raise (L2N.ps_raise rfl (L2N.takes_of rfl rfl rfl rfl) (L2N.pmk_own PySem.F.excBase_ValueError T.qM T.gM T.kM (raises_own T.bM T.tM) (by exact rfl))))) pdb_nil)
    (pdb_one (pds_ret (pd_var (pv 2)))))), ?_⟩
  rintro _ k ⟨sig, d, o, rfl, hN, ho⟩
  simp [Ds, dRaise, mkRho, nOw, sgn, dYes, wipeR, back]
  refine ⟨.nil, d, o, rfl, hN, ?_⟩
  cases o with
  | none => exact ho
  | some t =>
    rw [outNs_s]
    simp [Ds, dRaise, mkRho, nOw, sgn, dYes, wipeR, back]
    refine ⟨.nil, sig, tmD t, rfl, Ns_fit hN, ?_⟩
    have e : rpO sig (some t) = if isPat sig (tmD t) = true then some t else none := rfl
    rw [e] at ho
    cases h : isPat sig (tmD t) with
    | true =>
      rw [if_pos h] at ho
      simp [Ds, dRaise, mkRho, nOw, sgn, dYes, wipeR, back]
      exact ho
    | false =>
      rw [if_neg (by rw [h]; decide)] at ho
      simp [Ds, dRaise, mkRho, nOw, sgn, dYes, wipeR, back]
      exact ho
end
end K05

set_option Elab.async false
set_option maxRecDepth 100000
set_option maxHeartbeats 4000000
set_option linter.all false
set_option pp.maxSteps 3000
namespace K05
open PySem L2 DL TM
/-- a draw: some number below the bound, some draws behind -/
def spTake : DSp := fun as k _ => ∃ (ns : List Int) (b : Nat), as = [.ow (ns.map .int), .d (.int (b : Int))] ∧ 0 < b ∧ ∀ (j : Nat) (ns' : List Int), j < b → k (.int (j : Int)) [ns'.map .int]
def spText (D : Nat) : DSp := fun as k _ => ∃ t, as = [.d (tmD t)] ∧ dep t ≤ D ∧ (wr t).length ≤ 100000 ∧ k (.str (wr t)) []
section
variable {P : Program} {w : World} {K : PySem.W.Frag} {mg : Str → Option Value} {base : Heap} {tabs : List Addr}
theorem sc__law_take : FnScope ["draws", "bound"] ["draws", "bound"] (defScope s__law_take) := ⟨rfl, rfl, rfl, by decide +kernel, rfl, by decide +kernel, by decide +kernel⟩
theorem ok_take {f : Addr} {fd : FuncData} (F : Fun K "_law_take" "_law_take" s__law_take f fd) (T : Txt0 mg) : FnOk P w K mg base CX0 1 f fd ["draws", "bound"] (spD K tabs spTake) := by
  refine Fun.okD F sc__law_take (fun as k W ⟨_, _, e, _⟩ => by rw [e]; rfl) fun cdv A outer s H E M B W xs mh bh hr1 => ?_
  have nd := sc__law_take.nd
  refine ⟨_, _, (pdb_cons (pds_if (pdt_cmp op_eq od_eqF (pd_callB (GK.lenK K) cd_len (by rfl) T.B.len (by decide +kernel) (pda_cons (pd_var (pv 0)) pda_nil)) pd_int (nomark _)) 
      (pdb_one (pds_ret pd_int)) pdb_nil)
    (pdb_one (pds_ret (pd_op op_mod od_intC (pd_callTy call_int1 cd_int1 (by rfl) T.B.int (by decide +kernel) (pda_cons (pd_popN (pv 0)) pda_nil)) (pd_var (pv 1)))))), ?_⟩
  rintro _ k ⟨ns, b, rfl, hb, hk⟩
  simp [Ds, dRaise, mkRho, nOw, sgn, dYes, wipeR, back]
  by_cases hn : ns = []
  · subst hn
    rw [decide_eq_true rfl]
    simp [Ds, dRaise, mkRho, nOw, sgn, dYes, wipeR, back, List.range, List.range.loop]
    exact hk 0 [] hb
  · rw [decide_eq_false hn]
    obtain ⟨z, hz⟩ : ∃ z, ns[ns.length - 1]? = some z := ⟨ns[ns.length - 1]'(by have := List.length_pos_iff.mpr hn; omega), List.getElem?_eq_getElem _⟩
    simp [Ds, dRaise, mkRho, nOw, sgn, dYes, wipeR, back]
    rw [hz]
    simp [Ds, dRaise, mkRho, nOw, sgn, dYes, wipeR, back, List.range, List.range.loop]
    refine ⟨hb, ?_⟩
    have h1 := Int.emod_nonneg z (show (b : Int) ≠ 0 by omega)
    have h2 := Int.emod_lt_of_pos z (show (0 : Int) < (b : Int) by omega)
    have := hk (z % (b : Int)).toNat ns.dropLast (by omega)
    rw [Int.toNat_of_nonneg h1, List.map_dropLast] at this
    exact this
theorem sc__law_text : FnScope ["term", "text", "k"] ["term"] (defScope s__law_text) := ⟨rfl, rfl, rfl, by decide +kernel, rfl, by decide +kernel, by decide +kernel⟩
theorem ok_text_step {N : Nat} {f : Addr} {fd : FuncData} (F : Fun K "_law_text" "_law_text" s__law_text f fd) (T : Txt0 mg) (b__law_text : Binds K fd ["term"] []) (g__law_text : mg "_law_text" = some (.ref f)) (D : Nat)
    (G__law_text : FnOk P w K mg base CX0 N f fd ["term"] (spD K tabs fun as k W => ∃ D', D' + 1 ≤ D ∧ spText D' as k W)) :
    FnOk P w K mg base CX0 (N + 1) f fd ["term"] (spD K tabs (spText D)) := by
  refine Fun.okD F sc__law_text (fun as k W ⟨_, e, _⟩ => by rw [e]; rfl) fun cdv A outer s H E M B W xs mh bh hr => ?_
  have nd := sc__law_text.nd
  have F__law_text := F
  refine ⟨_, _, (pdb_cons (pds_if (pdt_cmp op_eq od_eqF (pd_callB (GK.lenK K) cd_len (by rfl) T.B.len (by decide +kernel) (pda_cons (pd_var (pv 0)) pda_nil)) pd_int (nomark _)) 
      (pdb_one (pds_ret (pd_ix (GK.ixQK K) od_ix (pd_var (pv 0)) pd_int (fun _ _ => rfl)))) pdb_nil)
    (pdb_cons (pds_setN (i := 1) nd rfl (.inl rfl) (pd_op op_add_str od_addS (pd_ix (GK.ixQK K) od_ix (pd_var (pv 0)) pd_int (fun _ _ => rfl)) pd_str))
    (pdb_cons (pds_for PassesOwn.never rfl (pdi_range2 (by rfl) T.B.range (pda_cons pd_int (pda_cons (pd_callB (GK.lenK K) cd_len (by rfl) T.B.len (by decide +kernel) (pda_cons (pd_var (pv 0)) pda_nil)) pda_nil))) (pdg_name (pg_name (i := 2) nd rfl (.inl rfl))) 
      (pdb_one (pds_setN (i := 1) nd rfl (.inl rfl) (pd_op op_add_str od_addS (pd_op op_add_str od_addS (pd_var (pv 1)) (pd_ifExp (pdt_cmp op_gt od_cmpI (pd_var (pv 2)) pd_int (nomark _)) pd_str pd_str)) (pd_call G__law_text hr (by rfl) g__law_text F__law_text.kp b__law_text (pda_cons (pd_ix (GK.ixQK K) od_ix (pd_var (pv 0)) (pd_var (pv 2)) (fun _ _ => rfl)) pda_nil))))))
    (pdb_one (pds_ret (pd_op op_add_str od_addS (pd_var (pv 1)) pd_str)))))), ?_⟩
  rintro _ k ⟨t, rfl, hd, hl, hk⟩
  obtain ⟨n, args⟩ := t
  simp [Ds, dRaise, mkRho, nOw, sgn, dYes, wipeR, back, tmD]
  by_cases h0 : args.length = 0
  · have : args = [] := List.length_eq_zero_iff.mp h0
    subst this
    rw [wr_leaf h0] at hk
    simp [Ds, dRaise, mkRho, nOw, sgn, dYes, wipeR, back, tmsD]
    exact hk
  have hm : (tmsD args).length = args.length := tmsD_length args
  rw [show decide (((tmsD args).length : Int) + 1 = 1) = false from decide_eq_false (by omega)]
  simp [Ds, dRaise, mkRho, nOw, sgn, dYes, wipeR, back]
  have e := wr_node (n := n) h0
  have hw : wrs args ≠ [] := fun e => by
    have := wrs_length args
    rw [e] at this
    exact h0 this.symm
  have jl := join_len comma hw
  have hc : comma.length = 2 := rfl
  have hp : (Str.ofString "(").length = 1 := rfl
  have hq : (Str.ofString ")").length = 1 := rfl
  rw [hc, wrs_length] at jl
  have hl' := hl
  rw [e, len_app, len_app, len_app, hp, hq] at hl'
  have big : 200002 < sizeLine := by decide
  refine ⟨by rw [hp]; omega, ⟨by omega, by omega⟩, fun i ρ => ∃ x : Option DV, ρ = [some (.d (.tuple (.str n :: tmsD args))), some (.d (.str (n ++ Str.ofString "(" ++ Txt.join comma ((wrs args).take i)))), x], ⟨none, by rw [List.take_zero, join_nil, app_nil]⟩, ?_, ?_⟩
  · rintro i x _ hx ⟨x0, rfl⟩
    obtain ⟨hi, rfl⟩ := ints_at hx
    rw [hm] at hi
    obtain ⟨t, ht⟩ : ∃ t, args[i]? = some t := ⟨args[i], List.getElem?_eq_getElem hi⟩
    have at1 : atI (PyData.str n :: tmsD args) (1 + (i : Int)) = some (tmD t) := by
      rw [show (1 : Int) + (i : Int) = ((i + 1 : Nat) : Int) by omega]
      exact atI_nat (by show (tmsD args)[i]? = _; exact tmsD_at ht)
    have jt := join_take_le comma (wrs args) i
    have wt := wr_part (n := n) ht
    have wi := wrs_get ht
    have snoc := join_snoc comma (wr t) ((wrs args).take i)
    have tk : (wrs args).take (i + 1) = (wrs args).take i ++ [wr t] := by rw [List.take_add_one, wi]; rfl
    rw [← tk] at snoc
    have hcl : (Str.ofString ", ").length = 2 := rfl
    have hel : (Str.ofString "").length = 0 := rfl
    simp [Ds, dRaise, mkRho, nOw, sgn, dYes, wipeR, back]
    by_cases hi0 : i = 0
    · subst hi0
      rw [show decide ((1 : Int) < 1 + ((0 : Nat) : Int)) = false from rfl]
      simp [Ds, dRaise, mkRho, nOw, sgn, dYes, wipeR, back]
      rw [show Txt.join comma [] = Str.ofString "" from join_nil comma, app_nil, app_nil] at *
      refine ⟨by rw [len_app, hp, hel]; omega, ?_⟩
      have at1 : atI (PyData.str n :: tmsD args) (1 : Int) = some (tmD t) := at1
      rw [at1]
      simp [Ds, dRaise, mkRho, nOw, sgn, dYes, wipeR, back]
      refine ⟨.nil, dep t, ?_, t, rfl, Nat.le_refl _, Nat.le_trans wt hl, ?_⟩
      · have := deps_get ht
        rw [dep] at hd
        omega
      · rw [List.take_zero, if_pos rfl] at snoc
        simp [Ds, dRaise, mkRho, nOw, sgn, dYes, wipeR, back]
        rw [len_app, hp, snoc]
        exact ⟨by omega, rfl⟩
    · rw [show decide ((1 : Int) < 1 + (i : Int)) = true from decide_eq_true (by omega)]
      simp [Ds, dRaise, mkRho, nOw, sgn, dYes, wipeR, back]
      refine ⟨by rw [len_app, len_app, hp, hcl]; omega, ?_⟩
      rw [at1]
      simp [Ds, dRaise, mkRho, nOw, sgn, dYes, wipeR, back]
      refine ⟨.nil, dep t, ?_, t, rfl, Nat.le_refl _, Nat.le_trans wt hl, ?_⟩
      · have := deps_get ht
        rw [dep] at hd
        omega
      · have hne : ¬ (wrs args).take i = [] := fun e => by
          have h1 := congrArg List.length e
          rw [List.length_take, wrs_length] at h1
          have h2 : min i args.length = 0 := h1
          omega
        rw [if_neg hne] at snoc
        simp [Ds, dRaise, mkRho, nOw, sgn, dYes, wipeR, back]
        rw [len_app, len_app, len_app, hp, hcl, snoc]
        refine ⟨by omega, ?_⟩
        rw [show Str.ofString ", " = comma from rfl, app_assoc, app_assoc, app_assoc]
  · rintro ρ ⟨x0, rfl⟩
    rw [ints_len, hm, ← wrs_length args, List.take_length]
    rw [e] at hk
    simp [Ds, dRaise, mkRho, nOw, sgn, dYes, wipeR, back]
    rw [len_app, len_app, hp, hq]
    exact ⟨by omega, hk⟩
theorem ok_text {f : Addr} {fd : FuncData} (F : Fun K "_law_text" "_law_text" s__law_text f fd) (T : Txt0 mg) (b__law_text : Binds K fd ["term"] []) (g__law_text : mg "_law_text" = some (.ref f)) :
    ∀ D : Nat, FnOk P w K mg base CX0 (1 + D) f fd ["term"] (spD K tabs (spText D))
  | 0 => ok_text_step F T b__law_text g__law_text 0 (okNever fun _ _ _ ⟨_, e, _⟩ => nomatch e)
  | D + 1 => ok_text_step F T b__law_text g__law_text (D + 1) (okImp (ok_text F T b__law_text g__law_text D) fun _ _ _ ⟨D', e, t, ea, h, r⟩ => ⟨t, ea, by omega, r⟩)
end
end K05

set_option Elab.async false
set_option maxRecDepth 100000
set_option maxHeartbeats 4000000
set_option linter.all false
set_option pp.maxSteps 3000
namespace K05
open PySem L2 DL TM
def spNamed : DSp := fun as k _ => ∃ z, as = [.d (.str z)] ∧ z.length ≤ 100000 ∧ k (.tuple [.str (txt (nmOf z.cps.toList)), .str (txt (rsOf z.cps.toList))]) []
section
variable {P : Program} {w : World} {K : PySem.W.Frag} {mg : Str → Option Value} {base : Heap} {tabs : List Addr}
theorem sc__law_named : FnScope ["text", "many"] ["text"] (defScope s__law_named) := ⟨rfl, rfl, rfl, by decide +kernel, rfl, by decide +kernel, by decide +kernel⟩
theorem ok_named {f : Addr} {fd : FuncData} (F : Fun K "_law_named" "_law_named" s__law_named f fd) (T : Txt0 mg) : FnOk P w K mg base CX0 1 f fd ["text"] (spD K tabs spNamed) := by
  refine Fun.okD F sc__law_named (fun as k W ⟨_, e, _⟩ => by rw [e]; rfl) fun cdv A outer s H E M B W xs mh bh hr1 => ?_
  have nd := sc__law_named.nd
  refine ⟨_, _, (pdb_cons (pds_setN (i := 1) nd rfl (.inl rfl) pd_int)
    (pdb_cons (pds_while PassesOwn.never (PDw.pt (pdw_and (pdt_cmp op_lt od_cmpI (pd_var (pv 1)) (pd_callB call_len_str cd_lenS (by rfl) T.B.len (by decide +kernel) (pda_cons (pd_var (pv 0)) pda_nil)) (nomark _)) (pdw_and1 (pdt_cmp op_notIn_sign od_notInSgn (pd_ix (GK.ixQK K) od_ix (pd_var (pv 0)) (pd_var (pv 1)) (fun _ _ => rfl)) pd_str (by with_unfolding_all rfl))))) 
      (pdb_one (pds_setN (i := 1) nd rfl (.inl rfl) (pd_op op_add od_int (pd_var (pv 1)) pd_int))))
    (pdb_one (pds_ret (pd_tup (pda_cons (pd_slice sl_str sd_str (pd_var (pv 0)) pdo_none (pdo_some (pd_var (pv 1)))) (pda_cons (pd_slice sl_str sd_str (pd_var (pv 0)) (pdo_some (pd_var (pv 1))) pdo_none) pda_nil))))))), ?_⟩
  rintro _ k ⟨z, rfl, hz, hk⟩
  have big : 100002 < sizeLine := by decide
  have hlz : z.cps.toList.length = z.length := Array.length_toList
  simp [Ds, dRaise, mkRho, nOw, sgn, dYes, wipeR, back]
  refine ⟨fun m ρ => ∃ i : Nat, ρ = [some (.d (.str z)), some (.d (.int (i : Int)))] ∧ m = z.length - i ∧ i ≤ z.length ∧ ∀ j c, j < i → z.cps.toList[j]? = some c → (!decide (c ∈ ST4)) = true, ⟨z.length, 0, rfl, rfl, Nat.zero_le _, fun _ _ h => absurd h (Nat.not_lt_zero _)⟩, ?_⟩
  rintro m _ ⟨i, rfl, rfl, hi, all⟩
  simp [Ds, dRaise, mkRho, nOw, sgn, dYes, wipeR, back]
  have fin : (∀ c, z.cps.toList[i]? = some c → (!decide (c ∈ ST4)) = false) → k (.tuple [.str (cutS z none (some (i : Int))), .str (cutS z (some (i : Int)) none)]) [] := fun g => by
    obtain ⟨a, b⟩ := while_cut (by rw [hlz]; exact hi) all g
    rw [cut_to hi, cut_from hi]
    unfold nmOf rsOf at hk
    rw [a, b] at hk
    exact hk
  refine ⟨by omega, ?_⟩
  by_cases hlt : i < z.length
  · rw [decide_eq_true hlt]
    obtain ⟨c, hc⟩ : ∃ c, z.cps.toList[i]? = some c := ⟨_, List.getElem?_eq_getElem (by rw [hlz]; exact hlt)⟩
    have at1 : atI z.cps.toList (i : Int) = some c := atI_nat hc
    simp [Ds, dRaise, mkRho, nOw, sgn, dYes, wipeR, back]
    refine ⟨by omega, ?_⟩
    rw [at1]
    simp [Ds, dRaise, mkRho, nOw, sgn, dYes, wipeR, back]
    by_cases hm : c ∈ ST4
    · rw [if_pos hm]
      refine ⟨by omega, ?_⟩
      refine ⟨by decide, fin fun d hd => ?_⟩
      rw [hc] at hd
      cases hd
      rw [decide_eq_true hm]
      rfl
    · rw [if_neg hm]
      refine ⟨z.length - (i + 1), by omega, i + 1, by omega, rfl, hlt, fun j d hj hd => ?_⟩
      by_cases ej : j = i
      · subst ej
        have : z.cps.toList[j]? = some d := by rw [Array.getElem?_toList]; exact hd
        rw [hc] at this
        cases this
        exact hm
      · have := all j d (by omega) (by rw [Array.getElem?_toList]; exact hd)
        simpa using this
  · rw [decide_eq_false hlt]
    simp [Ds, dRaise, mkRho, nOw, sgn, dYes, wipeR, back]
    refine ⟨by omega, ?_⟩
    refine ⟨by decide, fin fun d hd => ?_⟩
    have : z.cps.toList.length ≤ i := by rw [hlz]; omega
    rw [List.getElem?_eq_none this] at hd
    cases hd
end
def spLRead (D : Nat) : DSp := fun as k _ => ∃ cs o, as = [.d (.str (txt cs))] ∧ cs.length ≤ 100000 ∧ cntL cs ≤ D ∧ LR cs o ∧ k (lrD o) []
section
variable {P : Program} {w : World} {K : PySem.W.Frag} {mg : Str → Option Value} {base : Heap} {tabs : List Addr}
theorem sc__law_read : FnScope ["text", "name", "rest", "row", "found"] ["text"] (defScope s__law_read) := ⟨rfl, rfl, rfl, by decide +kernel, rfl, by decide +kernel, by decide +kernel⟩
theorem ok_lread_step {N : Nat} {f f1 : Addr} {fd fd1 : FuncData} (F : Fun K "_law_read" "_law_read" s__law_read f fd) (T : Txt0 mg) (b__law_read : Binds K fd ["text"] []) (g__law_read : mg "_law_read" = some (.ref f)) (D : Nat)
    (G__law_named : FnOk P w K mg base CX0 1 f1 fd1 ["text"] (spD K tabs spNamed)) (F__law_named : Fun K "_law_named" "_law_named" s__law_named f1 fd1) (b__law_named : Binds K fd1 ["text"] []) (g__law_named : mg "_law_named" = some (.ref f1)) (hN : 1 ≤ N)
    (G__law_read : FnOk P w K mg base CX0 N f fd ["text"] (spD K tabs fun as k W => ∃ D', D' + 1 = D ∧ spLRead D' as k W)) :
    FnOk P w K mg base CX0 (N + 1) f fd ["text"] (spD K tabs (spLRead D)) := by
  refine Fun.okD F sc__law_read (fun as k W ⟨_, _, e, _⟩ => by rw [e]; rfl) fun cdv A outer s H E M B W xs mh bh hr => ?_
  have nd := sc__law_read.nd
  have F__law_read := F
  have hr1 := hr.mono hN
  refine ⟨_, _, (pdb_cons (pds_asg (pd_call G__law_named hr1 (by rfl) g__law_named F__law_named.kp b__law_named (pda_cons (pd_var (pv 0)) pda_nil)) (pdg_tup (n := 2) rfl (pdgs_cons (pdg_name (pg_name (i := 1) nd rfl (.inl rfl))) (pdgs_cons (pdg_name (pg_name (i := 2) nd rfl (.inl rfl))) pdgs_nil))))
    (pdb_cons (pds_if (pdt_cmp op_eq od_eqF (pd_var (pv 1)) pd_str (nomark _)) 
      (pdb_one (pds_ret pd_non)) pdb_nil)
    (pdb_cons (pds_if (pdt_cmp op_ne od_neF (pd_slice sl_str sd_str (pd_var (pv 2)) pdo_none (pdo_some pd_int)) pd_str (nomark _)) 
      (pdb_one (pds_ret (pd_tup (pda_cons (pd_tup (pda_cons (pd_var (pv 1)) pda_nil)) (pda_cons (pd_var (pv 2)) pda_nil))))) pdb_nil)
    (pdb_cons (pds_parON (i := 3) (j := 2) rfl nd rfl rfl (by decide) rfl rfl (pf_lst (pda_cons (pd_var (pv 1)) pda_nil)) (pd_slice sl_str sd_str (pd_var (pv 2)) (pdo_some pd_int) pdo_none) (by rfl))
    (pdb_one (pds_while PassesOwn.never (pdt_val pd_bl) 
      (pdb_cons (pds_setN (i := 4) nd rfl (.inl rfl) (pd_call G__law_read hr (by rfl) g__law_read F__law_read.kp b__law_read (pda_cons (pd_var (pv 2)) pda_nil)))
      (pdb_cons (pds_if (pdt_cmp op_isN od_isN (pd_var (pv 4)) pd_non (nomark _)) 
        (pdb_one (pds_ret pd_non)) pdb_nil)
      (pdb_cons (pds_expr (pd_appN (pv 3) (pd_ix (GK.ixQK K) od_ix (pd_var (pv 4)) pd_int (fun _ _ => rfl))))
      (pdb_cons (pds_setN (i := 2) nd rfl (.inl rfl) (pd_ix (GK.ixQK K) od_ix (pd_var (pv 4)) pd_int (fun _ _ => rfl)))
      (pdb_cons (pds_if (pdt_cmp op_eq od_eqF (pd_slice sl_str sd_str (pd_var (pv 2)) pdo_none (pdo_some pd_int)) pd_str (nomark _)) 
        (pdb_one (pds_ret (pd_tup (pda_cons (pd_callTy (GK.tupOfK K) cd_tupOf (by rfl) T.B.tuple (by decide +kernel) (pda_cons (pd_var (pv 3)) pda_nil)) (pda_cons (pd_slice sl_str sd_str (pd_var (pv 2)) (pdo_some pd_int) pdo_none) pda_nil))))) pdb_nil)
      (pdb_cons (pds_if (pdt_cmp op_ne od_neF (pd_slice sl_str sd_str (pd_var (pv 2)) pdo_none (pdo_some pd_int)) pd_str (nomark _)) 
        (pdb_one (pds_ret pd_non)) pdb_nil)
      (pdb_one (pds_setN (i := 2) nd rfl (.inl rfl) (pd_slice sl_str sd_str (pd_var (pv 2)) (pdo_some pd_int) pdo_none))))))))))))))), ?_⟩
  rintro _ k ⟨cs, o, rfl, hl, hd, hR, ho⟩
  have big : 200002 < sizeLine := by decide
  have hcs : (txt cs).cps.toList = cs := by unfold txt; simp
  simp [Ds, dRaise, mkRho, nOw, sgn, dYes, wipeR, back]
  refine ⟨.nil, txt cs, rfl, by rw [txt_len]; exact hl, ?_⟩
  rw [hcs]
  simp [Ds, dRaise, mkRho, nOw, sgn, dYes, wipeR, back]
  have hnr := nm_rs cs
  have hlen : (nmOf cs).length + (rsOf cs).length = cs.length := by rw [← List.length_append, hnr]
  by_cases h0 : nmOf cs = []
  · rw [decide_eq_true h0]
    simp [Ds, dRaise, mkRho, nOw, sgn, dYes, wipeR, back]
    cases hR with
    | none _ => exact ho
    | leaf h _ => exact absurd h0 h
    | node h _ _ => exact absurd h0 h
  rw [decide_eq_false h0]
  simp [Ds, dRaise, mkRho, nOw, sgn, dYes, wipeR, back]
  refine ⟨by rw [txt_len]; omega, ?_⟩
  by_cases h1 : (rsOf cs).take 1 = [40]
  · rw [decide_eq_true h1]
    simp [Ds, dRaise, mkRho, nOw, sgn, dYes, wipeR, back]
    obtain ⟨r, hr⟩ : ∃ r, rsOf cs = 40 :: r := by
      cases e : rsOf cs with
      | nil => rw [e] at h1; cases h1
      | cons c r =>
        rw [e] at h1
        have : c = 40 := by simpa using h1
        exact ⟨r, by rw [this]⟩
    have hrl : (rsOf cs).length = r.length + 1 := by rw [hr]; rfl
    obtain ⟨o2, hR2, ho2⟩ : ∃ o2, LRs r o2 ∧ k (lrD (o2.map fun x => (.mk (txt (nmOf cs)) x.1, x.2))) [] := by
      cases hR with
      | none h => exact absurd h h0
      | leaf _ h => exact absurd h1 h
      | node _ h g =>
        rw [h] at hr
        cases hr
        exact ⟨_, g, ho⟩
    have hcn : cntL r + 1 ≤ D := by
      have e1 : cntL cs = cntL (nmOf cs) + (cntL [40] + cntL r) := by
        rw [← cntL_app, ← cntL_app]
        show _ = cntL (nmOf cs ++ 40 :: r)
        rw [← hr, hnr]
      have e2 : cntL [40] = 1 := rfl
      omega
    refine ⟨by decide, by rw [txt_len]; omega, fun m ρ => ∃ (r : List Nat) (acc : List Tm) (o2 : Option (List Tm × List Nat)) (x : Option DV), ρ = [some (.d (.str (txt cs))), some (.d (.str (txt (nmOf cs)))), some (.d (.str (txt r))), some (.ow (.lst none (.str (txt (nmOf cs)) :: tmsD acc))), x] ∧ m = r.length ∧ acc.length + r.length ≤ 100000 ∧ cntL r + 1 ≤ D ∧ LRs r o2 ∧ k (lrD (o2.map fun (x : List Tm × List Nat) => (Tm.mk (txt (nmOf cs)) (acc ++ x.1), x.2))) [],
      ⟨r.length, r, [], o2, none, by rw [hr]; rfl, rfl, by show 0 + _ ≤ _; omega, hcn, hR2, ho2⟩, ?_⟩
    rintro m _ ⟨r, acc, o2, x, rfl, rfl, hb, hcn, hR2, ho2⟩
    simp [Ds, dRaise, mkRho, nOw, sgn, dYes, wipeR, back]
    have hmm : (tmsD acc).length + 1 < sizeLine := by rw [tmsD_length]; omega
    have sl : ∀ {t : Tm} {r2 : List Nat}, LR r (some (t, r2)) → r2.length < r.length ∧ cntL r2 ≤ cntL r := fun h => by
      obtain ⟨s, es, ne⟩ := h.suf _ _ rfl
      have := List.length_pos_iff.mpr ne
      rw [es, List.length_append, cntL_app]
      omega
    cases hR2 with
    | bad h =>
      refine ⟨.nil, D - 1, by omega, r, none, rfl, by omega, by omega, h, ?_⟩
      simp [Ds, dRaise, mkRho, nOw, sgn, dYes, wipeR, back, lrD_s, lrD_n]
      exact ho2
    | @last _ r2 t h =>
      have hs := sl h
      refine ⟨.nil, D - 1, by omega, r, _, rfl, by omega, by omega, h, ?_⟩
      simp at hs
      simp [Ds, dRaise, mkRho, nOw, sgn, dYes, wipeR, back, lrD_s, lrD_n]
      refine ⟨hmm, by rw [txt_len]; simp; omega, ?_⟩
      have ho3 : k (.tuple [tmD (.mk (txt (nmOf cs)) (acc ++ [t])), .str (txt r2)]) [] := ho2
      rw [tmD, tmsD_app] at ho3
      exact ⟨by decide, ho3⟩
    | @odd _ r1 t h h41 h44 =>
      have hs := sl h
      refine ⟨.nil, D - 1, by omega, r, _, rfl, by omega, by omega, h, ?_⟩
      simp [Ds, dRaise, mkRho, nOw, sgn, dYes, wipeR, back, lrD_s, lrD_n]
      refine ⟨hmm, by rw [txt_len]; omega, ?_⟩
      rw [decide_eq_false h41]
      simp [Ds, dRaise, mkRho, nOw, sgn, dYes, wipeR, back]
      refine ⟨by rw [txt_len]; omega, ?_⟩
      rw [decide_eq_false h44]
      simp [Ds, dRaise, mkRho, nOw, sgn, dYes, wipeR, back]
      exact ho2
    | @more _ r2 t o3 h g =>
      have hs := sl h
      refine ⟨.nil, D - 1, by omega, r, _, rfl, by omega, by omega, h, ?_⟩
      have hs2 : r2.length + 2 ≤ r.length ∧ cntL r2 ≤ cntL r := by
        have a : (44 :: 32 :: r2).length = r2.length + 2 := rfl
        have b : cntL (44 :: 32 :: r2) = cntL r2 := rfl
        omega
      simp [Ds, dRaise, mkRho, nOw, sgn, dYes, wipeR, back, lrD_s, lrD_n]
      refine ⟨hmm, by rw [txt_len]; simp; omega, r2.length, by omega, r2, acc ++ [t], ⟨rfl, by rw [tmsD_app]; rfl⟩, rfl, by rw [List.length_append]; show acc.length + 1 + _ ≤ _; omega, by omega, o3, g, ?_⟩
      cases o3 with
      | none => exact ho2
      | some x =>
        have e : (acc ++ [t]) ++ x.1 = acc ++ t :: x.1 := by simp
        show k (lrD (some (Tm.mk (txt (nmOf cs)) ((acc ++ [t]) ++ x.1), x.2))) []
        rw [e]
        exact ho2
  · rw [decide_eq_false h1]
    simp [Ds, dRaise, mkRho, nOw, sgn, dYes, wipeR, back]
    cases hR with
    | none h => exact absurd h h0
    | leaf _ _ => exact ⟨by decide, by decide, ho⟩
    | node _ h _ => rw [h] at h1; exact absurd rfl h1
theorem ok_lread {f f1 : Addr} {fd fd1 : FuncData} (F : Fun K "_law_read" "_law_read" s__law_read f fd) (T : Txt0 mg) (b__law_read : Binds K fd ["text"] []) (g__law_read : mg "_law_read" = some (.ref f))
    (G__law_named : FnOk P w K mg base CX0 1 f1 fd1 ["text"] (spD K tabs spNamed)) (F__law_named : Fun K "_law_named" "_law_named" s__law_named f1 fd1) (b__law_named : Binds K fd1 ["text"] []) (g__law_named : mg "_law_named" = some (.ref f1)) :
    ∀ D : Nat, FnOk P w K mg base CX0 (2 + D) f fd ["text"] (spD K tabs (spLRead D))
  | 0 => ok_lread_step F T b__law_read g__law_read 0 G__law_named F__law_named b__law_named g__law_named (Nat.le_refl _) (okNever fun _ _ _ ⟨_, e, _⟩ => nomatch e)
  | D + 1 => ok_lread_step F T b__law_read g__law_read (D + 1) G__law_named F__law_named b__law_named g__law_named (by show 1 ≤ 2 + D; omega) (okImp (ok_lread F T b__law_read g__law_read G__law_named F__law_named b__law_named g__law_named D) fun _ _ _ ⟨D', e, h⟩ => by
    have : D' = D := by omega
    rw [← this]
    exact h)
def wholeO : Option (Tm × List Nat) → PyData
  | some (t, r) => if r = [] then tmD t else .none
  | none => .none
def spWhole (D : Nat) : DSp := fun as k _ => ∃ cs o, as = [.d (.str (txt cs))] ∧ cs.length ≤ 100000 ∧ cntL cs ≤ D ∧ LR cs o ∧ k (wholeO o) []
theorem sc__law_whole : FnScope ["text", "found"] ["text"] (defScope s__law_whole) := ⟨rfl, rfl, rfl, by decide +kernel, rfl, by decide +kernel, by decide +kernel⟩
theorem ok_whole {D : Nat} {f f1 : Addr} {fd fd1 : FuncData} (F : Fun K "_law_whole" "_law_whole" s__law_whole f fd) (T : Txt0 mg)
    (G__law_read : FnOk P w K mg base CX0 (2 + D) f1 fd1 ["text"] (spD K tabs (spLRead D))) (F__law_read : Fun K "_law_read" "_law_read" s__law_read f1 fd1) (b__law_read : Binds K fd1 ["text"] []) (g__law_read : mg "_law_read" = some (.ref f1)) :
    FnOk P w K mg base CX0 (3 + D) f fd ["text"] (spD K tabs (spWhole D)) := by
  rw [show 3 + D = (2 + D) + 1 by omega]
  refine Fun.okD F sc__law_whole (fun as k W ⟨_, _, e, _⟩ => by rw [e]; rfl) fun cdv A outer s H E M B W xs mh bh hr1 => ?_
  have nd := sc__law_whole.nd
  refine ⟨_, _, (pdb_cons (pds_setN (i := 1) nd rfl (.inl rfl) (pd_call G__law_read hr1 (by rfl) g__law_read F__law_read.kp b__law_read (pda_cons (pd_var (pv 0)) pda_nil)))
    (pdb_one (pds_ret (pd_ifExp (PDw.pt (pdw_and (pdt_cmp op_notN od_notN (pd_var (pv 1)) pd_non (nomark _)) (pdw_and1 (pdt_cmp op_eq od_eqF (pd_ix (GK.ixQK K) od_ix (pd_var (pv 1)) pd_int (fun _ _ => rfl)) pd_str (nomark _))))) (pd_ix (GK.ixQK K) od_ix (pd_var (pv 1)) pd_int (fun _ _ => rfl)) pd_non)))), ?_⟩
  rintro _ k ⟨cs, o, rfl, hl, hd, hR, ho⟩
  simp [Ds, dRaise, mkRho, nOw, sgn, dYes, wipeR, back]
  refine ⟨.nil, cs, o, rfl, hl, hd, hR, ?_⟩
  cases o with
  | none =>
    rw [lrD_n]
    simp [Ds, dRaise, mkRho, nOw, sgn, dYes, wipeR, back]
    exact ho
  | some x =>
    obtain ⟨t, r⟩ := x
    rw [lrD_s]
    simp [Ds, dRaise, mkRho, nOw, sgn, dYes, wipeR, back]
    have e : wholeO (some (t, r)) = if r = [] then tmD t else .none := rfl
    rw [e] at ho
    by_cases hr : r = []
    · rw [decide_eq_true hr]
      rw [if_pos hr] at ho
      simp [Ds, dRaise, mkRho, nOw, sgn, dYes, wipeR, back]
      exact ho
    · rw [decide_eq_false hr]
      rw [if_neg hr] at ho
      simp [Ds, dRaise, mkRho, nOw, sgn, dYes, wipeR, back]
      exact ho
end
end K05

set_option Elab.async false
set_option maxRecDepth 100000
set_option maxHeartbeats 4000000
set_option linter.all false
set_option pp.maxSteps 3000
namespace K05
open PySem L2 DL TM
/-- no dicts, so deep, lists of a bearable length -/
inductive Nd : Nat → PyData → Prop
  | lst {n : Nat} {ds : List PyData} : ds.length ≤ 100000 → (∀ d ∈ ds, Nd n d) → Nd (n + 1) (.list ds)
  | tup {n : Nat} {ds : List PyData} : ds.length ≤ 100000 → (∀ d ∈ ds, Nd n d) → Nd (n + 1) (.tuple ds)
  | non {n : Nat} : Nd n .none
  | bl {n : Nat} {b : Bool} : Nd n (.bool b)
  | int {n : Nat} {i : Int} : Nd n (.int i)
  | str {n : Nat} {z : Str} : Nd n (.str z)
def spAlike (D : Nat) : DSp := fun as k _ => ∃ d, as = [.d d, .d d] ∧ Nd D d ∧ k (.bool true) []
section
variable {P : Program} {w : World} {K : PySem.W.Frag} {mg : Str → Option Value} {base : Heap} {tabs : List Addr}
theorem sc__law_alike : FnScope ["found", "due", "k"] ["found", "due"] (defScope s__law_alike) := ⟨rfl, rfl, rfl, by decide +kernel, rfl, by decide +kernel, by decide +kernel⟩
theorem ok_alike_step {N : Nat} {f : Addr} {fd : FuncData} (F : Fun K "_law_alike" "_law_alike" s__law_alike f fd) (T : Txt0 mg) (b__law_alike : Binds K fd ["found", "due"] []) (g__law_alike : mg "_law_alike" = some (.ref f)) (D : Nat)
    (G__law_alike : FnOk P w K mg base CX0 N f fd ["found", "due"] (spD K tabs fun as k W => ∃ D', D' + 1 = D ∧ spAlike D' as k W)) :
    FnOk P w K mg base CX0 (N + 1) f fd ["found", "due"] (spD K tabs (spAlike D)) := by
  refine Fun.okD F sc__law_alike (fun as k W ⟨_, e, _⟩ => by rw [e]; rfl) fun cdv A outer s H E M B W xs mh bh hr => ?_
  have nd := sc__law_alike.nd
  have F__law_alike := F
  have hv : (A.deeper (PyProof.Rows.envOfC "_law_alike" (defScope s__law_alike) s.heap.objs.size f cdv)).units + 64 < cLine := by
    have := hr.un
    omega
  refine ⟨_, _, (pdb_cons (pds_if (PDw.pt (pdw_or (pdt_val (pd_isi isT_list (GK.isiK K) (by rfl) T.B.isinstance (by decide +kernel) (pd_var (pv 1)) (pe_bltn (v := .ty "list") (by rfl) T.B.list (by decide +kernel) rfl))) (pdw_or1 (pdt_val (pd_isi isT_tup (GK.isiK K) (by rfl) T.B.isinstance (by decide +kernel) (pd_var (pv 1)) (pe_bltn (v := .ty "tuple") (by rfl) T.B.tuple (by decide +kernel) rfl)))))) 
      (pdb_cons (pds_if (PDw.pt (pdw_or (pdt_cmp op_ne od_neF (pd_isi isT_list (GK.isiK K) (by rfl) T.B.isinstance (by decide +kernel) (pd_var (pv 0)) (pe_bltn (v := .ty "list") (by rfl) T.B.list (by decide +kernel) rfl)) (pd_isi isT_list (GK.isiK K) (by rfl) T.B.isinstance (by decide +kernel) (pd_var (pv 1)) (pe_bltn (v := .ty "list") (by rfl) T.B.list (by decide +kernel) rfl)) (nomark _)) (pdw_or1 (pdt_cmp op_ne od_neF (pd_isi isT_tup (GK.isiK K) (by rfl) T.B.isinstance (by decide +kernel) (pd_var (pv 0)) (pe_bltn (v := .ty "tuple") (by rfl) T.B.tuple (by decide +kernel) rfl)) (pd_isi isT_tup (GK.isiK K) (by rfl) T.B.isinstance (by decide +kernel) (pd_var (pv 1)) (pe_bltn (v := .ty "tuple") (by rfl) T.B.tuple (by decide +kernel) rfl)) (nomark _))))) 
        (pdb_one (pds_ret pd_bl)) pdb_nil)
      (pdb_one (pds_ret (pd_and (pd_cmp op_eq od_eqF (pd_callB (GK.lenK K) cd_len (by rfl) T.B.len (by decide +kernel) (pda_cons (pd_var (pv 0)) pda_nil)) (pd_callB (GK.lenK K) cd_len (by rfl) T.B.len (by decide +kernel) (pda_cons (pd_var (pv 1)) pda_nil)) (nomark _)) (pd_one (pd_cmp (GK.eqDK K hv) od_eqD (pd_frz (pf_lc (own := [("k", 2)]) rfl nd (pdi_range1 (by rfl) T.B.range (pda_cons (pd_callB (GK.lenK K) cd_len (by rfl) T.B.len (by decide +kernel) (pda_cons (pd_var (pv 1)) pda_nil)) pda_nil)) (blkOk_by (N := ["found", "due", "k"]) (sc := defScope s__law_alike) (by decide +kernel)) (fun _ _ _ _ _ => (pdg_name (pg_name (i := 2) nd rfl (.inl rfl)))) gw_name (fun _ _ _ _ _ => (pdts_one (pdt_not (pdt_val (pd_call G__law_alike hr (by rfl) g__law_alike F__law_alike.kp b__law_alike (pda_cons (pd_ix (GK.ixQK K) od_ix (pd_var (pv 0)) (pd_var (pv 2)) (fun _ _ => rfl)) (pda_cons (pd_ix (GK.ixQK K) od_ix (pd_var (pv 1)) (pd_var (pv 2)) (fun _ _ => rfl)) pda_nil))))))) (fun _ _ _ _ _ => (pd_var (pv 2))) s)) (pd_frz (pf_lst pda_nil)) (nomark _))))))) pdb_nil)
    (pdb_cons (pds_if (pdt_cmp op_isN od_isN (pd_var (pv 1)) pd_non (nomark _)) 
      (pdb_one (pds_ret (pd_cmp op_isN od_isN (pd_var (pv 0)) pd_non (nomark _)))) pdb_nil)
    (pdb_cons (pds_if (PDw.pt (pdw_or (pdt_val (pd_isi isT_bool (GK.isiK K) (by rfl) T.B.isinstance (by decide +kernel) (pd_var (pv 1)) (pe_bltn (v := .ty "bool") (by rfl) T.B.bool (by decide +kernel) rfl))) (pdw_or1 (pdt_val (pd_isi isT_bool (GK.isiK K) (by rfl) T.B.isinstance (by decide +kernel) (pd_var (pv 0)) (pe_bltn (v := .ty "bool") (by rfl) T.B.bool (by decide +kernel) rfl)))))) 
      (pdb_one (pds_ret (pd_and (pd_isi isT_bool (GK.isiK K) (by rfl) T.B.isinstance (by decide +kernel) (pd_var (pv 0)) (pe_bltn (v := .ty "bool") (by rfl) T.B.bool (by decide +kernel) rfl)) (pd_and (pd_isi isT_bool (GK.isiK K) (by rfl) T.B.isinstance (by decide +kernel) (pd_var (pv 1)) (pe_bltn (v := .ty "bool") (by rfl) T.B.bool (by decide +kernel) rfl)) (pd_one (pd_cmp op_eq od_eqF (pd_var (pv 0)) (pd_var (pv 1)) (nomark _))))))) pdb_nil)
    (pdb_cons (pds_if (pdt_val (pd_isi isT_int (GK.isiK K) (by rfl) T.B.isinstance (by decide +kernel) (pd_var (pv 1)) (pe_bltn (v := .ty "int") (by rfl) T.B.int (by decide +kernel) rfl))) 
      (pdb_one (pds_ret (pd_and (pd_isi isT_int (GK.isiK K) (by rfl) T.B.isinstance (by decide +kernel) (pd_var (pv 0)) (pe_bltn (v := .ty "int") (by rfl) T.B.int (by decide +kernel) rfl)) (pd_one (pd_cmp op_eq od_eqF (pd_var (pv 0)) (pd_var (pv 1)) (nomark _)))))) pdb_nil)
    (pdb_one (pds_ret (pd_and (pd_isi isT_str (GK.isiK K) (by rfl) T.B.isinstance (by decide +kernel) (pd_var (pv 0)) (pe_bltn (v := .ty "str") (by rfl) T.B.str (by decide +kernel) rfl)) (pd_one (pd_cmp op_eq od_eqF (pd_var (pv 0)) (pd_var (pv 1)) (nomark _)))))))))), ?_⟩
  rintro _ k ⟨d, rfl, hd, hk⟩
  cases hd with
  | @lst _ ds hl all =>
    simp [Ds, dRaise, mkRho, nOw, sgn, dYes, wipeR, back]
    refine ⟨by omega, fun i acc ρ => ρ = [some (.d (.list ds)), some (.d (.list ds)), none] ∧ acc = [], ⟨rfl, rfl⟩, ?_, ?_⟩
    · rintro i x acc ρ hx ⟨rfl, rfl⟩
      obtain ⟨hi, rfl⟩ := ints_at hx
      have at1 : atI ds ((0 : Int) + (i : Int)) = some ds[i] := by
        rw [Int.zero_add]
        exact atI_nat (List.getElem?_eq_getElem hi)
      have at2 : atI ds (i : Int) = some ds[i] := atI_nat (List.getElem?_eq_getElem hi)
      simp [Ds, dRaise, mkRho, nOw, sgn, dYes, wipeR, back]
      rw [at2]
      simp [Ds, dRaise, mkRho, nOw, sgn, dYes, wipeR, back]
      rw [at2]
      simp [Ds, dRaise, mkRho, nOw, sgn, dYes, wipeR, back]
      refine ⟨.nil, ds[i], rfl, all _ (List.getElem_mem ..), ?_⟩
      simp [Ds, dRaise, mkRho, nOw, sgn, dYes, wipeR, back]
    · rintro acc ρ ⟨rfl, rfl⟩
      simp [Ds, dRaise, mkRho, nOw, sgn, dYes, wipeR, back]
      exact ⟨by decide +kernel, hk⟩
  | @tup _ ds hl all =>
    simp [Ds, dRaise, mkRho, nOw, sgn, dYes, wipeR, back]
    refine ⟨by omega, fun i acc ρ => ρ = [some (.d (.tuple ds)), some (.d (.tuple ds)), none] ∧ acc = [], ⟨rfl, rfl⟩, ?_, ?_⟩
    · rintro i x acc ρ hx ⟨rfl, rfl⟩
      obtain ⟨hi, rfl⟩ := ints_at hx
      have at1 : atI ds ((0 : Int) + (i : Int)) = some ds[i] := by
        rw [Int.zero_add]
        exact atI_nat (List.getElem?_eq_getElem hi)
      have at2 : atI ds (i : Int) = some ds[i] := atI_nat (List.getElem?_eq_getElem hi)
      simp [Ds, dRaise, mkRho, nOw, sgn, dYes, wipeR, back]
      rw [at2]
      simp [Ds, dRaise, mkRho, nOw, sgn, dYes, wipeR, back]
      rw [at2]
      simp [Ds, dRaise, mkRho, nOw, sgn, dYes, wipeR, back]
      refine ⟨.nil, ds[i], rfl, all _ (List.getElem_mem ..), ?_⟩
      simp [Ds, dRaise, mkRho, nOw, sgn, dYes, wipeR, back]
    · rintro acc ρ ⟨rfl, rfl⟩
      simp [Ds, dRaise, mkRho, nOw, sgn, dYes, wipeR, back]
      exact ⟨by decide +kernel, hk⟩
  | non =>
    simp [Ds, dRaise, mkRho, nOw, sgn, dYes, wipeR, back]
    exact hk
  | bl =>
    simp [Ds, dRaise, mkRho, nOw, sgn, dYes, wipeR, back]
    exact hk
  | int =>
    simp [Ds, dRaise, mkRho, nOw, sgn, dYes, wipeR, back]
    exact hk
  | str =>
    simp [Ds, dRaise, mkRho, nOw, sgn, dYes, wipeR, back]
    exact hk
theorem ok_alike {f : Addr} {fd : FuncData} (F : Fun K "_law_alike" "_law_alike" s__law_alike f fd) (T : Txt0 mg) (b__law_alike : Binds K fd ["found", "due"] []) (g__law_alike : mg "_law_alike" = some (.ref f)) :
    ∀ D : Nat, FnOk P w K mg base CX0 (1 + D) f fd ["found", "due"] (spD K tabs (spAlike D))
  | 0 => ok_alike_step F T b__law_alike g__law_alike 0 (okNever fun _ _ _ ⟨_, e, _⟩ => nomatch e)
  | D + 1 => ok_alike_step F T b__law_alike g__law_alike (D + 1) (okImp (ok_alike F T b__law_alike g__law_alike D) fun _ _ _ ⟨D', e, h⟩ => by
    have : D' = D := by omega
    rw [← this]
    exact h)
end
end K05

set_option Elab.async false
set_option maxRecDepth 100000
set_option maxHeartbeats 4000000
set_option linter.all false
set_option pp.maxSteps 3000
namespace K05
open PySem L2 DL TM
def spHoled (D : Nat) : DSp := fun as k _ => ∃ (ns : List Int) (t : Tm) (b : Nat), as = [.ow (ns.map .int), .d (tmD t), .d (.int (b : Int))] ∧ 0 < b ∧ dep t ≤ D ∧ (wr t).length ≤ 100000 ∧ ∀ (u : Tm) (ns' : List Int), Hol t u → k (tmD u) [ns'.map .int]
section
variable {P : Program} {w : World} {K : PySem.W.Frag} {mg : Str → Option Value} {base : Heap} {tabs : List Addr}
theorem sc__law_holed : FnScope ["draws", "term", "often", "row", "one"] ["draws", "term", "often"] (defScope s__law_holed) := ⟨rfl, rfl, rfl, by decide +kernel, rfl, by decide +kernel, by decide +kernel⟩
theorem ok_holed_step {N : Nat} {f f1 : Addr} {fd fd1 : FuncData} (F : Fun K "_law_holed" "_law_holed" s__law_holed f fd) (T : Txt0 mg) (b__law_holed : Binds K fd ["draws", "term", "often"] []) (g__law_holed : mg "_law_holed" = some (.ref f)) (D : Nat)
    (G__law_take : FnOk P w K mg base CX0 1 f1 fd1 ["draws", "bound"] (spD K tabs spTake)) (F__law_take : Fun K "_law_take" "_law_take" s__law_take f1 fd1) (b__law_take : Binds K fd1 ["draws", "bound"] []) (g__law_take : mg "_law_take" = some (.ref f1)) (hN : 1 ≤ N)
    (G__law_holed : FnOk P w K mg base CX0 N f fd ["draws", "term", "often"] (spD K tabs fun as k W => ∃ D', D' + 1 ≤ D ∧ spHoled D' as k W)) :
    FnOk P w K mg base CX0 (N + 1) f fd ["draws", "term", "often"] (spD K tabs (spHoled D)) := by
  refine Fun.okD F sc__law_holed (fun as k W ⟨_, _, _, e, _⟩ => by rw [e]; rfl) fun cdv A outer s H E M B W xs mh bh hr => ?_
  have nd := sc__law_holed.nd
  have F__law_holed := F
  have hr1 := hr.mono hN
  refine ⟨_, _, (pdb_cons (pds_if (PDw.pt (pdw_and (pdt_cmp op_eq od_eqF (pd_callB (GK.lenK K) cd_len (by rfl) T.B.len (by decide +kernel) (pda_cons (pd_var (pv 1)) pda_nil)) pd_int (nomark _)) (pdw_and1 (pdt_cmp op_eq od_eqF (pd_call G__law_take hr1 (by rfl) g__law_take F__law_take.kp b__law_take (pda_cons (pd_var (pv 0)) (pda_cons (pd_var (pv 2)) pda_nil))) pd_int (nomark _))))) 
      (pdb_one (pds_ret (pd_tup (pda_cons (pd_op op_add_str od_addS pd_str (pd_ix (GK.ixQK K) od_ix pd_str (pd_call G__law_take hr1 (by rfl) g__law_take F__law_take.kp b__law_take (pda_cons (pd_var (pv 0)) (pda_cons pd_int pda_nil))) (fun _ _ => rfl))) pda_nil)))) pdb_nil)
    (pdb_cons (pds_ownN (i := 3) nd rfl (.inl rfl) (pf_lst (pda_cons (pd_ix (GK.ixQK K) od_ix (pd_var (pv 1)) pd_int (fun _ _ => rfl)) pda_nil)))
    (pdb_cons (pds_for PassesOwn.never rfl (pdi_tup (pd_slice (slTAK K) sd_tup (pd_var (pv 1)) (pdo_some pd_int) pdo_none)) (pdg_name (pg_name (i := 4) nd rfl (.inl rfl))) 
      (pdb_one (pds_expr (pd_appN (pv 3) (pd_call G__law_holed hr (by rfl) g__law_holed F__law_holed.kp b__law_holed (pda_cons (pd_var (pv 0)) (pda_cons (pd_var (pv 4)) (pda_cons (pd_var (pv 2)) pda_nil))))))))
    (pdb_one (pds_ret (pd_callTy (GK.tupOfK K) cd_tupOf (by rfl) T.B.tuple (by decide +kernel) (pda_cons (pd_var (pv 3)) pda_nil))))))), ?_⟩
  rintro _ k ⟨ns, t, b, rfl, hb, hd, hl, hk⟩
  obtain ⟨n, args⟩ := t
  simp [Ds, dRaise, mkRho, nOw, sgn, dYes, wipeR, back, tmD]
  have big : 200002 < sizeLine := by decide
  have hal : args.length ≤ 100000 := by
    by_cases h0 : args.length = 0
    · omega
    · have e := wr_node (n := n) h0
      have hw : wrs args ≠ [] := fun e => by
        have := wrs_length args
        rw [e] at this
        exact h0 this.symm
      have jl := join_len comma hw
      have hc : comma.length = 2 := rfl
      have hp : (Str.ofString "(").length = 1 := rfl
      have hq : (Str.ofString ")").length = 1 := rfl
      rw [hc, wrs_length] at jl
      have hl' := hl
      rw [e, len_app, len_app, len_app, hp, hq] at hl'
      omega
  by_cases h0 : args.length = 0
  · rw [show decide (((tmsD args).length : Int) + 1 = 1) = true from decide_eq_true (by rw [tmsD_length]; omega)]
    simp [Ds, dRaise, mkRho, nOw, sgn, dYes, wipeR, back]
    refine ⟨by simp, ns, b, rfl, hb, fun j ns1 hj => ?_⟩
    simp [Ds, dRaise, mkRho, nOw, sgn, dYes, wipeR, back]
    by_cases hj0 : j = 0
    · rw [decide_eq_true hj0]
      simp [Ds, dRaise, mkRho, nOw, sgn, dYes, wipeR, back]
      refine ⟨by simp, ns1, 3, rfl, by decide, fun j2 ns2 hj2 => ?_⟩
      simp [Ds, dRaise, mkRho, nOw, sgn, dYes, wipeR, back]
      have at3 : atI (Str.ofString "abc").cps.toList (j2 : Int) = some (97 + j2) := by
        have : j2 = 0 ∨ j2 = 1 ∨ j2 = 2 := by omega
        rcases this with rfl | rfl | rfl <;> decide +kernel
      refine ⟨by decide +kernel, ?_⟩
      rw [at3]
      simp [Ds, dRaise, mkRho, nOw, sgn, dYes, wipeR, back]
      have hargs : args = [] := List.length_eq_zero_iff.mp h0
      have := hk (.mk (holeN j2) []) ns2 (by rw [hargs]; exact .hole hj2)
      exact ⟨show 1 + 1 ≤ sizeLine by decide, by decide, this⟩
    · rw [decide_eq_false hj0]
      simp [Ds, dRaise, mkRho, nOw, sgn, dYes, wipeR, back]
      refine ⟨by decide, fun i ρ => ∃ (ns2 : List Int) (bs : List Tm) (x : Option DV), ρ = [some (.ow (.lst (some 0) (ns2.map .int))), some (.d (.tuple (.str n :: tmsD args))), some (.d (.int (b : Int))), some (.ow (.lst none (.str n :: tmsD bs))), x] ∧ Hols (args.take i) bs, ⟨ns1, [], none, rfl, .nil⟩, ?_, ?_⟩
      · rintro i x _ hx ⟨ns2, bs, x0, rfl, hH⟩
        obtain ⟨t, ht, rfl⟩ := tmsD_get hx
        have hbs := hH.len
        rw [List.length_take] at hbs
        simp [Ds, dRaise, mkRho, nOw, sgn, dYes, wipeR, back]
        refine ⟨by simp, dep t, Nat.le_trans (dep_get ht) hd, ns2, t, b, rfl, hb, Nat.le_refl _, Nat.le_trans (wr_part (n := n) ht) hl, fun u ns3 hu => ?_⟩
        simp [Ds, dRaise, mkRho, nOw, sgn, dYes, wipeR, back]
        refine ⟨by rw [tmsD_length]; omega, ns3, bs ++ [u], ⟨rfl, by rw [tmsD_app]; rfl⟩, ?_⟩
        rw [List.take_add_one, ht]
        exact hH.app (.cons hu .nil)
      · rintro ρ ⟨ns2, bs, x0, rfl, hH⟩
        rw [tmsD_length, List.take_length] at hH
        simp [Ds, dRaise, mkRho, nOw, sgn, dYes, wipeR, back]
        exact hk (.mk n bs) ns2 (.node hH)
  · rw [show decide (((tmsD args).length : Int) + 1 = 1) = false from decide_eq_false (by rw [tmsD_length]; omega)]
    simp [Ds, dRaise, mkRho, nOw, sgn, dYes, wipeR, back]
    refine ⟨by decide, fun i ρ => ∃ (ns2 : List Int) (bs : List Tm) (x : Option DV), ρ = [some (.ow (.lst (some 0) (ns2.map .int))), some (.d (.tuple (.str n :: tmsD args))), some (.d (.int (b : Int))), some (.ow (.lst none (.str n :: tmsD bs))), x] ∧ Hols (args.take i) bs, ⟨ns, [], none, rfl, .nil⟩, ?_, ?_⟩
    · rintro i x _ hx ⟨ns2, bs, x0, rfl, hH⟩
      obtain ⟨t, ht, rfl⟩ := tmsD_get hx
      have hbs := hH.len
      rw [List.length_take] at hbs
      simp [Ds, dRaise, mkRho, nOw, sgn, dYes, wipeR, back]
      refine ⟨by simp, dep t, Nat.le_trans (dep_get ht) hd, ns2, t, b, rfl, hb, Nat.le_refl _, Nat.le_trans (wr_part (n := n) ht) hl, fun u ns3 hu => ?_⟩
      simp [Ds, dRaise, mkRho, nOw, sgn, dYes, wipeR, back]
      refine ⟨by rw [tmsD_length]; omega, ns3, bs ++ [u], ⟨rfl, by rw [tmsD_app]; rfl⟩, ?_⟩
      rw [List.take_add_one, ht]
      exact hH.app (.cons hu .nil)
    · rintro ρ ⟨ns2, bs, x0, rfl, hH⟩
      rw [tmsD_length, List.take_length] at hH
      simp [Ds, dRaise, mkRho, nOw, sgn, dYes, wipeR, back]
      exact hk (.mk n bs) ns2 (.node hH)
theorem ok_holed {f f1 : Addr} {fd fd1 : FuncData} (F : Fun K "_law_holed" "_law_holed" s__law_holed f fd) (T : Txt0 mg) (b__law_holed : Binds K fd ["draws", "term", "often"] []) (g__law_holed : mg "_law_holed" = some (.ref f))
    (G__law_take : FnOk P w K mg base CX0 1 f1 fd1 ["draws", "bound"] (spD K tabs spTake)) (F__law_take : Fun K "_law_take" "_law_take" s__law_take f1 fd1) (b__law_take : Binds K fd1 ["draws", "bound"] []) (g__law_take : mg "_law_take" = some (.ref f1)) :
    ∀ D : Nat, FnOk P w K mg base CX0 (2 + D) f fd ["draws", "term", "often"] (spD K tabs (spHoled D))
  | 0 => ok_holed_step F T b__law_holed g__law_holed 0 G__law_take F__law_take b__law_take g__law_take (Nat.le_refl _) (okNever fun _ _ _ ⟨_, e, _⟩ => nomatch e)
  | D + 1 => ok_holed_step F T b__law_holed g__law_holed (D + 1) G__law_take F__law_take b__law_take g__law_take (by show 1 ≤ 2 + D; omega) (okImp (ok_holed F T b__law_holed g__law_holed G__law_take F__law_take b__law_take g__law_take D) fun _ _ _ ⟨D', e, ns, t, b, ea, hb, h, r⟩ => ⟨ns, t, b, ea, hb, by omega, r⟩)
end
end K05

set_option Elab.async false
set_option maxRecDepth 100000
set_option maxHeartbeats 4000000
set_option linter.all false
set_option pp.maxSteps 3000
namespace K05
open PySem L2 DL TM
def leaves (sig : List Op) (srt : Str) : List Str := (sig.filter fun r => decide (r.2.1 = [] ∧ r.2.2 = srt)).map (·.1)
def spLeaves : DSp := fun as k _ => ∃ (sig : List Op) (srt : Str), as = [.d (sigD sig), .d (.str srt)] ∧ sig.length ≤ 1000 ∧ (∀ r ∈ sig, SeqAt.shaped (.tuple (r.2.1.map PyData.str)) = true) ∧ k (.list ((leaves sig srt).map fun n => .tuple [.str n])) []
section
variable {P : Program} {w : World} {K : PySem.W.Frag} {mg : Str → Option Value} {base : Heap} {tabs : List Addr}
theorem sc__law_leaves : FnScope ["signature", "sort", "name", "ins", "out"] ["signature", "sort"] (defScope s__law_leaves) := ⟨rfl, rfl, rfl, by decide +kernel, rfl, by decide +kernel, by decide +kernel⟩
theorem ok_leaves {f : Addr} {fd : FuncData} (F : Fun K "_law_leaves" "_law_leaves" s__law_leaves f fd) (T : Txt0 mg) : FnOk P w K mg base CX0 1 f fd ["signature", "sort"] (spD K tabs spLeaves) := by
  refine Fun.okD F sc__law_leaves (fun as k W ⟨_, _, e, _⟩ => by rw [e]; rfl) fun cdv A outer s H E M B W xs mh bh hr1 => ?_
  have nd := sc__law_leaves.nd
  have hv : (A.deeper (PyProof.Rows.envOfC "_law_leaves" (defScope s__law_leaves) s.heap.objs.size f cdv)).units + 64 < cLine := by
    have := hr1.un
    omega
  refine ⟨_, _, (pdb_one (pds_ret (pd_frz (pf_lc (own := [("name", 2), ("ins", 3), ("out", 4)]) rfl nd (pdi_tup (pd_var (pv 0))) (blkOk_by (N := ["signature", "sort", "name", "ins", "out"]) (sc := defScope s__law_leaves) (by decide +kernel)) (fun _ _ _ _ _ => (pdg_tup (n := 3) rfl (pdgs_cons (pdg_name (pg_name (i := 2) nd rfl (.inl rfl))) (pdgs_cons (pdg_name (pg_name (i := 3) nd rfl (.inl rfl))) (pdgs_cons (pdg_name (pg_name (i := 4) nd rfl (.inl rfl))) pdgs_nil))))) (gw_tup (gws_cons gw_name (gws_cons gw_name (gws_cons gw_name gws_nil)))) (fun _ _ _ _ _ => (pdts_one (PDw.pt (pdw_and (pdt_cmp (GK.eqDK K hv) od_eqD (pd_var (pv 3)) (pd_tup pda_nil) (nomark _)) (pdw_and1 (pdt_cmp op_eq od_eqF (pd_var (pv 4)) (pd_var (pv 1)) (nomark _))))))) (fun _ _ _ _ _ => (pd_tup (pda_cons (pd_var (pv 2)) pda_nil))) s)))), ?_⟩
  rintro _ k ⟨sig, srt, rfl, hl, hs, hk⟩
  simp [Ds, dRaise, mkRho, nOw, sgn, dYes, wipeR, back, sigD]
  have ev : ∀ ins : List Str, PyData.eqv (.tuple (ins.map PyData.str)) (.tuple []) = decide (ins = []) := fun ins => by
    cases ins with
    | nil => decide +kernel
    | cons a b => simp [PyData.eqv, PyData.eqvAll]
  have sh0 : SeqAt.shaped (.tuple []) = true := by decide +kernel
  have big : 1002 < sizeLine := by decide
  refine ⟨fun i acc ρ => ρ = [some (.d (.tuple (sig.map rowD))), some (.d (.str srt)), none, none, none] ∧ acc = (leaves (sig.take i) srt).map fun n => .tuple [.str n], ⟨rfl, rfl⟩, ?_, ?_⟩
  · rintro i x acc ρ hx ⟨rfl, rfl⟩
    rw [List.getElem?_map] at hx
    obtain ⟨r, hr, rfl⟩ := Option.map_eq_some_iff.mp hx
    have hmem : r ∈ sig := List.mem_of_getElem? hr
    have hlen : ((leaves (sig.take i) srt).map fun n => PyData.tuple [.str n]).length < sizeLine := by
      unfold leaves
      rw [List.length_map, List.length_map]
      have := List.length_filter_le (fun r : Op => decide (r.2.1 = [] ∧ r.2.2 = srt)) (sig.take i)
      rw [List.length_take] at this
      omega
    have step : leaves (sig.take (i + 1)) srt = leaves (sig.take i) srt ++ (if r.2.1 = [] ∧ r.2.2 = srt then [r.1] else []) := by
      unfold leaves
      rw [List.take_add_one, hr, List.filter_append, List.map_append]
      congr 1
      by_cases h : r.2.1 = [] ∧ r.2.2 = srt <;> simp [h]
    simp [Ds, dRaise, mkRho, nOw, sgn, dYes, wipeR, back, rowD]
    refine ⟨hs r hmem, sh0, ?_⟩
    rw [ev]
    by_cases h1 : r.2.1 = []
    · rw [decide_eq_true h1]
      simp [Ds, dRaise, mkRho, nOw, sgn, dYes, wipeR, back]
      by_cases h2 : r.2.2 = srt
      · rw [if_pos h2]
        rw [if_pos ⟨h1, h2⟩] at step
        rw [List.length_map] at hlen
        exact ⟨by decide, hlen, by rw [step]; simp⟩
      · rw [if_neg h2]
        rw [if_neg fun z => h2 z.2, List.append_nil] at step
        rw [step]
    · rw [decide_eq_false h1]
      rw [if_neg fun z => h1 z.1, List.append_nil] at step
      simp [Ds, dRaise, mkRho, nOw, sgn, dYes, wipeR, back]
      rw [step]
  · rintro acc ρ ⟨rfl, rfl⟩
    rw [List.length_map, List.take_length]
    simp [Ds, dRaise, mkRho, nOw, sgn, dYes, wipeR, back]
    exact hk
end
end K05

set_option Elab.async false
set_option maxRecDepth 100000
set_option maxHeartbeats 4000000
set_option linter.all false
set_option pp.maxSteps 3000
namespace K05
open PySem L2 DL TM
theorem Kp.same {H H' : Hp} (s : Same H H') : Kp H H' [] := ⟨fun c o e _ _ => s c o e, fun c ps e => ⟨ps, s c _ e, fun h => h⟩⟩
theorem snoc_int (ms : List Int) (z : Int) : ms.map V.int ++ [V.int z] = (ms ++ [z]).map V.int := by simp
theorem same_new {H H1 : Hp} {d : Addr} {o : HO} (s : Same H H1) (h : H d = none) : Same H (upd H1 d o) := fun b u e => by
  rw [upd_ne (ne_of_none e h)]
  exact s b u e
theorem at_int {ns : List Int} {i : Nat} {y : V} (h : (ns.map V.int)[i]? = some y) : ∃ z, y = V.int z ∧ ns[i]? = some z := by
  rw [List.getElem?_map] at h
  cases e : ns[i]? with
  | none => rw [e] at h; cases h
  | some z => rw [e] at h; exact ⟨z, (Option.some.inj h).symm, rfl⟩

theorem sc__law_draws : FnScope ["script", "draws", "cell", "number", "first", "k", "seed"] ["script"] (defScope s__law_draws) := ⟨rfl, rfl, rfl, by decide +kernel, rfl, by decide +kernel, by decide +kernel⟩
section
variable {P : Program} {w : World} {K : PySem.W.Frag} {mg : Str → Option Value} {base : Heap}
theorem ok_draws {f : Addr} {fd : FuncData} (F : Fun K "_law_draws" "_law_draws" s__law_draws f fd) (T : Txt0 mg) : FnOk P w K mg base CX0 1 f fd ["script"] (spDrawsH K) := by
  refine F.ok sc__law_draws (fun vs H Q E h => ?_) (fun cdv A outer s H vs Q E hr h => ?_)
  · obtain ⟨a, ns, rfl, _⟩ := h
    rfl
  obtain ⟨a, ns, rfl, hS, hlen, k⟩ := h
  have nd := sc__law_draws.nd
  refine ⟨_, pss_cons (ps_set (i := 1) nd rfl (.inl rfl) (pe_lst pa_nil))
    (pss_cons (ps_for PassesOwn.never rfl (pi_list (pv 0)) (pg_name (i := 2) nd rfl (.inl rfl))
      (pss_cons (ps_set (i := 3) nd rfl (.inl rfl) (pe_callB call_abs (by rfl) T.B.abs (by decide +kernel) (pa_cons (pv 2) pa_nil)))
      (Evl.pss_cut (ps_if (pt_cmpR op_lt (pv 3) (pe_op op_pow pe_int pe_int) (nomark _))
        (pss_cons (ps_set (i := 4) nd rfl (.inl rfl) (pe_op op_mod (pe_callTy call_int1 (by rfl) T.B.int (by decide +kernel) (pa_cons (pe_op op_add (pe_op op_mul (pv 3) pe_int) pe_int) pa_nil)) pe_int))
        (pss_cons (ps_expr (pe_bm PySem.F.plainAttrs_list PySem.F.slot_list_append PySem.F.type_list_append mt_append (pv 1) (pa_cons
          (pe_op op_mod (pe_callTy call_int1 (by rfl) T.B.int (by decide +kernel) (pa_cons (pe_op op_add (pe_op op_mul (pv 4) pe_int) (pv 3)) pa_nil)) pe_int) pa_nil)))
        (pss_cons (ps_expr (pe_bm PySem.F.plainAttrs_list PySem.F.slot_list_append PySem.F.type_list_append mt_append (pv 1) (pa_cons
          (pe_op op_mod (pe_callTy call_int1 (by rfl) T.B.int (by decide +kernel) (pa_cons (pe_op op_add (pv 4) (pe_op op_fdiv (pv 3) pe_int)) pa_nil)) pe_int) pa_nil)))
        (pss_one (ps_set (i := 3) nd rfl (.inl rfl) pe_int))))) pss_nil)
      (pss_one (ps_for PassesOwn.never rfl (pi_range1 rfl T.B.range (pa_cons pe_int pa_nil)) (pg_name (i := 5) nd rfl (.inl rfl))
        (pss_one (ps_if (pt_cmpR op_gt (pv 3) pe_int (nomark _))
          (pss_cons (ps_expr (pe_bm PySem.F.plainAttrs_list PySem.F.slot_list_append PySem.F.type_list_append mt_append (pv 1) (pa_cons
            (pe_op op_mod (pe_callTy call_int1 (by rfl) T.B.int (by decide +kernel) (pa_cons (pv 3) pa_nil)) pe_int) pa_nil)))
          (pss_one (ps_set (i := 3) nd rfl (.inl rfl) (pe_op op_fdiv (pv 3) pe_int)))) pss_nil)))))))
    (pss_cons (ps_set (i := 6) nd rfl (.inl rfl) pe_int)
    (Evl.pss_cut (ps_if (pt_cmpR op_gt (pe_callB call_len_seq (by rfl) T.B.len PySem.boot_len (pa_cons (pv 0) pa_nil)) pe_int (nomark _))
      (pss_one (ps_set (i := 6) nd rfl (.inl rfl) (pe_op op_add pe_int (pe_callB call_abs (by rfl) T.B.abs (by decide +kernel) (pa_cons (pe_ix ix_list (pv 0) pe_int (fun _ _ => rfl)) pa_nil))))) pss_nil)
    (pss_cons (ps_for PassesOwn.never rfl (pi_range1 rfl T.B.range (pa_cons pe_int pa_nil)) (pg_name (i := 5) nd rfl (.inl rfl))
      (pss_cons (ps_set (i := 6) nd rfl (.inl rfl) (pe_op op_mod (pe_callTy call_int1 (by rfl) T.B.int (by decide +kernel) (pa_cons (pe_op op_add (pe_op op_mul (pv 6) pe_int) pe_int) pa_nil)) pe_int))
      (pss_one (ps_expr (pe_bm PySem.F.plainAttrs_list PySem.F.slot_list_append PySem.F.type_list_append mt_append (pv 1) (pa_cons (pe_op op_fdiv (pv 6) pe_int) pa_nil))))))
    (pss_one (ps_ret (GE.pe_listRev rfl (by rfl) T.B.list (by rfl) T.B.reversed (pv 1)))))))), ?_⟩
  -- draws = []
  refine ⟨Nat.zero_le _, fun d hd => ?_⟩
  have nad : ∀ {H1 : Hp}, Same H H1 → SqL K H1 a (ns.map V.int) := fun s => s.seq hS
  have room : ∀ {n : Nat}, n ≤ 10000 → n < sizeLine := fun h => Nat.lt_of_le_of_lt h (by decide)
  -- for cell in script
  refine ⟨_, rfl, a, rfl, ⟨_, nad (same_new (Same.refl H) hd)⟩, for_list (K := K) (a := a) (xs := ns.map V.int)
    (fun i σ H' => ∃ (v2 v3 v4 v5 : Option V) (ms : List Int), σ = [some (.ref a), some (.ref d), v2, v3, v4, v5, none] ∧ Same H H' ∧ H' d = some (.lst (ms.map V.int)) ∧ ms.length ≤ 70 * i)
    ⟨none, none, none, none, [], rfl, same_new (Same.refl H) hd, upd_same, Nat.zero_le _⟩ (fun i σ H' _ ⟨_, _, _, _, _, _, s1, _⟩ => nad s1) ?_ ?_⟩
  · rintro i y σ H' hi ⟨v2, v3, v4, v5, ms, rfl, s1, h1, l1⟩
    have hi63 : i < 63 := by
      have := (List.getElem?_eq_some_iff.mp hi).1
      rw [List.length_map] at this
      omega
    obtain ⟨z, rfl, hz⟩ := at_int hi
    refine ⟨_, rfl, _, rfl, ?_⟩
    -- behind the if
    refine ⟨fun σ' H1 => ∃ (n : Int) (u4 : Option V) (ms1 : List Int), σ' = [some (.ref a), some (.ref d), some (.int z), some (.int n), u4, v5, none] ∧ Same H H1 ∧ H1 d = some (.lst (ms1.map V.int)) ∧ ms1.length ≤ 70 * i + 2, ?_, ?_⟩
    · refine ⟨_, rfl, _, _, rfl, rfl, ⟨by decide, by decide, by decide⟩, _, _, rfl, rfl, _, rfl, ?_⟩
      refine ite2 (fun lt => ?_) (fun _ => ?_)
      · have lt := of_decide_eq_true lt
        have nn : (0 : Int) ≤ (if z < 0 then -z else z) := by split <;> omega
        have e18 : (10 : Int) ^ (18 : Int).toNat = 1000000000000000000 := by decide
        rw [e18] at lt
        generalize (if z < 0 then -z else z) = n at lt nn ⊢
        refine ⟨_, rfl, _, _, rfl, rfl, .inl ⟨by omega, by omega⟩, _, _, rfl, rfl, .inl ⟨_, rfl, ?_⟩⟩
        refine ⟨_, _, rfl, rfl, (by show (0 : Int) < 2147483647; decide), ?_⟩
        have m0 := Int.emod_nonneg (n * 48271 + 11) (b := 2147483647) (by decide)
        have m1 := Int.emod_lt_of_pos (n * 48271 + 11) (b := 2147483647) (by decide)
        generalize (n * 48271 + 11) % 2147483647 = fi at m0 m1 ⊢
        -- draws.append
        refine ⟨_, rfl, .inl ⟨rfl, _, SqL.of h1⟩, _, rfl, _, _, rfl, rfl, .inl ⟨by omega, by omega⟩, _, rfl, _, _, rfl, rfl, .inl ⟨_, rfl, ?_⟩⟩
        refine ⟨_, _, rfl, rfl, (by show (0 : Int) < 2147483629; decide), d, _, _, rfl, rfl, h1, room (by rw [List.length_map]; omega), ?_⟩
        rw [snoc_int]
        refine ⟨_, rfl, .inl ⟨rfl, _, SqL.of upd_same⟩, _, rfl, _, rfl, _, _, rfl, rfl, ⟨by decide, by decide⟩, _, _, rfl, rfl, .inl ⟨_, rfl, ?_⟩⟩
        refine ⟨_, _, rfl, rfl, (by show (0 : Int) < 1000003; decide), d, _, _, rfl, rfl, upd_same, room (by simp; omega), ?_⟩
        rw [snoc_int, upd_upd]
        exact ⟨_, _, _, rfl, same_new s1 hd, upd_same, by simp; omega⟩
      · exact ⟨_, _, _, rfl, s1, h1, by omega⟩
    · rintro σ' H1 ⟨n, u4, ms1, rfl, s2, h2, l2⟩
      refine ⟨60, rfl, by decide, by decide, for_range (n := 60) (fun j σ2 H2 => ∃ (n : Int) (u4 u5 : Option V) (ms2 : List Int), σ2 = [some (.ref a), some (.ref d), some (.int z), some (.int n), u4, u5, none] ∧ Same H H2 ∧ H2 d = some (.lst (ms2.map V.int)) ∧ ms2.length ≤ 70 * i + 2 + j)
        ⟨_, _, _, _, rfl, s2, h2, l2⟩ ?_ ?_⟩
      · rintro j σ2 H2 hj ⟨n, u4, u5, ms2, rfl, s3, h3, l3⟩
        refine ⟨_, rfl, _, _, rfl, rfl, _, rfl, ite2 (fun _ => ?_) (fun _ => ?_)⟩
        · refine ⟨_, rfl, .inl ⟨rfl, _, SqL.of h3⟩, _, rfl, .inl ⟨_, rfl, _, _, rfl, rfl, (by show (0 : Int) < 997; decide), d, _, _, rfl, rfl, h3, room (by rw [List.length_map]; omega), ?_⟩⟩
          rw [snoc_int]
          refine ⟨_, rfl, _, _, rfl, rfl, ⟨by decide, by decide⟩, ?_⟩
          exact ⟨_, _, _, _, rfl, same_new s3 hd, upd_same, by simp; omega⟩
        · exact ⟨_, _, _, _, rfl, s3, h3, by omega⟩
      · rintro σ2 H2 ⟨n, u4, u5, ms2, rfl, s3, h3, l3⟩
        exact ⟨_, _, _, _, _, rfl, s3, h3, by omega⟩
  · rintro σ H1 ⟨v2, v3, v4, v5, ms, rfl, s1, h1, l1⟩
    rw [List.length_map] at l1
    refine ⟨fun σ' H2 => ∃ n : Int, σ' = [some (.ref a), some (.ref d), v2, v3, v4, v5, some (.int n)] ∧ H2 = H1, ?_, ?_⟩
    · refine ⟨_, rfl, a, _, rfl, .inl (nad s1), _, _, rfl, rfl, _, rfl, ite2 (fun pos => ?_) (fun _ => ⟨_, rfl, rfl⟩)⟩
      have pos := of_decide_eq_true pos
      cases ns with
      | nil => simp at pos
      | cons n0 r =>
        refine ⟨_, rfl, a, _, _, _, rfl, rfl, nad s1, at_of (j := 0) rfl rfl, _, rfl, _, _, rfl, rfl, _, rfl, rfl⟩
    · rintro σ' H2 ⟨n, rfl, rfl⟩
      refine ⟨900, rfl, by decide, by decide, for_range (n := 900) (fun j σ2 H3 => ∃ (n : Int) (u5 : Option V) (ms2 : List Int), σ2 = [some (.ref a), some (.ref d), v2, v3, v4, u5, some (.int n)] ∧ Same H H3 ∧ H3 d = some (.lst (ms2.map V.int)) ∧ ms2.length ≤ 70 * 63 + j)
        ⟨_, _, _, rfl, s1, h1, by omega⟩ ?_ ?_⟩
      · rintro j σ2 H3 hj ⟨n, u5, ms2, rfl, s3, h3, l3⟩
        refine ⟨_, rfl, _, _, rfl, rfl, .inr ⟨by decide, by decide⟩, _, _, rfl, rfl, .inl ⟨_, rfl, ?_⟩⟩
        refine ⟨_, _, rfl, rfl, (by show (0 : Int) < 2147483647; decide), ?_⟩
        refine ⟨_, rfl, .inl ⟨rfl, _, SqL.of h3⟩, _, rfl, _, _, rfl, rfl, ⟨by decide, by decide⟩, d, _, _, rfl, rfl, h3, room (by rw [List.length_map]; omega), ?_⟩
        rw [snoc_int]
        exact ⟨_, _, _, rfl, same_new s3 hd, upd_same, by simp; omega⟩
      · rintro σ2 H3 ⟨n, u5, ms2, rfl, s3, h3, l3⟩
        refine ⟨_, rfl, d, _, rfl, SqL.of h3, fun q hq => ?_⟩
        rw [← List.map_reverse]
        exact k _ q _ (Kp.same (same_new s3 (s3.free hq))) (s3.free hq) upd_same (by rw [List.length_reverse]; omega)
end
end K05

set_option Elab.async false
set_option maxRecDepth 100000
set_option maxHeartbeats 8000000
set_option linter.all false
set_option pp.maxSteps 3000
namespace K05
open PySem L2 DL TM
/-! ### the classes of errors -/
structure Ers (K : PySem.W.Frag) (mg : Str → Option Value) (Ce Co Cm Cn Cr Ct : Addr) : Prop where
  gE : mg "EqualError" = some (.ref Ce)
  gO : mg "OutOfRange" = some (.ref Co)
  gM : mg "Malformed" = some (.ref Cm)
  gN : mg "NotThere" = some (.ref Cn)
  gR : mg "Refused" = some (.ref Cr)
  gT : mg "TooMuch" = some (.ref Ct)
/-- c is the i-th of the five -/
structure Er1 (K : PySem.W.Frag) (Ce Co Cm Cn Cr Ct c : Addr) (i : Nat) : Prop where
  kO : PySem.W.kitOne K (.ref c) (.ref Co) = some (decide (i = 0))
  kM : PySem.W.kitOne K (.ref c) (.ref Cm) = some (decide (i = 1))
  kN : PySem.W.kitOne K (.ref c) (.ref Cn) = some (decide (i = 2))
  kR : PySem.W.kitOne K (.ref c) (.ref Cr) = some (decide (i = 3))
  kT : PySem.W.kitOne K (.ref c) (.ref Ct) = some (decide (i = 4))
  ex : ExcC K c
  em : PySem.W.exmOne K (.ref c) (.ref Ce) = some true
def words : List Str := ["range", "form", "none", "refused", "much"]
section
variable {P : Program} {w : World} {K : PySem.W.Frag} {mg : Str → Option Value} {base : Heap}
theorem sc_word : FnScope ["e", "kinds", "one"] ["e"] (defScope s__law_word) := ⟨rfl, rfl, rfl, by decide +kernel, rfl, by decide +kernel, by decide +kernel⟩
theorem ok_word {f Ce Co Cm Cn Cr Ct c : Addr} {i : Nat} {x : Str} {fd : FuncData} (F : Fun K "_law_word" "_law_word" s__law_word f fd) (T : Txt0 mg) (R : Ers K mg Ce Co Cm Cn Cr Ct) (R1 : Er1 K Ce Co Cm Cn Cr Ct c i) (hx : words[i]? = some x) : GE.FnW P w K mg base CX0 1 f fd ["e"] (Zw c) (spWord x) := by
  refine GE.Fun.okW F sc_word (fun a vs H Q E h => ?_) (fun cdv A outer s H vs Q E p hot hz hB hr h => ?_)
  · rw [h.1]
    rfl
  obtain ⟨rfl, go⟩ := h
  have nd := sc_word.nd
  have isP : CallR (L2H.cxH CX0 P w K mg base ["e", "kinds", "one"] "_law_word" (defScope s__law_word) f cdv A outer s H E p) (.builtin "isinstance") (rIsE K c p.1) := GE.call_isP (oe := p.2) R1.ex List.mem_cons_self hz.1 hz.2
  refine ⟨_, (pss_cons (ps_set (i := 1) nd rfl (.inl rfl) (pe_lst (pa_cons (pe_callB isP (by rfl) T.B.isinstance (by decide +kernel) (pa_cons (pv 0) (pa_cons (pe_glob (v := .ref Co) (by rfl) R.gO rfl) pa_nil))) (pa_cons (pe_callB isP (by rfl) T.B.isinstance (by decide +kernel) (pa_cons (pv 0) (pa_cons (pe_glob (v := .ref Cm) (by rfl) R.gM rfl) pa_nil))) (pa_cons (pe_callB isP (by rfl) T.B.isinstance (by decide +kernel) (pa_cons (pv 0) (pa_cons (pe_glob (v := .ref Cn) (by rfl) R.gN rfl) pa_nil))) (pa_cons (pe_callB isP (by rfl) T.B.isinstance (by decide +kernel) (pa_cons (pv 0) (pa_cons (pe_glob (v := .ref Cr) (by rfl) R.gR rfl) pa_nil))) (pa_cons (pe_callB isP (by rfl) T.B.isinstance (by decide +kernel) (pa_cons (pv 0) (pa_cons (pe_glob (v := .ref Ct) (by rfl) R.gT rfl) pa_nil))) pa_nil)))))))
    (pss_cons (ps_if (pt_cmpR op_ne (pe_callB call_len_seq (by rfl) T.B.len (by decide +kernel) (pa_cons (GE.pe_lcTrue (own := [("one", 2)]) (i := 2) hB nd (pv 1) (blkOk_by (N := ["e", "kinds", "one"]) (sc := defScope s__law_word) (by decide +kernel)) (by decide) (by show 2 < 3; decide) (fun _ _ _ _ _ => (pg_name (i := 2) nd rfl (.inl rfl))) (fun _ _ _ _ _ => (pts_one (pt_val (pv 2)))) (fun _ _ _ _ _ => (pv 2))) pa_nil)) pe_int (nomark _)) 
      (pss_one (ps_ret pe_str)) pss_nil)
    (pss_one (ps_ret (pe_ix ix_list (pe_lst (pa_cons pe_str (pa_cons pe_str (pa_cons pe_str (pa_cons pe_str (pa_cons pe_str pa_nil)))))) (pe_bm PySem.F.plainAttrs_list PySem.F.slot_list_index PySem.F.type_list_index mt_index (pv 1) (pa_cons pe_bl pa_nil)) (fun _ _ => rfl)))))), ?_⟩
  have rv : ∀ {c : Addr} (u : Value), RelV (.ref c) u → u = .ref c := fun u r => r
  refine ⟨_, rfl, _, _, _, rfl, rv, R1.kO, ?_⟩
  refine ⟨_, rfl, _, _, _, rfl, rv, R1.kM, ?_⟩
  refine ⟨_, rfl, _, _, _, rfl, rv, R1.kN, ?_⟩
  refine ⟨_, rfl, _, _, _, rfl, rv, R1.kR, ?_⟩
  refine ⟨_, rfl, _, _, _, rfl, rv, R1.kT, ?_⟩
  have hi : i = 0 ∨ i = 1 ∨ i = 2 ∨ i = 3 ∨ i = 4 := by
    have := (List.getElem?_eq_some_iff.mp hx).1
    have l : words.length = 5 := rfl
    omega
  have at1 : [decide (i = 0), decide (i = 1), decide (i = 2), decide (i = 3), decide (i = 4)][i]? = some true := by rcases hi with rfl | rfl | rfl | rfl | rfl <;> rfl
  have fil : [decide (i = 0), decide (i = 1), decide (i = 2), decide (i = 3), decide (i = 4)].filter id = [true] := by rcases hi with rfl | rfl | rfl | rfl | rfl <;> rfl
  have lo : ∀ m, m < i → [decide (i = 0), decide (i = 1), decide (i = 2), decide (i = 3), decide (i = 4)][m]? = some false := fun m hm => by
    match m, hm with
    | 0, hm => exact congrArg some (decide_eq_false (by omega))
    | 1, hm => exact congrArg some (decide_eq_false (by omega))
    | 2, hm => exact congrArg some (decide_eq_false (by omega))
    | 3, hm => exact congrArg some (decide_eq_false (by omega))
    | m + 4, hm => omega
  generalize decide (i = 0) = b0 at at1 fil lo ⊢
  generalize decide (i = 1) = b1 at at1 fil lo ⊢
  generalize decide (i = 2) = b2 at at1 fil lo ⊢
  generalize decide (i = 3) = b3 at at1 fil lo ⊢
  generalize decide (i = 4) = b4 at at1 fil lo ⊢
  refine ⟨(by show 5 ≤ sizeLine; decide), fun l hl => ?_⟩
  have k1 : Kp H (upd H l (.lst ([b0, b1, b2, b3, b4].map V.bl))) [] := Kp.new hl
  have hl1 : upd H l (.lst ([b0, b1, b2, b3, b4].map V.bl)) l = some (.lst ([b0, b1, b2, b3, b4].map V.bl)) := upd_same
  refine ⟨_, rfl, l, [b0, b1, b2, b3, b4], rfl, SqL.of hl1, fun D hD => ?_⟩
  rw [fil]
  change upd H l (.lst ([b0, b1, b2, b3, b4].map V.bl)) D = none at hD
  show ∃ (a : Addr) (xs : List V), _
  refine ⟨D, [.bl true], rfl, .inl (SqL.of upd_same), ?_⟩
  have k2 : Kp (upd H l (.lst ([b0, b1, b2, b3, b4].map V.bl))) (upd (upd H l (.lst ([b0, b1, b2, b3, b4].map V.bl))) D (.lst [.bl true])) [] := Kp.new hD
  have hl2 := k2.lst hl1 (by simp)
  refine ⟨rfl, _, rfl, ?_⟩
  refine ⟨(by show 5 ≤ sizeLine; decide), fun l2 hl3 => ?_⟩
  have k3 := k2.then (Kp.new (o := .lst [.str "range", .str "form", .str "none", .str "refused", .str "much"]) hl3)
  refine ⟨_, rfl, .inl ⟨rfl, _, SqL.of (k3.lst hl1 (by simp))⟩, l, [b0, b1, b2, b3, b4].map V.bl, .bl true, i, .bl true, rfl, rfl, SqL.of (k3.lst hl1 (by simp)), rfl, rfl, by rw [List.getElem?_map, at1]; rfl, rfl, fun m z' hm e => ?_, ?_⟩
  · rw [List.getElem?_map, lo m hm] at e
    cases e
    rfl
  · have wv : [V.str "range", .str "form", .str "none", .str "refused", .str "much"][i]? = some (.str x) := by
      have : (words.map V.str)[i]? = some (.str x) := by rw [List.getElem?_map, hx]; rfl
      exact this
    exact ⟨l2, _, i, _, rfl, rfl, SqL.of upd_same, at_of (j := i) rfl wv, go _ (k1.then k3)⟩
end
end K05

set_option Elab.async false
set_option maxRecDepth 100000
set_option maxHeartbeats 4000000
set_option linter.all false
set_option pp.maxSteps 3000
namespace K05
open PySem L2 DL TM
def toldO : Option Tm → PyData
  | some t => tmD t
  | none => .str "form"
theorem toldO_s {t : Tm} : toldO (some t) = tmD t := rfl
theorem toldO_n : toldO none = .str "form" := rfl
def spTold : DSp := fun as k _ => ∃ (i : Int) (sig : List Op) (d : PyData) (o : Option Tm), as = [.d (.int i), .d (sigD sig), .d d] ∧ NsD d o ∧ k (toldO (if i = 0 then rdO sig o else rpO sig o)) []
def wd1 (Cm : Addr) (c : Addr) : Option Str := if c = Cm then some "form" else none
section
variable {P : Program} {w : World} {K : PySem.W.Frag} {mg : Str → Option Value} {base : Heap} {tabs : List Addr}
theorem sc__law_told : FnScope ["which", "signature", "text", "e"] ["which", "signature", "text"] (defScope s__law_told) := ⟨rfl, rfl, rfl, by decide +kernel, rfl, by decide +kernel, by decide +kernel⟩
theorem ok_told {f f1 f2 f5 Ce Co Cm Cn Cr Ct : Addr} {fd fd1 fd2 fd5 : FuncData} (F : Fun K "_law_told" "_law_told" s__law_told f fd) (T : Txt0 mg) (R : Ers K mg Ce Co Cm Cn Cr Ct) (em : PySem.W.exmOne K (.ref Cm) (.ref Ce) = some true)
    (G_read : FnOk P w K mg base (L2N.CX P w) 210 f1 fd1 ["signature", "text"] (spD K tabs (spReadT Cm))) (F_read : Fun K "read" "read" s_read f1 fd1) (b_read : Binds K fd1 ["signature", "text"] []) (g_read : mg "read" = some (.ref f1))
    (G_read_pattern : FnOk P w K mg base (L2N.CX P w) 210 f2 fd2 ["signature", "text"] (spD K tabs (spReadP Cm))) (F_read_pattern : Fun K "read_pattern" "read_pattern" s_read_pattern f2 fd2) (b_read_pattern : Binds K fd2 ["signature", "text"] []) (g_read_pattern : mg "read_pattern" = some (.ref f2))
    (G_word : GE.FnW P w K mg base CX0 1 f5 fd5 ["e"] (Zw Cm) (spWord "form")) (k_word : PySem.W.keepIn K (.ref f5) = true) (b_word : Binds K fd5 ["e"] []) (g_word : mg "_law_word" = some (.ref f5)) :
    FnOk P w K mg base CX0 211 f fd ["which", "signature", "text"] (spD K tabs spTold) := by
  refine Fun.okD F sc__law_told (fun as k W ⟨_, _, _, _, e, _⟩ => by rw [e]; rfl) fun cdv A outer s H E M B W xs mh bh hr => ?_
  have nd := sc__law_told.nd
  have hr1 := hr.mono (show 1 ≤ 210 by decide)
  have ew : ∀ c w, wd1 Cm c = some w → c = Cm ∧ w = "form" := fun c w h => by
    unfold wd1 at h
    split at h
    · cases h; exact ⟨by assumption, rfl⟩
    · cases h
  have Gw : ∀ c x, wd1 Cm c = some x → GE.FnW P w K mg base CX0 1 f5 fd5 ["e"] (Zw c) (spWord x) := fun c x h => by
    obtain ⟨e1, e2⟩ := ew c x h
    rw [e1, e2]
    exact G_word
  refine ⟨_, _, (pdb_one (pds_try (i := 3) (wd := wd1 Cm) (ce := Ce) (ts := fun a w => tWd 3 a w) (sw := dWd) rfl rfl nd rfl rfl ⟨by rfl, by decide, .inl R.gE⟩ (fun c w h => by rw [(ew c w h).1]; exact em)
    (fun W pn xe tk => px_if (pdt_cmp op_eq od_eqF (pd_var (pv 0)) pd_int (nomark _)) (px_call G_read hr (by rfl) g_read F_read.kp b_read tk (pda_cons (pd_var (pv 1)) (pda_cons (pd_var (pv 2)) pda_nil))) (px_call G_read_pattern hr (by rfl) g_read_pattern F_read_pattern.kp b_read_pattern tk (pda_cons (pd_var (pv 1)) (pda_cons (pd_var (pv 2)) pda_nil))))
    (fun c w a oe pn h hz hf => pz_word (x := w) (Gw c w h) hr1 hz hf nd rfl (.inl rfl) (by rfl) g_word k_word b_word (hv := pv 3)) (fun w a => rw_word))), ?_⟩
  rintro _ k ⟨i, sig, d, o, rfl, hN, hk⟩
  simp [Ds, dRaise, mkRho, nOw, sgn, dYes, wipeR, back]
  have wm : wd1 Cm Cm = some "form" := if_pos rfl
  by_cases h0 : i = 0
  · rw [decide_eq_true h0]
    rw [if_pos h0] at hk
    simp [Ds, dRaise, mkRho, nOw, sgn, dYes, wipeR, back]
    refine ⟨sig, d, o, rfl, hN, ?_⟩
    cases ho : rdO sig o with
    | none => exact ⟨_, wm, by simp, by rw [ho] at hk; exact hk⟩
    | some t => rw [ho] at hk; exact hk
  · rw [decide_eq_false h0]
    rw [if_neg h0] at hk
    simp [Ds, dRaise, mkRho, nOw, sgn, dYes, wipeR, back]
    refine ⟨sig, d, o, rfl, hN, ?_⟩
    cases ho : rpO sig o with
    | none => exact ⟨_, wm, by simp, by rw [ho] at hk; exact hk⟩
    | some t => rw [ho] at hk; exact hk
end
end K05

set_option Elab.async false
set_option maxRecDepth 100000
set_option maxHeartbeats 4000000
set_option linter.all false
set_option pp.maxSteps 3000
namespace K05
open PySem L2 DL TM
def spSig : DSp := fun as k _ => ∃ ns : List Int, as = [.ow (ns.map .int)] ∧ ∀ (sig : List Op) (ns' : List Int), SigOk sig → k (sigD sig) [ns'.map .int]
section
variable {P : Program} {w : World} {K : PySem.W.Frag} {mg : Str → Option Value} {base : Heap} {tabs : List Addr}
theorem sc__law_signature : FnScope ["draws", "sorts", "rows", "k", "ins", "sort", "place"] ["draws"] (defScope s__law_signature) := ⟨rfl, rfl, rfl, by decide +kernel, rfl, by decide +kernel, by decide +kernel⟩
theorem ok_signature {f f1 : Addr} {fd fd1 : FuncData} (F : Fun K "_law_signature" "_law_signature" s__law_signature f fd) (T : Txt0 mg)
    (G__law_take : FnOk P w K mg base CX0 1 f1 fd1 ["draws", "bound"] (spD K tabs spTake)) (F__law_take : Fun K "_law_take" "_law_take" s__law_take f1 fd1) (b__law_take : Binds K fd1 ["draws", "bound"] []) (g__law_take : mg "_law_take" = some (.ref f1)) :
    FnOk P w K mg base CX0 2 f fd ["draws"] (spD K tabs spSig) := by
  refine Fun.okD F sc__law_signature (fun as k W ⟨_, e, _⟩ => by rw [e]; rfl) fun cdv A outer s H E M B W xs mh bh hr1 => ?_
  have nd := sc__law_signature.nd
  have hv : (A.deeper (PyProof.Rows.envOfC "_law_signature" (defScope s__law_signature) s.heap.objs.size f cdv)).units + 64 < cLine := by
    have := hr1.un
    omega
  refine ⟨_, _, (pdb_cons (pds_setN (i := 1) nd rfl (.inr rfl) (pd_slice (GK.slLK K) sd_list (pd_frz (pf_lst (pda_cons pd_str (pda_cons pd_str pda_nil)))) pdo_none (pdo_some (pd_op op_add od_int pd_int (pd_call G__law_take hr1 (by rfl) g__law_take F__law_take.kp b__law_take (pda_cons (pd_var (pv 0)) (pda_cons pd_int pda_nil)))))))
    (pdb_cons (pds_ownN (i := 2) nd rfl (.inl rfl) (pf_cat (pd_frz (pf_lc (own := [("sort", 5)]) rfl nd (pdi_list (pd_var (pv 1))) (blkOk_by (N := ["draws", "sorts", "rows", "k", "ins", "sort", "place"]) (sc := defScope s__law_signature) (by decide +kernel)) (fun _ _ _ _ _ => (pdg_name (pg_name (i := 5) nd rfl (.inl rfl)))) gw_name (fun _ _ _ _ _ => pdts_nil) (fun _ _ _ _ _ => (pd_tup (pda_cons (pd_op op_add_str od_addS pd_str (pd_var (pv 5))) (pda_cons (pd_tup pda_nil) (pda_cons (pd_var (pv 5)) pda_nil))))) s)) (pd_frz (pf_lc (own := [("sort", 5)]) rfl nd (pdi_list (pd_var (pv 1))) (blkOk_by (N := ["draws", "sorts", "rows", "k", "ins", "sort", "place"]) (sc := defScope s__law_signature) (by decide +kernel)) (fun _ _ _ _ _ => (pdg_name (pg_name (i := 5) nd rfl (.inl rfl)))) gw_name (fun _ _ _ _ _ => pdts_nil) (fun _ _ _ _ _ => (pd_tup (pda_cons (pd_op op_add_str od_addS pd_str (pd_var (pv 5))) (pda_cons (pd_tup pda_nil) (pda_cons (pd_var (pv 5)) pda_nil))))) s))))
    (pdb_cons (pds_for PassesOwn.never rfl (pdi_range1 (by rfl) T.B.range (pda_cons (pd_op op_add od_int pd_int (pd_call G__law_take hr1 (by rfl) g__law_take F__law_take.kp b__law_take (pda_cons (pd_var (pv 0)) (pda_cons pd_int pda_nil)))) pda_nil)) (pdg_name (pg_name (i := 3) nd rfl (.inl rfl))) 
      (pdb_cons (pds_setN (i := 4) nd rfl (.inl rfl) (pd_callTy (GK.tupOfK K) cd_tupOf (by rfl) T.B.tuple (by decide +kernel) (pda_cons (pd_frz (pf_lc (own := [("place", 6)]) rfl nd (pdi_range1 (by rfl) T.B.range (pda_cons (pd_op op_add od_int pd_int (pd_call G__law_take hr1 (by rfl) g__law_take F__law_take.kp b__law_take (pda_cons (pd_var (pv 0)) (pda_cons pd_int pda_nil)))) pda_nil)) (blkOk_by (N := ["draws", "sorts", "rows", "k", "ins", "sort", "place"]) (sc := defScope s__law_signature) (by decide +kernel)) (fun _ _ _ _ _ => (pdg_name (pg_name (i := 6) nd rfl (.inl rfl)))) gw_name (fun _ _ _ _ _ => pdts_nil) (fun _ _ _ _ _ => (pd_ix (GK.ixQK K) od_ix (pd_var (pv 1)) (pd_call G__law_take hr1 (by rfl) g__law_take F__law_take.kp b__law_take (pda_cons (pd_var (pv 0)) (pda_cons (pd_callB (GK.lenK K) cd_len (by rfl) T.B.len (by decide +kernel) (pda_cons (pd_var (pv 1)) pda_nil)) pda_nil))) (fun _ _ => rfl))) s)) pda_nil)))
      (pdb_one (pds_expr (pd_appN (pv 2) (pd_tup (pda_cons (pd_ix (GK.ixQK K) od_ix pd_str (pd_var (pv 3)) (fun _ _ => rfl)) (pda_cons (pd_var (pv 4)) (pda_cons (pd_ix (GK.ixQK K) od_ix (pd_var (pv 1)) (pd_call G__law_take hr1 (by rfl) g__law_take F__law_take.kp b__law_take (pda_cons (pd_var (pv 0)) (pda_cons (pd_callB (GK.lenK K) cd_len (by rfl) T.B.len (by decide +kernel) (pda_cons (pd_var (pv 1)) pda_nil)) pda_nil))) (fun _ _ => rfl)) pda_nil)))))))))
    (pdb_one (pds_ret (pd_callTy (GK.tupOfK K) cd_tupOf (by rfl) T.B.tuple (by decide +kernel) (pda_cons (pd_callB (sortedDK K hv) cd_sorted (by rfl) T.B.sorted (by decide +kernel) (pda_cons (pd_var (pv 2)) pda_nil)) pda_nil))))))), ?_⟩
  rintro _ k ⟨ns, rfl, hk⟩
  simp [Ds, dRaise, mkRho, nOw, sgn, dYes, wipeR, back]
  refine ⟨by decide, by simp, ns, 2, rfl, by decide, fun j ns1 hj => ?_⟩
  obtain ⟨b, hb⟩ : ∃ b, cutD [PyData.str "num", PyData.str "t"] none (some (1 + (j : Int))) = (sortsL b).map PyData.str := by
    match j, hj with
    | 0, _ => exact ⟨false, rfl⟩
    | 1, _ => exact ⟨true, rfl⟩
  simp [Ds, dRaise, mkRho, nOw, sgn, dYes, wipeR, back]
  rw [show cutD [PyData.str (Str.ofString "num"), PyData.str (Str.ofString "t")] none (some (1 + (j : Int))) = (sortsL b).map PyData.str from hb]
  have hsl : 1 ≤ (sortsL b).length ∧ (sortsL b).length ≤ 2 := by cases b <;> decide
  have hlen : ∀ x ∈ sortsL b, x.length ≤ 5 := by cases b <;> decide
  have big : 100 < sizeLine := by decide
  refine ⟨fun i acc ρ => ρ = [some (.ow (.lst (some 0) (ns1.map .int))), some (.d (.list ((sortsL b).map .str))), none, none, none, none, none] ∧ acc = ((sortsL b).take i).map fun s => rowD (Str.ofString "c" ++ s, [], s), ⟨rfl, rfl⟩, ?_, ?_⟩
  · rintro i x acc ρ hx ⟨rfl, rfl⟩
    rw [List.getElem?_map] at hx
    obtain ⟨r, hr, rfl⟩ := Option.map_eq_some_iff.mp hx
    have hrl := hlen r (List.mem_of_getElem? hr)
    have hi := (List.getElem?_eq_some_iff.mp hr).1
    simp [Ds, dRaise, mkRho, nOw, sgn, dYes, wipeR, back]
    refine ⟨by show 1 + _ ≤ _; omega, by decide, by omega, ?_⟩
    rw [List.take_add_one, List.getElem?_map, hr]
    rfl
  rintro acc ρ ⟨rfl, rfl⟩
  simp [Ds, dRaise, mkRho, nOw, sgn, dYes, wipeR, back]
  refine ⟨fun i acc ρ => ρ = [some (.ow (.lst (some 0) (ns1.map .int))), some (.d (.list ((sortsL b).map .str))), none, none, none, none, none] ∧ acc = ((sortsL b).take i).map fun s => rowD (Str.ofString "d" ++ s, [], s), ⟨rfl, rfl⟩, ?_, ?_⟩
  · rintro i x acc ρ hx ⟨rfl, rfl⟩
    rw [List.getElem?_map] at hx
    obtain ⟨r, hr, rfl⟩ := Option.map_eq_some_iff.mp hx
    have hrl := hlen r (List.mem_of_getElem? hr)
    have hi := (List.getElem?_eq_some_iff.mp hr).1
    simp [Ds, dRaise, mkRho, nOw, sgn, dYes, wipeR, back]
    refine ⟨by show 1 + _ ≤ _; omega, by decide, by omega, ?_⟩
    rw [List.take_add_one, List.getElem?_map, hr]
    rfl
  rintro acc ρ ⟨rfl, rfl⟩
  have er : (sortsL b).map (fun s => rowD (Str.ofString "c" ++ s, [], s)) ++ (sortsL b).map (fun s => rowD (Str.ofString "d" ++ s, [], s)) = (leafRows b).map rowD := by
    unfold leafRows
    rw [List.map_append, List.map_map, List.map_map]
    rfl
  simp [Ds, dRaise, mkRho, nOw, sgn, dYes, wipeR, back]
  rw [er]
  refine ⟨by omega, by simp, ns1, 4, rfl, by decide, fun j2 ns2 hj2 => ?_⟩
  simp [Ds, dRaise, mkRho, nOw, sgn, dYes, wipeR, back]
  refine ⟨⟨by omega, by omega⟩, fun i ρ => ∃ (ns : List Int) (rs : List Op) (x3 x4 : Option DV), ρ = [some (.ow (.lst (some 0) (ns.map .int))), some (.d (.list ((sortsL b).map .str))), some (.ow (.lst none (rs.map rowD))), x3, x4, none, none] ∧ RowsOk b i rs, ⟨ns2, _, none, none, rfl, rows_start b⟩, ?_, ?_⟩
  · rintro i x _ hx ⟨ns3, rs, x3, x4, rfl, hR⟩
    obtain ⟨hi, rfl⟩ := ints_at hx
    simp [Ds, dRaise, mkRho, nOw, sgn, dYes, wipeR, back]
    refine ⟨by simp, ns3, 3, rfl, by decide, fun j3 ns4 hj3 => ?_⟩
    simp [Ds, dRaise, mkRho, nOw, sgn, dYes, wipeR, back]
    refine ⟨⟨by omega, by omega⟩, fun m acc ρ => ∃ (ns : List Int) (ins : List Str), ρ = [some (.ow (.lst (some 0) (ns.map .int))), some (.d (.list ((sortsL b).map .str))), some (.ow (.lst none (rs.map rowD))), some (.d (.int (i : Int))), x4, none, none] ∧ acc = ins.map .str ∧ ins.length = m ∧ ∀ s ∈ ins, s ∈ sortsL b, ⟨ns4, [], rfl, rfl, rfl, fun _ m => nomatch m⟩, ?_, ?_⟩
    · rintro m x acc ρ hx ⟨ns5, ins, rfl, rfl, hm, hs⟩
      obtain ⟨hm2, rfl⟩ := ints_at hx
      simp [Ds, dRaise, mkRho, nOw, sgn, dYes, wipeR, back]
      refine ⟨by simp, ns5, _, rfl, by omega, fun j4 ns6 hj4 => ?_⟩
      have at4 : atI ((sortsL b).map PyData.str) (j4 : Int) = some (.str (sortsL b)[j4]) := atI_nat (by rw [List.getElem?_map, List.getElem?_eq_getElem hj4]; rfl)
      simp [Ds, dRaise, mkRho, nOw, sgn, dYes, wipeR, back]
      rw [at4]
      simp [Ds, dRaise, mkRho, nOw, sgn, dYes, wipeR, back]
      exact ⟨by omega, ⟨ns6, rfl⟩, ins ++ [(sortsL b)[j4]], by simp, by simp; omega, fun s m => (List.mem_append.mp m).elim (hs s) fun m => by rw [List.mem_singleton.mp m]; exact List.getElem_mem ..⟩
    · rintro acc ρ ⟨ns5, ins, rfl, rfl, hm, hs⟩
      rw [ints_len] at hm
      simp [Ds, dRaise, mkRho, nOw, sgn, dYes, wipeR, back]
      obtain ⟨c, hn, hat⟩ : ∃ c : Nat, fghk[i]? = some (⟨#[c]⟩ : Str) ∧ atI (Str.ofString "fghk").cps.toList (i : Int) = some c := by
        have : i = 0 ∨ i = 1 ∨ i = 2 ∨ i = 3 := by omega
        rcases this with rfl | rfl | rfl | rfl
        · exact ⟨102, rfl, by decide +kernel⟩
        · exact ⟨103, rfl, by decide +kernel⟩
        · exact ⟨104, rfl, by decide +kernel⟩
        · exact ⟨107, rfl, by decide +kernel⟩
      refine ⟨by decide, ?_⟩
      rw [hat]
      simp [Ds, dRaise, mkRho, nOw, sgn, dYes, wipeR, back]
      refine ⟨by simp, ns5, _, rfl, by omega, fun j4 ns6 hj4 => ?_⟩
      have at4 : atI ((sortsL b).map PyData.str) (j4 : Int) = some (.str (sortsL b)[j4]) := atI_nat (by rw [List.getElem?_map, List.getElem?_eq_getElem hj4]; rfl)
      simp [Ds, dRaise, mkRho, nOw, sgn, dYes, wipeR, back]
      rw [at4]
      simp [Ds, dRaise, mkRho, nOw, sgn, dYes, wipeR, back]
      have hrl := hR.len
      exact ⟨by decide, by omega, ns6, rs ++ [(⟨#[c]⟩, ins, (sortsL b)[j4])], by simp [rowD], rows_next hR hn (by omega) hs (List.getElem_mem ..)⟩
  · rintro ρ ⟨ns3, rs, x3, x4, rfl, hR⟩
    rw [ints_len] at hR
    simp [Ds, dRaise, mkRho, nOw, sgn, dYes, wipeR, back]
    obtain ⟨rs', hp, e⟩ := rows_sorted rs
    rw [e]
    exact ⟨rows_srt rs, hk rs' ns3 ((rows_sig hR (by omega)).perm hp)⟩
end
end K05

set_option Elab.async false
set_option maxRecDepth 100000
set_option maxHeartbeats 4000000
set_option linter.all false
set_option pp.maxSteps 3000
namespace K05
open PySem L2 DL TM
def spTermL (D : Nat) : DSp := fun as k _ => ∃ (ns : List Int) (sig : List Op) (srt : Str) (dp : Nat), as = [.ow (ns.map .int), .d (sigD sig), .d (.str srt), .d (.int (dp : Int))] ∧ SigOk sig ∧ (∃ n, (n, [], srt) ∈ sig) ∧ dp ≤ D ∧ ∀ (t : Tm) (ns' : List Int), DT sig srt dp t → k (tmD t) [ns'.map .int]
section
variable {P : Program} {w : World} {K : PySem.W.Frag} {mg : Str → Option Value} {base : Heap} {tabs : List Addr}
theorem sc__law_term : FnScope ["draws", "signature", "sort", "deep", "rows", "leaves", "name", "ins", "out", "found", "inner", "row"] ["draws", "signature", "sort", "deep"] (defScope s__law_term) := ⟨rfl, rfl, rfl, by decide +kernel, rfl, by decide +kernel, by decide +kernel⟩
theorem ok_term_step {N : Nat} {f f1 f2 : Addr} {fd fd1 fd2 : FuncData} (F : Fun K "_law_term" "_law_term" s__law_term f fd) (T : Txt0 mg) (b__law_term : Binds K fd ["draws", "signature", "sort", "deep"] []) (g__law_term : mg "_law_term" = some (.ref f))
    (G__law_take : FnOk P w K mg base CX0 1 f1 fd1 ["draws", "bound"] (spD K tabs spTake)) (F__law_take : Fun K "_law_take" "_law_take" s__law_take f1 fd1) (b__law_take : Binds K fd1 ["draws", "bound"] []) (g__law_take : mg "_law_take" = some (.ref f1))
    (G__law_leaves : FnOk P w K mg base CX0 1 f2 fd2 ["signature", "sort"] (spD K tabs spLeaves)) (F__law_leaves : Fun K "_law_leaves" "_law_leaves" s__law_leaves f2 fd2) (b__law_leaves : Binds K fd2 ["signature", "sort"] []) (g__law_leaves : mg "_law_leaves" = some (.ref f2))
    (D : Nat) (hN : 1 ≤ N) (G__law_term : FnOk P w K mg base CX0 N f fd ["draws", "signature", "sort", "deep"] (spD K tabs fun as k W => ∃ D', D' + 1 = D ∧ spTermL D' as k W)) :
    FnOk P w K mg base CX0 (N + 1) f fd ["draws", "signature", "sort", "deep"] (spD K tabs (spTermL D)) := by
  refine Fun.okD F sc__law_term (fun as k W ⟨_, _, _, _, e, _⟩ => by rw [e]; rfl) fun cdv A outer s H E M B W xs mh bh hr => ?_
  have nd := sc__law_term.nd
  have F__law_term := F
  have hr1 := hr.mono hN
  have hv : (A.deeper (PyProof.Rows.envOfC "_law_term" (defScope s__law_term) s.heap.objs.size f cdv)).units + 64 < cLine := by
    have := hr1.un
    omega
  refine ⟨_, _, (pdb_cons (pds_setLc (i := 4) (own := [("row", 11)]) rfl nd rfl rfl (sw_true rfl rfl rfl (by decide +kernel)) (pdi_tup (pd_var (pv 1))) (blkOk_by (N := ["draws", "signature", "sort", "deep", "rows", "leaves", "name", "ins", "out", "found", "inner", "row"]) (sc := defScope s__law_term) (by decide +kernel)) (fun _ _ _ _ _ => (pdg_name (pg_name (i := 11) nd rfl (.inl rfl)))) gw_name (fun _ _ _ _ _ => (pdts_one (PDw.pt (pdw_and (pdt_cmp op_eq od_eqF (pd_ix (GK.ixQK K) od_ix (pd_var (pv 11)) pd_int (fun _ _ => rfl)) (pd_var (pv 2)) (nomark _)) (pdw_and1 (pdt_cmp (GK.neDK K hv) od_neD (pd_ix (GK.ixQK K) od_ix (pd_var (pv 11)) pd_int (fun _ _ => rfl)) (pd_tup pda_nil) (nomark _))))))) (fun _ _ _ _ _ => (pd_var (pv 11))) s)
    (pdb_cons (pds_if (PDw.pt (pdw_or (pdt_cmp op_eq od_eqF (pd_var (pv 3)) pd_int (nomark _)) (pdw_or (pdt_cmp (GK.eqDK K hv) od_eqD (pd_var (pv 4)) (pd_frz (pf_lst pda_nil)) (nomark _)) (pdw_or1 (pdt_cmp op_eq od_eqF (pd_call G__law_take hr1 (by rfl) g__law_take F__law_take.kp b__law_take (pda_cons (pd_var (pv 0)) (pda_cons pd_int pda_nil))) pd_int (nomark _)))))) 
      (pdb_cons (pds_setN (i := 5) nd rfl (.inl rfl) (pd_op op_cat od_cat (pd_call G__law_leaves hr1 (by rfl) g__law_leaves F__law_leaves.kp b__law_leaves (pda_cons (pd_var (pv 1)) (pda_cons (pd_var (pv 2)) pda_nil))) (pd_op op_rep od_rep (pd_frz (pf_lst (pda_cons (pd_tup (pda_cons pd_str pda_nil)) pda_nil))) (pd_callTy call_int1 cd_int1 (by rfl) T.B.int (by decide +kernel) (pda_cons (pd_cmp op_eq od_eqF (pd_var (pv 2)) pd_str (nomark _)) pda_nil)))))
      (pdb_one (pds_ret (pd_ix (GK.ixQK K) od_ix (pd_var (pv 5)) (pd_call G__law_take hr1 (by rfl) g__law_take F__law_take.kp b__law_take (pda_cons (pd_var (pv 0)) (pda_cons (pd_callB (GK.lenK K) cd_len (by rfl) T.B.len (by decide +kernel) (pda_cons (pd_var (pv 5)) pda_nil)) pda_nil))) (fun _ _ => rfl))))) pdb_nil)
    (pdb_cons (pds_asg (pd_ix (GK.ixQK K) od_ix (pd_var (pv 4)) (pd_call G__law_take hr1 (by rfl) g__law_take F__law_take.kp b__law_take (pda_cons (pd_var (pv 0)) (pda_cons (pd_callB (GK.lenK K) cd_len (by rfl) T.B.len (by decide +kernel) (pda_cons (pd_var (pv 4)) pda_nil)) pda_nil))) (fun _ _ => rfl)) (pdg_tup (n := 3) rfl (pdgs_cons (pdg_name (pg_name (i := 6) nd rfl (.inl rfl))) (pdgs_cons (pdg_name (pg_name (i := 7) nd rfl (.inl rfl))) (pdgs_cons (pdg_name (pg_name (i := 8) nd rfl (.inl rfl))) pdgs_nil)))))
    (pdb_cons (pds_ownN (i := 9) nd rfl (.inl rfl) (pf_lst (pda_cons (pd_var (pv 6)) pda_nil)))
    (pdb_cons (pds_for PassesOwn.never rfl (pdi_tup (pd_var (pv 7))) (pdg_name (pg_name (i := 10) nd rfl (.inl rfl))) 
      (pdb_one (pds_expr (pd_appN (pv 9) (pd_call G__law_term hr (by rfl) g__law_term F__law_term.kp b__law_term (pda_cons (pd_var (pv 0)) (pda_cons (pd_var (pv 1)) (pda_cons (pd_var (pv 10)) (pda_cons (pd_op op_sub od_int (pd_var (pv 3)) pd_int) pda_nil)))))))))
    (pdb_one (pds_ret (pd_callTy (GK.tupOfK K) cd_tupOf (by rfl) T.B.tuple (by decide +kernel) (pda_cons (pd_var (pv 9)) pda_nil))))))))), ?_⟩
  rintro _ k ⟨ns, sig, srt, dp, rfl, hS, ⟨lf, hlf⟩, hd, hk⟩
  have hsl := hS.len
  have big : 1000 < sizeLine := by decide
  simp [Ds, dRaise, mkRho, nOw, sgn, dYes, wipeR, back, sigD]
  refine ⟨fun i acc ρ => ρ = [some (.ow (.lst (some 0) (ns.map .int))), some (.d (.tuple (sig.map rowD))), some (.d (.str srt)), some (.d (.int (dp : Int))), none, none, none, none, none, none, none, none] ∧ acc = (tRows (sig.take i) srt).map rowD, ⟨rfl, rfl⟩, ?_, ?_⟩
  · rintro i x acc ρ hx ⟨rfl, rfl⟩
    rw [List.getElem?_map] at hx
    obtain ⟨r, hr2, rfl⟩ := Option.map_eq_some_iff.mp hx
    have hmem : r ∈ sig := List.mem_of_getElem? hr2
    have hlen : (tRows (sig.take i) srt).length < sizeLine := by
      unfold tRows
      have := List.length_filter_le (fun r : Op => decide (r.2.2 = srt ∧ r.2.1 ≠ [])) (sig.take i)
      rw [List.length_take] at this
      omega
    have step : tRows (sig.take (i + 1)) srt = tRows (sig.take i) srt ++ (if r.2.2 = srt ∧ r.2.1 ≠ [] then [r] else []) := by
      unfold tRows
      rw [List.take_add_one, hr2, List.filter_append]
      congr 1
      by_cases h : r.2.2 = srt ∧ r.2.1 ≠ [] <;> simp [h]
    have rd : rowD r = .tuple [.str r.1, .tuple (r.2.1.map .str), .str r.2.2] := rfl
    simp [Ds, dRaise, mkRho, nOw, sgn, dYes, wipeR, back, rd]
    by_cases h1 : r.2.2 = srt
    · rw [decide_eq_true h1]
      simp [Ds, dRaise, mkRho, nOw, sgn, dYes, wipeR, back]
      refine ⟨shaped_ins hS hmem, by decide +kernel, ?_⟩
      rw [eqv_ins]
      by_cases h2 : r.2.1 = []
      · rw [decide_eq_true h2]
        rw [if_neg fun z => z.2 h2, List.append_nil] at step
        simp [Ds, dRaise, mkRho, nOw, sgn, dYes, wipeR, back]
        rw [step]
      · rw [decide_eq_false h2]
        rw [if_pos ⟨h1, h2⟩] at step
        simp [Ds, dRaise, mkRho, nOw, sgn, dYes, wipeR, back]
        rw [step, List.map_append]
        exact ⟨hlen, rfl⟩
    · rw [decide_eq_false h1]
      rw [if_neg fun z => h1 z.1, List.append_nil] at step
      simp [Ds, dRaise, mkRho, nOw, sgn, dYes, wipeR, back]
      rw [step]
  rintro acc ρ ⟨rfl, rfl⟩
  have e1 : (sig.take (sig.map rowD).length) = sig := by rw [List.length_map, List.take_length]
  rw [e1]
  have hrows : SeqAt.shaped (.list ((tRows sig srt).map rowD)) = true := shaped_rows hS fun r m => (List.mem_filter.mp m).1
  have key : ∀ Q : Bool → Rho → Prop, (∀ ns' : List Int, Q true [some (.ow (.lst (some 0) (ns'.map .int))), some (.d (.tuple (sig.map rowD))), some (.d (.str srt)), some (.d (.int (dp : Int))), some (.d (.list ((tRows sig srt).map rowD))), none, none, none, none, none, none, none]) →
      (∀ ns' : List Int, dp ≠ 0 → tRows sig srt ≠ [] → Q false [some (.ow (.lst (some 0) (ns'.map .int))), some (.d (.tuple (sig.map rowD))), some (.d (.str srt)), some (.d (.int (dp : Int))), some (.d (.list ((tRows sig srt).map rowD))), none, none, none, none, none, none, none]) →
      orK (dOr (dB (dOp dEqD (dVar 4) (dFrz (dLst dNil)))) (dB (dOp dEqF (dCall spTake (fun x => False) (dCons (dVar 0) (dCons (dK (PyData.int 4)) dNil))) (dK (PyData.int 0))))) Q (decide (dp = 0)) [some (.ow (.lst (some 0) (ns.map .int))), some (.d (.tuple (sig.map rowD))), some (.d (.str srt)), some (.d (.int (dp : Int))), some (.d (.list ((tRows sig srt).map rowD))), none, none, none, none, none, none, none] := fun Q qT qF => by
    by_cases h0 : dp = 0
    · rw [decide_eq_true h0]
      simp [Ds, dRaise, mkRho, nOw, sgn, dYes, wipeR, back]
      exact qT ns
    · rw [decide_eq_false h0]
      simp [Ds, dRaise, mkRho, nOw, sgn, dYes, wipeR, back]
      refine ⟨hrows, by decide +kernel, ?_⟩
      rw [eqv_nil]
      by_cases h1 : tRows sig srt = []
      · rw [decide_eq_true (by rw [h1]; rfl)]
        simp [Ds, dRaise, mkRho, nOw, sgn, dYes, wipeR, back]
        exact qT ns
      · rw [decide_eq_false (fun z => h1 (List.map_eq_nil_iff.mp z))]
        simp [Ds, dRaise, mkRho, nOw, sgn, dYes, wipeR, back]
        refine ⟨by simp, ns, 4, rfl, by decide, fun j ns1 hj => ?_⟩
        simp [Ds, dRaise, mkRho, nOw, sgn, dYes, wipeR, back]
        by_cases h2 : j = 0
        · rw [decide_eq_true h2]
          exact qT ns1
        · rw [decide_eq_false h2]
          exact qF ns1 h0 h1
  simp [Ds, dRaise, mkRho, nOw, sgn, dYes, wipeR, back]
  refine key _ (fun ns1 => ?_) (fun ns1 h0 h1 => ?_)
  · simp [Ds, dRaise, mkRho, nOw, sgn, dYes, wipeR, back]
    refine ⟨.nil, sig, srt, rfl, by omega, fun r m => shaped_ins hS m, ?_⟩
    have hml : ∀ n ∈ leaves sig srt, (n, [], srt) ∈ sig := fun n m => by
      unfold leaves at m
      obtain ⟨r, hr, rfl⟩ := List.mem_map.mp m
      obtain ⟨h1, h2⟩ := List.mem_filter.mp hr
      have h2 := of_decide_eq_true h2
      obtain ⟨a, b, c⟩ := r
      obtain ⟨e1, e2⟩ := h2
      cases e1
      cases e2
      exact h1
    have hne : 0 < (leaves sig srt).length := by
      refine List.length_pos_iff.mpr fun z => ?_
      have : lf ∈ leaves sig srt := by
        unfold leaves
        exact List.mem_map.mpr ⟨_, List.mem_filter.mpr ⟨hlf, decide_eq_true ⟨rfl, rfl⟩⟩, rfl⟩
      rw [z] at this
      cases this
    have hll : (leaves sig srt).length ≤ 8 := by
      unfold leaves
      rw [List.length_map]
      exact Nat.le_trans (List.length_filter_le _ _) hsl
    have go : ∀ L : List Tm, 0 < L.length → L.length ≤ 9 → (∀ t ∈ L, DT sig srt dp t) → ∀ (Q : RV → Rho → Prop), (∀ t ns', DT sig srt dp t → Q (.d (tmD t)) [some (.ow (.lst (some 0) (List.map PyData.int ns'))), some (.d (.tuple (sig.map rowD))), some (.d (.str srt)), some (.d (.int (dp : Int))), some (.d (.list ((tRows sig srt).map rowD))), some (.d (.list (L.map tmD))), none, none, none, none, none, none]) →
        callK2 spTake (fun x => False) [AV.ow (List.map PyData.int ns1), AV.d (PyData.int (L.length : Int))] [0] [some (.ow (.lst (some 0) (List.map PyData.int ns1))), some (.d (.tuple (sig.map rowD))), some (.d (.str srt)), some (.d (.int (dp : Int))), some (.d (.list ((tRows sig srt).map rowD))), some (.d (.list (L.map tmD))), none, none, none, none, none, none] (opK2 dIx Q (RV.d (PyData.list (L.map tmD)))) := fun L h0 h9 hL Q hQ => by
      refine ⟨by simp, ns1, _, rfl, h0, fun j ns2 hj => ?_⟩
      have at4 : atI (L.map tmD) (j : Int) = some (tmD L[j]) := atI_nat (by rw [List.getElem?_map, List.getElem?_eq_getElem hj]; rfl)
      simp [Ds, dRaise, mkRho, nOw, sgn, dYes, wipeR, back]
      rw [at4]
      simp [Ds, dRaise, mkRho, nOw, sgn, dYes, wipeR, back]
      exact hQ L[j] ns2 (hL _ (List.getElem_mem ..))
    have eL : (leaves sig srt).map (fun n => PyData.tuple [.str n]) = ((leaves sig srt).map fun n => Tm.mk n []).map tmD := by
      rw [List.map_map]
      rfl
    rw [eL]
    simp [Ds, dRaise, mkRho, nOw, sgn, dYes, wipeR, back]
    by_cases hnum : srt = Str.ofString "num"
    · have g := go ((leaves sig srt).map (fun n => Tm.mk n []) ++ [Tm.mk "7" []]) (by simp) (by simp; omega) (fun t m => by
        rcases List.mem_append.mp m with m | m
        · obtain ⟨n, hn, rfl⟩ := List.mem_map.mp m
          exact .leaf (hml n hn)
        · rw [List.mem_singleton.mp m, hnum]
          exact .num) (dEnd 1 k) fun t ns' ht => by
            simp [Ds, dRaise, mkRho, nOw, sgn, dYes, wipeR, back]
            exact hk t ns' ht
      simp only [if_pos hnum]
      refine ⟨by decide, by decide, by decide, by decide, by show _ + 1 ≤ _; omega, ?_⟩
      rw [List.map_append, List.length_append, List.length_map, List.map_map] at g
      exact g
    · have g := go ((leaves sig srt).map (fun n => Tm.mk n [])) (by simp; omega) (by simp; omega) (fun t m => by
        obtain ⟨n, hn, rfl⟩ := List.mem_map.mp m
        exact .leaf (hml n hn)) (dEnd 1 k) fun t ns' ht => by
            simp [Ds, dRaise, mkRho, nOw, sgn, dYes, wipeR, back]
            exact hk t ns' ht
      simp only [if_neg hnum]
      refine ⟨by decide, by decide, by decide, by decide, by show _ + 0 ≤ _; omega, ?_⟩
      rw [List.length_map, List.map_map] at g
      show callK2 _ _ [_, AV.d (PyData.int (((leaves sig srt).length : Int) + 0))] _ [_, _, _, _, _, some (.d (.list (_ ++ []))), none, none, none, none, none, none] (opK2 dIx (dEnd 1 k) (RV.d (.list (_ ++ []))))
      rw [Int.add_zero, List.append_nil]
      exact g
  · simp [Ds, dRaise, mkRho, nOw, sgn, dYes, wipeR, back]
    refine ⟨by simp, ns1, _, rfl, List.length_pos_iff.mpr h1, fun j ns2 hj => ?_⟩
    obtain ⟨r, hr2⟩ : ∃ r, (tRows sig srt)[j]? = some r := ⟨_, List.getElem?_eq_getElem hj⟩
    have at4 : atI ((tRows sig srt).map rowD) (j : Int) = some (rowD r) := atI_nat (by rw [List.getElem?_map, hr2]; rfl)
    obtain ⟨hmem, hcond⟩ := List.mem_filter.mp (List.mem_of_getElem? hr2)
    obtain ⟨e1, e2⟩ := of_decide_eq_true hcond
    have hins := hS.ar r hmem
    obtain ⟨nm, ins, out⟩ := r
    simp only at e1 e2 hins
    subst e1
    have rd : rowD (nm, ins, out) = .tuple [.str nm, .tuple (ins.map .str), .str out] := rfl
    simp [Ds, dRaise, mkRho, nOw, sgn, dYes, wipeR, back]
    rw [at4]
    simp [Ds, dRaise, mkRho, nOw, sgn, dYes, wipeR, back, rd]
    refine ⟨by decide, fun i ρ => ∃ (ns : List Int) (args : List Tm) (x : Option DV), ρ = [some (.ow (.lst (some 0) (ns.map .int))), some (.d (.tuple (sig.map rowD))), some (.d (.str out)), some (.d (.int (dp : Int))), some (.d (.list ((tRows sig out).map rowD))), none, some (.d (.str nm)), some (.d (.tuple (ins.map .str))), some (.d (.str out)), some (.ow (.lst none (.str nm :: tmsD args))), x, none] ∧ DTs sig (ins.take i) (dp - 1) args, ⟨ns2, [], none, rfl, by rw [List.take_zero]; exact .nil⟩, ?_, ?_⟩
    · rintro i x _ hx ⟨ns3, args, x0, rfl, hA⟩
      rw [List.getElem?_map] at hx
      obtain ⟨s, hs, rfl⟩ := Option.map_eq_some_iff.mp hx
      have hal := hA.len
      rw [List.length_take] at hal
      simp [Ds, dRaise, mkRho, nOw, sgn, dYes, wipeR, back]
      refine ⟨by simp, D - 1, by omega, ns3, sig, s, dp - 1, by rw [show ((dp - 1 : Nat) : Int) = (dp : Int) - 1 by omega]; rfl, hS, hS.lf _ hmem s (.inr (List.mem_of_getElem? hs)), by omega, fun t ns4 ht => ?_⟩
      simp [Ds, dRaise, mkRho, nOw, sgn, dYes, wipeR, back]
      refine ⟨by rw [tmsD_length]; omega, ns4, args ++ [t], ⟨rfl, by rw [tmsD_app]; rfl⟩, ?_⟩
      rw [List.take_add_one, hs]
      exact hA.snoc ht
    · rintro ρ ⟨ns3, args, x0, rfl, hA⟩
      rw [List.length_map, List.take_length] at hA
      simp [Ds, dRaise, mkRho, nOw, sgn, dYes, wipeR, back]
      obtain ⟨d', hd'⟩ : ∃ d', dp = d' + 1 := ⟨dp - 1, by omega⟩
      refine hk (.mk nm args) ns3 ?_
      rw [hd'] at hA ⊢
      exact .node hmem e2 hA
theorem ok_term {f f1 f2 : Addr} {fd fd1 fd2 : FuncData} (F : Fun K "_law_term" "_law_term" s__law_term f fd) (T : Txt0 mg) (b__law_term : Binds K fd ["draws", "signature", "sort", "deep"] []) (g__law_term : mg "_law_term" = some (.ref f))
    (G__law_take : FnOk P w K mg base CX0 1 f1 fd1 ["draws", "bound"] (spD K tabs spTake)) (F__law_take : Fun K "_law_take" "_law_take" s__law_take f1 fd1) (b__law_take : Binds K fd1 ["draws", "bound"] []) (g__law_take : mg "_law_take" = some (.ref f1))
    (G__law_leaves : FnOk P w K mg base CX0 1 f2 fd2 ["signature", "sort"] (spD K tabs spLeaves)) (F__law_leaves : Fun K "_law_leaves" "_law_leaves" s__law_leaves f2 fd2) (b__law_leaves : Binds K fd2 ["signature", "sort"] []) (g__law_leaves : mg "_law_leaves" = some (.ref f2)) :
    ∀ D : Nat, FnOk P w K mg base CX0 (2 + D) f fd ["draws", "signature", "sort", "deep"] (spD K tabs (spTermL D))
  | 0 => ok_term_step F T b__law_term g__law_term G__law_take F__law_take b__law_take g__law_take G__law_leaves F__law_leaves b__law_leaves g__law_leaves 0 (Nat.le_refl _) (okNever fun _ _ _ ⟨_, e, _⟩ => nomatch e)
  | D + 1 => ok_term_step F T b__law_term g__law_term G__law_take F__law_take b__law_take g__law_take G__law_leaves F__law_leaves b__law_leaves g__law_leaves (D + 1) (by show 1 ≤ 2 + D; omega) (okImp (ok_term F T b__law_term g__law_term G__law_take F__law_take b__law_take g__law_take G__law_leaves F__law_leaves b__law_leaves g__law_leaves D) fun _ _ _ ⟨D', e, h⟩ => by
    have : D' = D := by omega
    rw [← this]
    exact h)
end
end K05

set_option Elab.async false
set_option maxRecDepth 100000
set_option maxHeartbeats 8000000
set_option linter.all false
set_option pp.maxSteps 3000
namespace K05
open PySem L2 DL TM
mutual
theorem nd_tm : ∀ {t : Tm} {D : Nat}, sz t ≤ 100000 → dep t ≤ D → Nd D (tmD t)
  | .mk n args, D, hs, hd => by
    rw [sz] at hs
    rw [dep] at hd
    obtain ⟨D', rfl⟩ : ∃ D', D = D' + 1 := ⟨D - 1, by omega⟩
    have := len_szs args
    rw [tmD]
    refine .tup (by rw [List.length_cons, tmsD_length]; omega) fun d m => ?_
    rcases List.mem_cons.mp m with rfl | m
    · exact .str
    · exact nd_tms (by omega) (by omega) d m
theorem nd_tms : ∀ {ts : List Tm} {D : Nat}, szs ts ≤ 100000 → deps ts ≤ D → ∀ d ∈ tmsD ts, Nd D d
  | [], _, _, _, d, m => by rw [tmsD] at m; cases m
  | t :: ts, D, hs, hd, d, m => by
    rw [szs] at hs
    rw [deps] at hd
    rw [tmsD] at m
    rcases List.mem_cons.mp m with rfl | m
    · exact nd_tm (by omega) (by omega)
    · exact nd_tms (by omega) (by omega) d m
end
def sortsOf (sig : List Op) : List Str := (sig.filter fun r => decide (r.2.1 = [])).map (·.2.2)
def optT : Option Tm → PyData
  | some u => tmD u
  | none => .none
theorem optT_s {u : Tm} : optT (some u) = tmD u := rfl
theorem optT_n : optT none = .none := rfl
theorem whole_all (o : Option (Tm × List Nat)) : wholeO o = optT (allO o) := by
  cases o with
  | none => rfl
  | some x =>
    obtain ⟨u, r⟩ := x
    show (if r = [] then tmD u else .none) = optT (if r = [] then some u else none)
    by_cases h : r = []
    · rw [if_pos h, if_pos h]; rfl
    · rw [if_neg h, if_neg h]; rfl
theorem isNon_tm (u : Tm) : isNon (tmD u) = false := by
  cases u
  rw [tmD]
  rfl
/-- a term of a bearable size -/
structure Sm (t : Tm) : Prop where
  nm : nm4 t
  dp : dep t ≤ 5
  sz : sz t ≤ 121
theorem Sm.len {t : Tm} (h : Sm t) : (wr t).length ≤ 1000 ∧ cntL (ch (wr t)) ≤ 121 := by
  have := wr_meas h.nm
  have := h.sz
  rw [len_ch]
  omega
theorem Sm.nsd {t : Tm} (h : Sm t) : NsD (.str (wr t)) (some t) := by
  obtain ⟨o, ho⟩ := Ns.ex (wr t)
  have l := h.len
  rw [← Ns.ok ho h.nm.ok (by rw [lpar_ch]; omega)]
  exact .inl ⟨_, rfl, by omega, ho⟩
theorem Sm.nd {t : Tm} (h : Sm t) : Nd 207 (tmD t) := nd_tm (Nat.le_trans h.sz (by decide)) (Nat.le_trans h.dp (by decide))
theorem Sm.shaped {t : Tm} (h : Sm t) : SeqAt.shaped (tmD t) = true := shaped_tm h.nm (Nat.le_trans h.dp (by decide))
theorem DT.sm {sig : List Op} (hS : SigOk sig) {srt : Str} {t : Tm} (h : DT sig srt 4 t) : Sm t := let ⟨a, b, c⟩ := h.meas hS; ⟨a, b, c⟩
theorem Hol.sm {t p : Tm} (h : Hol t p) (g : Sm t) : Sm p := by
  obtain ⟨a, b, c⟩ := h.meas g.nm
  exact ⟨a, by rw [c]; exact g.dp, by rw [b]; exact g.sz⟩
def badD : List PyData := .none :: .int 5 :: .tuple [.str "c"] :: badS.map .str
theorem bad_nsd {x : PyData} (m : x ∈ badD) : NsD x none := by
  rcases List.mem_cons.mp m with rfl | m
  · exact .inr ⟨fun _ e => (nomatch e), rfl⟩
  rcases List.mem_cons.mp m with rfl | m
  · exact .inr ⟨fun _ e => (nomatch e), rfl⟩
  rcases List.mem_cons.mp m with rfl | m
  · exact .inr ⟨fun _ e => (nomatch e), rfl⟩
  obtain ⟨z, hz, rfl⟩ := List.mem_map.mp m
  exact .inl ⟨z, rfl, bad_len z hz, bad_ns hz⟩
section
variable {P : Program} {w : World} {K : PySem.W.Frag} {mg : Str → Option Value} {base : Heap} {tabs : List Addr}
theorem sc_law : FnScope ["script", "draws", "signature", "sorts", "turn", "term", "text", "pattern", "shown", "good", "step", "k", "sign", "bent", "found", "due", "bad", "row", "value"] ["script"] (defScope s_law) := ⟨rfl, rfl, rfl, by decide +kernel, rfl, by decide +kernel, by decide +kernel⟩
theorem ok_law {f fr : Addr} {fd fdr : FuncData} (F : Fun K "law" "law" s_law f fd) (T : Txt0 mg)
    (G__law_draws : FnOk P w K mg base CX0 1 fr fdr ["script"] (spDrawsH K)) (F__law_draws : Fun K "_law_draws" "_law_draws" s__law_draws fr fdr) (b__law_draws : Binds K fdr ["script"] []) (g__law_draws : mg "_law_draws" = some (.ref fr))
    {f1 f2 f3 f4 f5 f6 f7 f8 f9 f10 f11 : Addr} {fd1 fd2 fd3 fd4 fd5 fd6 fd7 fd8 fd9 fd10 fd11 : FuncData}
    (G__law_take : FnOk P w K mg base CX0 1 f1 fd1 ["draws", "bound"] (spD K tabs spTake)) (F__law_take : Fun K "_law_take" "_law_take" s__law_take f1 fd1) (b__law_take : Binds K fd1 ["draws", "bound"] []) (g__law_take : mg "_law_take" = some (.ref f1))
    (G__law_signature : FnOk P w K mg base CX0 2 f2 fd2 ["draws"] (spD K tabs spSig)) (F__law_signature : Fun K "_law_signature" "_law_signature" s__law_signature f2 fd2) (b__law_signature : Binds K fd2 ["draws"] []) (g__law_signature : mg "_law_signature" = some (.ref f2))
    (G__law_term : FnOk P w K mg base CX0 6 f3 fd3 ["draws", "signature", "sort", "deep"] (spD K tabs (spTermL 4))) (F__law_term : Fun K "_law_term" "_law_term" s__law_term f3 fd3) (b__law_term : Binds K fd3 ["draws", "signature", "sort", "deep"] []) (g__law_term : mg "_law_term" = some (.ref f3))
    (G__law_text : FnOk P w K mg base CX0 202 f4 fd4 ["term"] (spD K tabs (spText 201))) (F__law_text : Fun K "_law_text" "_law_text" s__law_text f4 fd4) (b__law_text : Binds K fd4 ["term"] []) (g__law_text : mg "_law_text" = some (.ref f4))
    (G_write : FnOk P w K mg base CX0 202 f5 fd5 ["term"] (spD K tabs (spWrite 201))) (F_write : Fun K "write" "write" s_write f5 fd5) (b_write : Binds K fd5 ["term"] []) (g_write : mg "write" = some (.ref f5))
    (G__law_alike : FnOk P w K mg base CX0 209 f6 fd6 ["found", "due"] (spD K tabs (spAlike 208))) (F__law_alike : Fun K "_law_alike" "_law_alike" s__law_alike f6 fd6) (b__law_alike : Binds K fd6 ["found", "due"] []) (g__law_alike : mg "_law_alike" = some (.ref f6))
    (G__law_told : FnOk P w K mg base CX0 211 f7 fd7 ["which", "signature", "text"] (spD K tabs spTold)) (F__law_told : Fun K "_law_told" "_law_told" s__law_told f7 fd7) (b__law_told : Binds K fd7 ["which", "signature", "text"] []) (g__law_told : mg "_law_told" = some (.ref f7))
    (G__law_holed : FnOk P w K mg base CX0 7 f8 fd8 ["draws", "term", "often"] (spD K tabs (spHoled 5))) (F__law_holed : Fun K "_law_holed" "_law_holed" s__law_holed f8 fd8) (b__law_holed : Binds K fd8 ["draws", "term", "often"] []) (g__law_holed : mg "_law_holed" = some (.ref f8))
    (G_is_term : FnOk P w K mg base CX0 207 f9 fd9 ["signature", "value"] (spD K tabs (spTerm 201))) (F_is_term : Fun K "is_term" "is_term" s_is_term f9 fd9) (b_is_term : Binds K fd9 ["signature", "value"] []) (g_is_term : mg "is_term" = some (.ref f9))
    (G_is_pattern : FnOk P w K mg base CX0 208 f10 fd10 ["signature", "value"] (spD K tabs (spIsPat 201))) (F_is_pattern : Fun K "is_pattern" "is_pattern" s_is_pattern f10 fd10) (b_is_pattern : Binds K fd10 ["signature", "value"] []) (g_is_pattern : mg "is_pattern" = some (.ref f10))
    (G__law_whole : FnOk P w K mg base CX0 203 f11 fd11 ["text"] (spD K tabs (spWhole 200))) (F__law_whole : Fun K "_law_whole" "_law_whole" s__law_whole f11 fd11) (b__law_whole : Binds K fd11 ["text"] []) (g__law_whole : mg "_law_whole" = some (.ref f11)) :
    FnOk P w K mg base CX0 212 f fd ["script"] (spLaw K tabs) := by
  refine Fun.okLaw F sc_law (by decide) fun cdv A outer s H E W xs mh bh hr => ?_
  have nd := sc_law.nd
  have hrd := hr.mono (show 1 ≤ 211 by decide)
  have hr1 := hr.mono (show 1 ≤ 211 by decide)
  have hr2 := hr.mono (show 2 ≤ 211 by decide)
  have hr6 := hr.mono (show 6 ≤ 211 by decide)
  have hr7 := hr.mono (show 7 ≤ 211 by decide)
  have hr209 := hr.mono (show 209 ≤ 211 by decide)
  have hr202 := hr.mono (show 202 ≤ 211 by decide)
  have hr203 := hr.mono (show 203 ≤ 211 by decide)
  have hr207 := hr.mono (show 207 ≤ 211 by decide)
  have hr208 := hr.mono (show 208 ≤ 211 by decide)
  have hv : (A.deeper (PyProof.Rows.envOfC "law" (defScope s_law) s.heap.objs.size f cdv)).units + 64 < cLine := by
    have := hr.un
    omega
  refine ⟨_, _, _, _, rfl, (ps_set (i := 1) nd rfl (.inl rfl) (pe_call G__law_draws hrd (by rfl) g__law_draws F__law_draws.kp b__law_draws .nil pass0 (pa_cons (pv 0) pa_nil))), (pdb_cons (pds_setN (i := 2) nd rfl (.inr rfl) (pd_call G__law_signature hr2 (by rfl) g__law_signature F__law_signature.kp b__law_signature (pda_cons (pd_var (pv 1)) pda_nil)))
    (pdb_cons (pds_setLc (i := 3) (own := [("row", 17)]) rfl nd rfl rfl (sw_true rfl rfl rfl (by decide +kernel)) (pdi_tup (pd_var (pv 2))) (blkOk_by (N := ["script", "draws", "signature", "sorts", "turn", "term", "text", "pattern", "shown", "good", "step", "k", "sign", "bent", "found", "due", "bad", "row", "value"]) (sc := defScope s_law) (by decide +kernel)) (fun _ _ _ _ _ => (pdg_name (pg_name (i := 17) nd rfl (.inl rfl)))) gw_name (fun _ _ _ _ _ => (pdts_one (pdt_cmp (GK.eqDK K hv) od_eqD (pd_ix (GK.ixQK K) od_ix (pd_var (pv 17)) pd_int (fun _ _ => rfl)) (pd_tup pda_nil) (nomark _)))) (fun _ _ _ _ _ => (pd_ix (GK.ixQK K) od_ix (pd_var (pv 17)) pd_int (fun _ _ => rfl))) s)
    (pdb_cons (pds_for PassesOwn.never rfl (pdi_range1 (by rfl) T.B.range (pda_cons pd_int pda_nil)) (pdg_name (pg_name (i := 4) nd rfl (.inl rfl))) 
      (pdb_cons (pds_setN (i := 5) nd rfl (.inl rfl) (pd_call G__law_term hr6 (by rfl) g__law_term F__law_term.kp b__law_term (pda_cons (pd_var (pv 1)) (pda_cons (pd_var (pv 2)) (pda_cons (pd_ix (GK.ixQK K) od_ix (pd_var (pv 3)) (pd_call G__law_take hr1 (by rfl) g__law_take F__law_take.kp b__law_take (pda_cons (pd_var (pv 1)) (pda_cons (pd_callB (GK.lenK K) cd_len (by rfl) T.B.len (by decide +kernel) (pda_cons (pd_var (pv 3)) pda_nil)) pda_nil))) (fun _ _ => rfl)) (pda_cons pd_int pda_nil))))))
      (pdb_cons (pds_setN (i := 6) nd rfl (.inl rfl) (pd_call G__law_text hr202 (by rfl) g__law_text F__law_text.kp b__law_text (pda_cons (pd_var (pv 5)) pda_nil)))
      (pdb_cons (pds_if (PDw.pt (pdw_or (pdt_not (pdt_val (pd_call G__law_alike hr209 (by rfl) g__law_alike F__law_alike.kp b__law_alike (pda_cons (pd_frz (pf_lst (pda_cons (pd_call G_write hr202 (by rfl) g_write F_write.kp b_write (pda_cons (pd_var (pv 5)) pda_nil)) (pda_cons (pd_call G__law_told hr (by rfl) g__law_told F__law_told.kp b__law_told (pda_cons pd_int (pda_cons (pd_var (pv 2)) (pda_cons (pd_var (pv 6)) pda_nil)))) pda_nil)))) (pda_cons (pd_frz (pf_lst (pda_cons (pd_var (pv 6)) (pda_cons (pd_var (pv 5)) pda_nil)))) pda_nil))))) (pdw_or1 (pdt_cmp (GK.neDK K hv) od_neD (pd_call G__law_told hr (by rfl) g__law_told F__law_told.kp b__law_told (pda_cons pd_int (pda_cons (pd_var (pv 2)) (pda_cons (pd_var (pv 6)) pda_nil)))) (pd_var (pv 5)) (nomark _))))) 
        (pdb_one (pds_ret pd_bl)) pdb_nil)
      (pdb_cons (pds_setN (i := 7) nd rfl (.inl rfl) (pd_call G__law_holed hr7 (by rfl) g__law_holed F__law_holed.kp b__law_holed (pda_cons (pd_var (pv 1)) (pda_cons (pd_var (pv 5)) (pda_cons pd_int pda_nil)))))
      (pdb_cons (pds_setN (i := 8) nd rfl (.inl rfl) (pd_call G__law_text hr202 (by rfl) g__law_text F__law_text.kp b__law_text (pda_cons (pd_var (pv 7)) pda_nil)))
      (pdb_cons (pds_setN (i := 9) nd rfl (.inl rfl) (pd_ifExp (pdt_val (pd_call G_is_pattern hr208 (by rfl) g_is_pattern F_is_pattern.kp b_is_pattern (pda_cons (pd_var (pv 2)) (pda_cons (pd_var (pv 7)) pda_nil)))) (pd_var (pv 7)) pd_str))
      (pdb_cons (pds_if (PDw.pt (pdw_or (pdt_cmp op_ne od_neF (pd_call G_write hr202 (by rfl) g_write F_write.kp b_write (pda_cons (pd_var (pv 7)) pda_nil)) (pd_var (pv 8)) (nomark _)) (pdw_or1 (pdt_not (pdt_val (pd_call G__law_alike hr209 (by rfl) g__law_alike F__law_alike.kp b__law_alike (pda_cons (pd_call G__law_told hr (by rfl) g__law_told F__law_told.kp b__law_told (pda_cons pd_int (pda_cons (pd_var (pv 2)) (pda_cons (pd_var (pv 8)) pda_nil)))) (pda_cons (pd_var (pv 9)) pda_nil)))))))) 
        (pdb_one (pds_ret pd_bl)) pdb_nil)
      (pdb_cons (pds_if (PDw.pt (pdw_and (pdt_cmp (GK.neDK K hv) od_neD (pd_var (pv 7)) (pd_var (pv 5)) (nomark _)) (pdw_and1 (pdt_cmp (GK.neDK K hv) od_neD (pd_call G__law_told hr (by rfl) g__law_told F__law_told.kp b__law_told (pda_cons pd_int (pda_cons (pd_var (pv 2)) (pda_cons (pd_var (pv 8)) pda_nil)))) pd_str (nomark _))))) 
        (pdb_one (pds_ret pd_bl)) pdb_nil)
      (pdb_one (pds_for PassesOwn.never rfl (pdi_range1 (by rfl) T.B.range (pda_cons pd_int pda_nil)) (pdg_name (pg_name (i := 10) nd rfl (.inl rfl))) 
        (pdb_cons (pds_setN (i := 11) nd rfl (.inl rfl) (pd_call G__law_take hr1 (by rfl) g__law_take F__law_take.kp b__law_take (pda_cons (pd_var (pv 1)) (pda_cons (pd_op op_add od_int (pd_callB call_len_str cd_lenS (by rfl) T.B.len (by decide +kernel) (pda_cons (pd_var (pv 6)) pda_nil)) pd_int) pda_nil))))
        (pdb_cons (pds_setN (i := 12) nd rfl (.inl rfl) (pd_ix (GK.ixQK K) od_ix pd_str (pd_call G__law_take hr1 (by rfl) g__law_take F__law_take.kp b__law_take (pda_cons (pd_var (pv 1)) (pda_cons pd_int pda_nil))) (fun _ _ => rfl)))
        (pdb_cons (pds_setN (i := 13) nd rfl (.inl rfl) (pd_ix (GK.ixQK K) od_ix (pd_frz (pf_lst (pda_cons (pd_op op_add_str od_addS (pd_op op_add_str od_addS (pd_slice sl_str sd_str (pd_var (pv 6)) pdo_none (pdo_some (pd_var (pv 11)))) (pd_var (pv 12))) (pd_slice sl_str sd_str (pd_var (pv 6)) (pdo_some (pd_var (pv 11))) pdo_none)) (pda_cons (pd_op op_add_str od_addS (pd_slice sl_str sd_str (pd_var (pv 6)) pdo_none (pdo_some (pd_var (pv 11)))) (pd_slice sl_str sd_str (pd_var (pv 6)) (pdo_some (pd_op op_add od_int (pd_var (pv 11)) pd_int)) pdo_none)) (pda_cons (pd_op op_add_str od_addS (pd_op op_add_str od_addS (pd_slice sl_str sd_str (pd_var (pv 6)) pdo_none (pdo_some (pd_var (pv 11)))) (pd_var (pv 12))) (pd_slice sl_str sd_str (pd_var (pv 6)) (pdo_some (pd_op op_add od_int (pd_var (pv 11)) pd_int)) pdo_none)) pda_nil))))) (pd_call G__law_take hr1 (by rfl) g__law_take F__law_take.kp b__law_take (pda_cons (pd_var (pv 1)) (pda_cons pd_int pda_nil))) (fun _ _ => rfl)))
        (pdb_cons (pds_setN (i := 14) nd rfl (.inl rfl) (pd_call G__law_whole hr203 (by rfl) g__law_whole F__law_whole.kp b__law_whole (pda_cons (pd_var (pv 13)) pda_nil)))
        (pdb_cons (pds_setN (i := 15) nd rfl (.inl rfl) (pd_ifExp (PDw.pt (pdw_and (pdt_cmp op_notN od_notN (pd_var (pv 14)) pd_non (nomark _)) (pdw_and1 (pdt_val (pd_call G_is_term hr207 (by rfl) g_is_term F_is_term.kp b_is_term (pda_cons (pd_var (pv 2)) (pda_cons (pd_var (pv 14)) pda_nil))))))) (pd_var (pv 14)) pd_str))
        (pdb_one (pds_if (pdt_not (pdt_val (pd_call G__law_alike hr209 (by rfl) g__law_alike F__law_alike.kp b__law_alike (pda_cons (pd_call G__law_told hr (by rfl) g__law_told F__law_told.kp b__law_told (pda_cons pd_int (pda_cons (pd_var (pv 2)) (pda_cons (pd_var (pv 13)) pda_nil)))) (pda_cons (pd_var (pv 15)) pda_nil))))) 
          (pdb_one (pds_ret pd_bl)) pdb_nil))))))))))))))))))
    (pdb_cons (pds_setN (i := 16) nd rfl (.inl rfl) (pd_frz (pf_lst (pda_cons pd_non (pda_cons pd_int (pda_cons (pd_tup (pda_cons pd_str pda_nil)) (pda_cons pd_str (pda_cons pd_str (pda_cons pd_str (pda_cons pd_str (pda_cons pd_str (pda_cons pd_str (pda_cons pd_str (pda_cons pd_str (pda_cons pd_str (pda_cons pd_str (pda_cons pd_str (pda_cons pd_str (pda_cons pd_str pda_nil)))))))))))))))))))
    (pdb_one (pds_ret (pd_cmp (GK.eqDK K hv) od_eqD (pd_frz (pf_lc (own := [("value", 18)]) rfl nd (pdi_list (pd_var (pv 16))) (blkOk_by (N := ["script", "draws", "signature", "sorts", "turn", "term", "text", "pattern", "shown", "good", "step", "k", "sign", "bent", "found", "due", "bad", "row", "value"]) (sc := defScope s_law) (by decide +kernel)) (fun _ _ _ _ _ => (pdg_name (pg_name (i := 18) nd rfl (.inl rfl)))) gw_name (fun _ _ _ _ _ => (pdts_one (PDw.pt (pdw_or (pdt_cmp (GK.neDK K hv) od_neD (pd_call G__law_told hr (by rfl) g__law_told F__law_told.kp b__law_told (pda_cons pd_int (pda_cons (pd_var (pv 2)) (pda_cons (pd_var (pv 18)) pda_nil)))) pd_str (nomark _)) (pdw_or1 (pdt_cmp (GK.neDK K hv) od_neD (pd_call G__law_told hr (by rfl) g__law_told F__law_told.kp b__law_told (pda_cons pd_int (pda_cons (pd_var (pv 2)) (pda_cons (pd_var (pv 18)) pda_nil)))) pd_str (nomark _))))))) (fun _ _ _ _ _ => (pd_var (pv 18))) s)) (pd_frz (pf_lst pda_nil)) (nomark _)))))))), ?_⟩
  intro ms hms
  have big : 200000 < sizeLine := by decide
  simp [lawRho, List.replicate, Ds, dRaise, mkRho, nOw, sgn, dYes, wipeR, back]
  refine ⟨by decide, ms, rfl, fun sig ns1 hS => ?_⟩
  have hsl := hS.len
  simp [Ds, dRaise, mkRho, nOw, sgn, dYes, wipeR, back, sigD]
  refine ⟨fun i acc ρ => ρ = [none, some (.ow (.lst none (ns1.map .int))), some (.d (.tuple (sig.map rowD))), none, none, none, none, none, none, none, none, none, none, none, none, none, none, none, none] ∧ acc = (sortsOf (sig.take i)).map .str, ⟨rfl, rfl⟩, ?_, ?_⟩
  · rintro i x acc ρ hx ⟨rfl, rfl⟩
    rw [List.getElem?_map] at hx
    obtain ⟨r, hr2, rfl⟩ := Option.map_eq_some_iff.mp hx
    have hmem : r ∈ sig := List.mem_of_getElem? hr2
    have hlen : (sortsOf (sig.take i)).length < sizeLine := by
      unfold sortsOf
      rw [List.length_map]
      have := List.length_filter_le (fun r : Op => decide (r.2.1 = [])) (sig.take i)
      rw [List.length_take] at this
      omega
    have step : sortsOf (sig.take (i + 1)) = sortsOf (sig.take i) ++ (if r.2.1 = [] then [r.2.2] else []) := by
      unfold sortsOf
      rw [List.take_add_one, hr2, List.filter_append, List.map_append]
      congr 1
      by_cases h : r.2.1 = [] <;> simp [h]
    have rd : rowD r = .tuple [.str r.1, .tuple (r.2.1.map .str), .str r.2.2] := rfl
    simp [Ds, dRaise, mkRho, nOw, sgn, dYes, wipeR, back, rd]
    refine ⟨shaped_ins hS hmem, by decide +kernel, ?_⟩
    rw [eqv_ins]
    by_cases h2 : r.2.1 = []
    · rw [decide_eq_true h2]
      rw [if_pos h2] at step
      simp [Ds, dRaise, mkRho, nOw, sgn, dYes, wipeR, back]
      rw [step, List.map_append]
      exact ⟨hlen, rfl⟩
    · rw [decide_eq_false h2]
      rw [if_neg h2, List.append_nil] at step
      simp [Ds, dRaise, mkRho, nOw, sgn, dYes, wipeR, back]
      rw [step]
  rintro acc ρ ⟨rfl, rfl⟩
  rw [show sig.take (sig.map rowD).length = sig by rw [List.length_map, List.take_length]]
  have hso : ∀ s ∈ sortsOf sig, ∃ n, (n, [], s) ∈ sig := fun s m => by
    obtain ⟨r, hr, rfl⟩ := List.mem_map.mp m
    obtain ⟨h1, h2⟩ := List.mem_filter.mp hr
    obtain ⟨a, b, c⟩ := r
    have h2 : b = [] := of_decide_eq_true h2
    subst h2
    exact ⟨a, h1⟩
  have hs0 : 0 < (sortsOf sig).length := by
    obtain ⟨r, hr⟩ : ∃ r, r ∈ sig := List.exists_mem_of_ne_nil _ hS.ne
    obtain ⟨n, hn⟩ := hS.lf r hr r.2.2 (.inl rfl)
    refine List.length_pos_of_mem (a := r.2.2) ?_
    unfold sortsOf
    exact List.mem_map.mpr ⟨_, List.mem_filter.mpr ⟨hn, decide_eq_true rfl⟩, rfl⟩
  simp [Ds, dRaise, mkRho, nOw, sgn, dYes, wipeR, back]
  refine ⟨fun _ ρ => ∃ (ns : List Int) (x4 x5 x6 x7 x8 x9 x10 x11 x12 x13 x14 x15 : Option DV), ρ = [none, some (.ow (.lst none (ns.map .int))), some (.d (.tuple (sig.map rowD))), some (.d (.list ((sortsOf sig).map .str))), x4, x5, x6, x7, x8, x9, x10, x11, x12, x13, x14, x15, none, none, none], ⟨ns1, none, none, none, none, none, none, none, none, none, none, none, none, rfl⟩, ?_, ?_⟩
  · rintro i x _ hx ⟨ns2, x4, x5, x6, x7, x8, x9, x10, x11, x12, x13, x14, x15, rfl⟩
    simp [Ds, dRaise, mkRho, nOw, sgn, dYes, wipeR, back]
    refine ⟨by simp, ns2, _, rfl, hs0, fun j ns3 hj => ?_⟩
    have at1 : atI ((sortsOf sig).map PyData.str) (j : Int) = some (.str (sortsOf sig)[j]) := atI_nat (by rw [List.getElem?_map, List.getElem?_eq_getElem hj]; rfl)
    simp [Ds, dRaise, mkRho, nOw, sgn, dYes, wipeR, back]
    rw [at1]
    simp [Ds, dRaise, mkRho, nOw, sgn, dYes, wipeR, back]
    refine ⟨by simp, ns3, sig, _, 4, rfl, hS, hso _ (List.getElem_mem hj), Nat.le_refl _, fun t ns4 ht => ?_⟩
    have hT := ht.term hS
    have hm := DT.sm hS ht
    have hml := hm.len
    have tf : (if isTerm sig (tmD t) = true then some t else none) = some t := if_pos hT
    simp [Ds, dRaise, mkRho, nOw, sgn, dYes, wipeR, back]
    refine ⟨.nil, t, rfl, Nat.le_trans hm.dp (by decide), by omega, ?_⟩
    simp [Ds, dRaise, mkRho, nOw, sgn, dYes, wipeR, back]
    refine ⟨.nil, t, rfl, Nat.le_trans hm.dp (by decide), by omega, ?_⟩
    simp [Ds, dRaise, mkRho, nOw, sgn, dYes, wipeR, back]
    refine ⟨.nil, 0, sig, .str (wr t), some t, rfl, hm.nsd, ?_⟩
    rw [if_pos rfl, show rdO sig (some t) = some t from tf, toldO_s]
    simp [Ds, dRaise, mkRho, nOw, sgn, dYes, wipeR, back]
    refine ⟨by decide, .nil, _, rfl, .lst (by simp) (fun d m => ?_), ?_⟩
    · simp only [List.mem_cons, List.not_mem_nil, or_false] at m
      rcases m with rfl | rfl
      · exact .str
      · exact hm.nd
    simp [Ds, dRaise, mkRho, nOw, sgn, dYes, wipeR, back]
    refine ⟨.nil, 1, sig, .str (wr t), some t, rfl, hm.nsd, ?_⟩
    rw [if_neg (by decide), show rpO sig (some t) = some t from if_pos (ht.isPat hS), toldO_s]
    simp [Ds, dRaise, mkRho, nOw, sgn, dYes, wipeR, back]
    refine ⟨hm.shaped, ?_⟩
    rw [(eqv_tm t t).mpr rfl]
    simp [Ds, dRaise, mkRho, nOw, sgn, dYes, wipeR, back]
    refine ⟨by simp, ns4, t, 2, rfl, by decide, hm.dp, by omega, fun p ns5 hH => ?_⟩
    have hp := Hol.sm hH hm
    have hpl := hp.len
    simp [Ds, dRaise, mkRho, nOw, sgn, dYes, wipeR, back]
    refine ⟨.nil, p, rfl, Nat.le_trans hp.dp (by decide), by omega, ?_⟩
    simp [Ds, dRaise, mkRho, nOw, sgn, dYes, wipeR, back]
    refine ⟨.nil, sig, tmD p, rfl, fit_tm p (Nat.le_trans hp.dp (by decide)) (by omega), ?_⟩
    have gd : (cond (isPat sig (tmD p)) (tmD p) (PyData.str "form")) = toldO (rpO sig (some p)) := by
      show _ = toldO (if isPat sig (tmD p) = true then some p else none)
      cases isPat sig (tmD p) <;> rfl
    have gn : Nd 208 (toldO (rpO sig (some p))) := by
      rw [← gd]
      cases isPat sig (tmD p)
      · exact .str
      · exact nd_tm (Nat.le_trans hp.sz (by decide)) (Nat.le_trans hp.dp (by decide))
    have key : ∀ (Q : RV → Rho → Prop) (ρ : Rho), Q (.d (toldO (rpO sig (some p)))) ρ → ρ[7]? = some (some (.d (tmD p))) → ifeK (dVar 7) (dK (PyData.str (Str.ofString "form"))) Q (isPat sig (tmD p)) ρ := fun Q ρ h e => by
      rw [← gd] at h
      cases hb : isPat sig (tmD p) with
      | true =>
        rw [hb] at h
        simp [Ds, dRaise, mkRho, nOw, sgn, dYes, wipeR, back]
        rw [e]
        exact h
      | false =>
        rw [hb] at h
        simp [Ds, dRaise, mkRho, nOw, sgn, dYes, wipeR, back]
        exact h
    simp [Ds, dRaise, mkRho, nOw, sgn, dYes, wipeR, back]
    refine key _ _ ?_ rfl
    simp [Ds, dRaise, mkRho, nOw, sgn, dYes, wipeR, back]
    refine ⟨.nil, p, rfl, Nat.le_trans hp.dp (by decide), by omega, ?_⟩
    simp [Ds, dRaise, mkRho, nOw, sgn, dYes, wipeR, back]
    refine ⟨.nil, 1, sig, .str (wr p), some p, rfl, hp.nsd, ?_⟩
    rw [if_neg (by decide)]
    simp [Ds, dRaise, mkRho, nOw, sgn, dYes, wipeR, back]
    refine ⟨.nil, _, rfl, gn, ?_⟩
    simp [Ds, dRaise, mkRho, nOw, sgn, dYes, wipeR, back]
    refine ⟨hp.shaped, hm.shaped, ?_⟩
    have key2 : ∀ (Q : Bool → Rho → Prop) (x4 x5 x6 x7 x9 x10 x11 x12 x13 x14 x15 : Option DV), Q false [none, some (.ow (.lst none (ns5.map .int))), some (.d (.tuple (sig.map rowD))), some (.d (.list ((sortsOf sig).map .str))), x4, x5, x6, x7, some (.d (.str (wr p))), x9, x10, x11, x12, x13, x14, x15, none, none, none] →
        andK (dB (dOp dNeD (dCall spTold (fun x => False) (dCons (dK (PyData.int 0)) (dCons (dVar 2) (dCons (dVar 8) dNil)))) (dK (PyData.str (Str.ofString "form"))))) Q (!(tmD p).eqv (tmD t)) [none, some (.ow (.lst none (ns5.map .int))), some (.d (.tuple (sig.map rowD))), some (.d (.list ((sortsOf sig).map .str))), x4, x5, x6, x7, some (.d (.str (wr p))), x9, x10, x11, x12, x13, x14, x15, none, none, none] := fun Q x4 x5 x6 x7 x9 x10 x11 x12 x13 x14 x15 hq => by
      cases he : (tmD p).eqv (tmD t) with
      | true =>
        simp [Ds, dRaise, mkRho, nOw, sgn, dYes, wipeR, back]
        exact hq
      | false =>
        simp [Ds, dRaise, mkRho, nOw, sgn, dYes, wipeR, back]
        refine ⟨.nil, 0, sig, .str (wr p), some p, rfl, hp.nsd, ?_⟩
        have hnt : isTerm sig (tmD p) = false := hH.not_term hS fun e => by
          rw [(eqv_tm p t).mpr e] at he
          cases he
        rw [if_pos rfl, show rdO sig (some p) = none from if_neg (by rw [hnt]; decide), toldO_n]
        simp [Ds, dRaise, mkRho, nOw, sgn, dYes, wipeR, back]
        refine ⟨shaped_form, ?_⟩
        rw [show PyData.eqv (.str (Str.ofString "form")) (.str (Str.ofString "form")) = true by decide +kernel]
        exact hq
    refine key2 _ _ _ _ _ _ _ _ _ _ _ _ ?_
    simp [Ds, dRaise, mkRho, nOw, sgn, dYes, wipeR, back]
    refine ⟨fun _ ρ => ∃ (ns : List Int) (x10 x11 x12 x13 x14 x15 : Option DV), ρ = [none, some (.ow (.lst none (ns.map .int))), some (.d (.tuple (sig.map rowD))), some (.d (.list ((sortsOf sig).map .str))), some (.d x), some (.d (tmD t)), some (.d (.str (wr t))), some (.d (tmD p)), some (.d (.str (wr p))), some (.d (toldO (rpO sig (some p)))), x10, x11, x12, x13, x14, x15, none, none, none], ⟨ns5, x10, x11, x12, x13, x14, x15, rfl⟩, ?_, ?_⟩
    · rintro i2 y _ hy ⟨ns6, x10, x11, x12, x13, x14, x15, rfl⟩
      simp [Ds, dRaise, mkRho, nOw, sgn, dYes, wipeR, back]
      refine ⟨by omega, by simp, ns6, (wr t).length + 1, rfl, by omega, fun k7 ns7 hk7 => ?_⟩
      simp [Ds, dRaise, mkRho, nOw, sgn, dYes, wipeR, back]
      refine ⟨by simp, ns7, 9, rfl, by decide, fun k8 ns8 hk8 => ?_⟩
      obtain ⟨c, hc⟩ : ∃ c, atI (Str.ofString "(), c7-?a").cps.toList (k8 : Int) = some c := by
        have : ∀ i < 9, (atI (Str.ofString "(), c7-?a").cps.toList ((i : Nat) : Int)).isSome = true := by decide +kernel
        exact Option.isSome_iff_exists.mp (this k8 hk8)
      simp [Ds, dRaise, mkRho, nOw, sgn, dYes, wipeR, back]
      refine ⟨by decide, ?_⟩
      rw [hc]
      simp [Ds, dRaise, mkRho, nOw, sgn, dYes, wipeR, back]
      obtain ⟨hA, hB, hC⟩ : ch (cutS (wr t) none (some (k7 : Int))) = (ch (wr t)).take k7 ∧ ch (cutS (wr t) (some (k7 : Int)) none) = (ch (wr t)).drop k7 ∧ ch (cutS (wr t) (some ((k7 : Int) + 1)) none) = (ch (wr t)).drop (k7 + 1) := by
        have e1 := cut_to_txt (ch (wr t)) k7
        have e2 := cut_from_txt (ch (wr t)) k7
        have e3 := cut_from_txt (ch (wr t)) (k7 + 1)
        rw [txt_ch] at e1 e2 e3
        have e3 : cutS (wr t) (some ((k7 : Int) + 1)) none = _ := e3
        rw [e1, e2, e3, ch_txt, ch_txt, ch_txt]
        exact ⟨rfl, rfl, rfl⟩
      generalize cutS (wr t) none (some (k7 : Int)) = zA at hA ⊢
      generalize cutS (wr t) (some (k7 : Int)) none = zB at hB ⊢
      generalize cutS (wr t) (some ((k7 : Int) + 1)) none = zC at hC ⊢
      have lA : zA.length ≤ 1000 := by rw [len_ch, hA, List.length_take, ← len_ch]; omega
      have lB : zB.length ≤ 1000 := by rw [len_ch, hB, List.length_drop, ← len_ch]; omega
      have lC : zC.length ≤ 1000 := by rw [len_ch, hC, List.length_drop, ← len_ch]; omega
      have l1 : (⟨#[c]⟩ : Str).length = 1 := rfl
      have la1 : (zA ++ (⟨#[c]⟩ : Str)).length = zA.length + 1 := by rw [len_app, l1]
      refine ⟨by omega, by omega, by omega, by omega, by omega, by omega, by omega, by omega, by omega, by omega, by decide, by simp, ns8, 3, rfl, by decide, fun k9 ns9 hk9 => ?_⟩
      have cz : ch (⟨#[c]⟩ : Str) = [c] := rfl
      have hlen : (ch (wr t)).length ≤ 1000 := by rw [← len_ch]; exact hml.1
      obtain ⟨zb, hzb, lb, cb⟩ : ∃ zb : Str, atI [PyData.str (zA ++ (⟨#[c]⟩ : Str) ++ zB), PyData.str (zA ++ zC), PyData.str (zA ++ (⟨#[c]⟩ : Str) ++ zC)] (k9 : Int) = some (.str zb) ∧ zb.length ≤ 1001 ∧ lpar zb ≤ 122 := by
        have : k9 = 0 ∨ k9 = 1 ∨ k9 = 2 := by omega
        rcases this with rfl | rfl | rfl
        · refine ⟨_, rfl, ?_⟩
          have := bent_le (cs := ch (wr t)) (c := [c]) (i := k7) (j := k7) (by simp) (Nat.le_refl _)
          rw [len_ch, lpar_ch, ch_app, ch_app, hA, hB, cz, List.append_assoc]
          omega
        · refine ⟨_, rfl, ?_⟩
          have := bent_le (cs := ch (wr t)) (c := []) (i := k7) (j := k7 + 1) (by simp) (by omega)
          rw [len_ch, lpar_ch, ch_app, hA, hC]
          rw [List.nil_append] at this
          omega
        · refine ⟨_, rfl, ?_⟩
          have := bent_le (cs := ch (wr t)) (c := [c]) (i := k7) (j := k7 + 1) (by simp) (by omega)
          rw [len_ch, lpar_ch, ch_app, ch_app, hA, hC, cz, List.append_assoc]
          omega
      simp [Ds, dRaise, mkRho, nOw, sgn, dYes, wipeR, back]
      rw [hzb]
      simp [Ds, dRaise, mkRho, nOw, sgn, dYes, wipeR, back]
      obtain ⟨o', hLR⟩ := LR.ex (ch zb)
      obtain ⟨o, hNs⟩ := Ns.ex zb
      have hbo := both hNs hLR (by omega)
      have hnd : NsD (.str zb) o := .inl ⟨zb, rfl, by omega, hNs⟩
      refine ⟨.nil, ch zb, o', by rw [txt_ch], by rw [← len_ch]; omega, by rw [← lpar_ch]; omega, hLR, ?_⟩
      rw [whole_all, ← hbo]
      have hn8 : Nd 208 (toldO (rdO sig o)) := by
        cases ho : rdO sig o with
        | none => exact .str
        | some u =>
          cases o with
          | none => cases ho
          | some v =>
            have e : (if isTerm sig (tmD v) = true then some v else none) = some u := ho
            split at e
            · cases e
              obtain ⟨ez, ok⟩ := Ns.good hNs
              have h1 := wr_size ok
              have h2 := Ns.dep hNs
              rw [ez, ← len_ch] at h1
              exact nd_tm (Nat.le_trans h1 (by omega)) (by omega)
            · cases e
      have fin : ∀ (x14 : Option DV), dIfS (dNot (dB (dCall (spAlike 208) (fun x => False) (dCons (dCall spTold (fun x => False) (dCons (dK (PyData.int 0)) (dCons (dVar 2) (dCons (dVar 13) dNil)))) (dCons (dVar 15) dNil))))) (dRet (dK (PyData.bool false))) dSkip
          { nx := fun ρ => ∃ ns x_1 x10 x11 x12 x13 x14, ρ = [none, some (.ow (.lst none (List.map PyData.int ns))), some (.d (.tuple (sig.map rowD))), some (.d (.list ((sortsOf sig).map .str))), some (.d x), some (.d (tmD t)), some (.d (.str (wr t))), some (.d (tmD p)), some (.d (.str (wr p))), some (.d (toldO (rpO sig (some p)))), x_1, x10, x11, x12, x13, x14, none, none, none], rt := fun r _ => r = .d (.bool true), bk := fun _ => False, ct := fun _ => False }
          [none, some (.ow (.lst none (ns9.map .int))), some (.d (.tuple (sig.map rowD))), some (.d (.list ((sortsOf sig).map .str))), some (.d x), some (.d (tmD t)), some (.d (.str (wr t))), some (.d (tmD p)), some (.d (.str (wr p))), some (.d (toldO (rpO sig (some p)))), some (.d y), some (.d (.int (k7 : Int))), some (.d (.str ⟨#[c]⟩)), some (.d (.str zb)), x14, some (.d (toldO (rdO sig o))), none, none, none] := fun x14 => by
        simp [Ds, dRaise, mkRho, nOw, sgn, dYes, wipeR, back]
        refine ⟨.nil, 0, sig, .str zb, o, rfl, hnd, ?_⟩
        rw [if_pos rfl]
        simp [Ds, dRaise, mkRho, nOw, sgn, dYes, wipeR, back]
        refine ⟨.nil, _, rfl, hn8, ?_⟩
        simp [Ds, dRaise, mkRho, nOw, sgn, dYes, wipeR, back]
        exact ⟨ns9, rfl⟩
      cases o with
      | none =>
        rw [optT_n]
        simp [Ds, dRaise, mkRho, nOw, sgn, dYes, wipeR, back]
        exact fin _
      | some u =>
        rw [optT_s]
        simp [Ds, dRaise, mkRho, nOw, sgn, dYes, wipeR, back, isNon_tm]
        refine ⟨.nil, sig, tmD u, rfl, Ns_fit hnd, ?_⟩
        have e : rdO sig (some u) = if isTerm sig (tmD u) = true then some u else none := rfl
        cases hu : isTerm sig (tmD u) with
        | true =>
          rw [e, if_pos hu] at fin
          simp [Ds, dRaise, mkRho, nOw, sgn, dYes, wipeR, back]
          exact fin _
        | false =>
          rw [e, if_neg (by rw [hu]; decide)] at fin
          simp [Ds, dRaise, mkRho, nOw, sgn, dYes, wipeR, back]
          exact fin _
    · rintro _ ⟨ns6, x10, x11, x12, x13, x14, x15, rfl⟩
      exact ⟨ns6, _, _, _, _, _, _, _, _, _, _, _, _, rfl⟩
  · rintro _ ⟨ns2, x4, x5, x6, x7, x8, x9, x10, x11, x12, x13, x14, x15, rfl⟩
    simp [Ds, dRaise, mkRho, nOw, sgn, dYes, wipeR, back]
    refine ⟨by decide, by decide, fun i acc ρ => ρ = [none, some (.ow (.lst none (ns2.map .int))), some (.d (.tuple (sig.map rowD))), some (.d (.list ((sortsOf sig).map .str))), x4, x5, x6, x7, x8, x9, x10, x11, x12, x13, x14, x15, some (.d (.list badD)), none, none] ∧ acc = [], ⟨rfl, rfl⟩, ?_, ?_⟩
    · rintro i x acc ρ hx ⟨rfl, rfl⟩
      have hb : NsD x none := bad_nsd (List.mem_of_getElem? hx)
      simp [Ds, dRaise, mkRho, nOw, sgn, dYes, wipeR, back]
      refine ⟨.nil, 0, sig, x, none, rfl, hb, ?_⟩
      rw [if_pos rfl, show toldO (rdO sig none) = .str "form" from rfl]
      simp [Ds, dRaise, mkRho, nOw, sgn, dYes, wipeR, back]
      refine ⟨shaped_form, ?_⟩
      rw [show PyData.eqv (.str (Str.ofString "form")) (.str (Str.ofString "form")) = true by decide +kernel]
      simp [Ds, dRaise, mkRho, nOw, sgn, dYes, wipeR, back]
      refine ⟨.nil, 1, sig, x, none, rfl, hb, ?_⟩
      rw [if_neg (by decide), show toldO (rpO sig none) = .str "form" from rfl]
      simp [Ds, dRaise, mkRho, nOw, sgn, dYes, wipeR, back]
      refine ⟨shaped_form, ?_⟩
      rw [show PyData.eqv (.str (Str.ofString "form")) (.str (Str.ofString "form")) = true by decide +kernel]
    · rintro acc ρ ⟨rfl, rfl⟩
      simp [Ds, dRaise, mkRho, nOw, sgn, dYes, wipeR, back]
      exact ⟨by decide +kernel, by decide +kernel⟩
end
end K05

set_option Elab.async false
set_option maxRecDepth 100000
set_option maxHeartbeats 8000000
set_option linter.all false
set_option pp.maxSteps 300
namespace K05
open PySem L2 DL TM
theorem kit_self {K : PySem.W.Frag} {t : Value} : PySem.W.kitOne K t t = some true := by
  unfold PySem.W.kitOne
  rw [if_pos (beq_self_eq_true t)]
theorem kit_cls {K : PySem.W.Frag} {N S : Addr} {b : Bool} (h2 : PySem.W.isClsIn K S = true) (h3 : PySem.W.typeIn K (.ref S) = some (.type "type")) (h4 : PySem.W.subIn K (.ref N) (.ref S) = some b) (ne : ¬ (Value.ref N == Value.ref S) = true) : PySem.W.kitOne K (.ref N) (.ref S) = some b := by
  have h2' : (PySem.W.clsIn K S).isSome = true := h2
  have e2 : ((PySem.W.clsIn K S).isSome && PySem.W.typeIn K (.ref S) == some (.type "type")) = true := by rw [h2', h3] <;> rfl
  unfold PySem.W.kitOne
  rw [if_neg ne]
  show (if ((PySem.W.clsIn K S).isSome && PySem.W.typeIn K (.ref S) == some (.type "type")) = true then PySem.W.subIn K (.ref N) (.ref S) else none) = some b
  rw [if_pos e2]
  exact h4
theorem kit_ne {K : PySem.W.Frag} {N S : Addr} (h2 : PySem.W.isClsIn K S = true) (h3 : PySem.W.typeIn K (.ref S) = some (.type "type")) (h4 : PySem.W.subIn K (.ref N) (.ref S) = some false) (h5 : PySem.W.subIn K (.ref N) (.ref N) = some true) : PySem.W.kitOne K (.ref N) (.ref S) = some false :=
  kit_cls h2 h3 h4 fun q => by
    have e : N = S := Value.ref.inj (beq_iff_eq.mp q)
    rw [← e, h5] at h4
    cases h4
theorem sqt {K : PySem.W.Frag} {a : Addr} {d : Option Addr} {its : Array Value} {n : Nat} {sl : Array (Option Value)} {xs : List V} (l : K.lookup a = some ⟨.type "tuple", d, .seq its n, sl⟩) (hz : its.size ≤ sizeLine) (r : Vals xs its.toList) (H : Hp) : SqT K H a xs :=
  .inr ⟨_, its, n, l, rfl, rfl, hz, r⟩
theorem tabB {base : Heap} {mg : Str → Option Value} {c p : Addr} (h : LamX.TabB base mg c p) : GxR.TabB base mg c p := ⟨h.code, h.bm, h.gP⟩
theorem tabG {H : Hp} {p : Addr} (h : H p = some (.tbl #[])) : GxR.TabG H p := ⟨#[], h, trivial⟩
/-! ### what the top has left, the head -/
theorem all_mk {l : PySem.W.OpenLaw} {w : World} {K : PySem.W.Frag} {h : Heap} {mg : Str → Option Value} {fa f_is_number f_numeral_of f_number_of x_number_of p_number_of f_kind_of f_sort_within f_is_term f_is_variable x_is_variable p_is_variable f_sorts_within f_variable_sorts f_is_pattern f_pieces_of f_write f_read_from f_nested f_read f_read_pattern f__law_take f__law_text f__law_named f__law_read f__law_whole f__law_alike f__law_holed f__law_leaves f__law_draws f__law_word f__law_told f__law_signature f__law_term f_law Ee Eo Em En Er Et : Addr} (X : K.In h) (G : h.Ns mainGlobals mg) (hfa : mg "law" = some (.ref fa))
    {od_is_number an_is_number od_numeral_of an_numeral_of od_number_of an_number_of oe_number_of od_kind_of an_kind_of od_sort_within an_sort_within od_is_term an_is_term od_is_variable an_is_variable oe_is_variable od_sorts_within an_sorts_within od_variable_sorts an_variable_sorts od_is_pattern an_is_pattern od_pieces_of an_pieces_of od_write an_write od_read_from an_read_from od_nested an_nested od_read an_read od_read_pattern an_read_pattern od__law_take an__law_take od__law_text an__law_text od__law_named an__law_named od__law_read an__law_read od__law_whole an__law_whole od__law_alike an__law_alike od__law_holed an__law_holed od__law_leaves an__law_leaves od__law_draws an__law_draws od__law_word an__law_word od__law_told an__law_told od__law_signature an__law_signature od__law_term an__law_term od_law an_law : Option Addr} {sl_is_number sl_numeral_of sl_number_of se_number_of sl_kind_of sl_sort_within sl_is_term sl_is_variable se_is_variable sl_sorts_within sl_variable_sorts sl_is_pattern sl_pieces_of sl_write sl_read_from sl_nested sl_read sl_read_pattern sl__law_take sl__law_text sl__law_named sl__law_read sl__law_whole sl__law_alike sl__law_holed sl__law_leaves sl__law_draws sl__law_word sl__law_told sl__law_signature sl__law_term sl_law : Array (Option Value)} {oc_is_number kV_is_number dc_is_number pm_is_number ct_is_number cd_is_number oc_numeral_of kV_numeral_of dc_numeral_of pm_numeral_of ct_numeral_of cd_numeral_of oc_number_of kV_number_of dc_number_of pm_number_of ct_number_of oc_kind_of kV_kind_of dc_kind_of pm_kind_of ct_kind_of cd_kind_of oc_sort_within kV_sort_within dc_sort_within pm_sort_within ct_sort_within cd_sort_within oc_is_term kV_is_term dc_is_term pm_is_term ct_is_term cd_is_term oc_is_variable kV_is_variable dc_is_variable pm_is_variable ct_is_variable oc_sorts_within kV_sorts_within dc_sorts_within pm_sorts_within ct_sorts_within cd_sorts_within oc_variable_sorts kV_variable_sorts dc_variable_sorts pm_variable_sorts ct_variable_sorts cd_variable_sorts oc_is_pattern kV_is_pattern dc_is_pattern pm_is_pattern ct_is_pattern cd_is_pattern oc_pieces_of kV_pieces_of dc_pieces_of pm_pieces_of ct_pieces_of cd_pieces_of oc_write kV_write dc_write pm_write ct_write cd_write oc_read_from kV_read_from dc_read_from pm_read_from ct_read_from cd_read_from oc_nested kV_nested dc_nested pm_nested ct_nested cd_nested oc_read kV_read dc_read pm_read ct_read cd_read oc_read_pattern kV_read_pattern dc_read_pattern pm_read_pattern ct_read_pattern cd_read_pattern oc__law_take kV__law_take dc__law_take pm__law_take ct__law_take cd__law_take oc__law_text kV__law_text dc__law_text pm__law_text ct__law_text cd__law_text oc__law_named kV__law_named dc__law_named pm__law_named ct__law_named cd__law_named oc__law_read kV__law_read dc__law_read pm__law_read ct__law_read cd__law_read oc__law_whole kV__law_whole dc__law_whole pm__law_whole ct__law_whole cd__law_whole oc__law_alike kV__law_alike dc__law_alike pm__law_alike ct__law_alike cd__law_alike oc__law_holed kV__law_holed dc__law_holed pm__law_holed ct__law_holed cd__law_holed oc__law_leaves kV__law_leaves dc__law_leaves pm__law_leaves ct__law_leaves cd__law_leaves oc__law_draws kV__law_draws dc__law_draws pm__law_draws ct__law_draws cd__law_draws oc__law_word kV__law_word dc__law_word pm__law_word ct__law_word cd__law_word oc__law_told kV__law_told dc__law_told pm__law_told ct__law_told cd__law_told oc__law_signature kV__law_signature dc__law_signature pm__law_signature ct__law_signature cd__law_signature oc__law_term kV__law_term dc__law_term pm__law_term ct__law_term cd__law_term oc_law kV_law dc_law pm_law ct_law cd_law : Value} {ve_number_of ve_is_variable : Array Value} {ti_MOST_NUMERAL ti_MOST_SIZE ti_MOST_VARIABLE ti_MOST_OPEN ts_STOPS ts_NUMBERS ts_LETTERS ts_FIGURES : Tok} 
    (a_is_number : PySem.W.nsIn K mainGlobals "is_number" = some (some (.ref f_is_number)))
    (l_is_number : K.lookup f_is_number = some ⟨oc_is_number, od_is_number, .func (PySem.W.fnOf "is_number" "is_number" (defArgs s_is_number) (defBody s_is_number) (defScope s_is_number) .none kV_is_number dc_is_number pm_is_number an_is_number cd_is_number ct_is_number), sl_is_number⟩)
    (c_is_number : PySem.W.codeIn K cd_is_number "is_number" = true)
    (k_is_number : PySem.W.keepIn K (.ref f_is_number) = true)
    (a_numeral_of : PySem.W.nsIn K mainGlobals "numeral_of" = some (some (.ref f_numeral_of)))
    (l_numeral_of : K.lookup f_numeral_of = some ⟨oc_numeral_of, od_numeral_of, .func (PySem.W.fnOf "numeral_of" "numeral_of" (defArgs s_numeral_of) (defBody s_numeral_of) (defScope s_numeral_of) .none kV_numeral_of dc_numeral_of pm_numeral_of an_numeral_of cd_numeral_of ct_numeral_of), sl_numeral_of⟩)
    (c_numeral_of : PySem.W.codeIn K cd_numeral_of "numeral_of" = true)
    (k_numeral_of : PySem.W.keepIn K (.ref f_numeral_of) = true)
    (a_number_of : PySem.W.nsIn K mainGlobals "number_of" = some (some (.ref f_number_of)))
    (l_number_of : K.lookup f_number_of = some ⟨oc_number_of, od_number_of, .func (PySem.W.fnOf "number_of" "number_of" (defArgs s_number_of) (defBody s_number_of) (defScope s_number_of) .none kV_number_of dc_number_of pm_number_of an_number_of (.ref x_number_of) ct_number_of), sl_number_of⟩)
    (c_number_of : PySem.W.codeIn K (.ref x_number_of) "number_of" = true)
    (k_number_of : PySem.W.keepIn K (.ref f_number_of) = true)
    (w_number_of : K.lookup x_number_of = some ⟨.type "code", oe_number_of, .fields ve_number_of, se_number_of⟩)
    (v_number_of : (ve_number_of[11]? : Option Value) = some (.ref p_number_of))
    (z_number_of : K.lookup p_number_of = none)
    (t_number_of : PySem.W.CodeHd h x_number_of p_number_of ∧ h.get? p_number_of = some { cls := .none, data := .fields #[] })
    (a_kind_of : PySem.W.nsIn K mainGlobals "kind_of" = some (some (.ref f_kind_of)))
    (l_kind_of : K.lookup f_kind_of = some ⟨oc_kind_of, od_kind_of, .func (PySem.W.fnOf "kind_of" "kind_of" (defArgs s_kind_of) (defBody s_kind_of) (defScope s_kind_of) .none kV_kind_of dc_kind_of pm_kind_of an_kind_of cd_kind_of ct_kind_of), sl_kind_of⟩)
    (c_kind_of : PySem.W.codeIn K cd_kind_of "kind_of" = true)
    (k_kind_of : PySem.W.keepIn K (.ref f_kind_of) = true)
    (a_sort_within : PySem.W.nsIn K mainGlobals "sort_within" = some (some (.ref f_sort_within)))
    (l_sort_within : K.lookup f_sort_within = some ⟨oc_sort_within, od_sort_within, .func (PySem.W.fnOf "sort_within" "sort_within" (defArgs s_sort_within) (defBody s_sort_within) (defScope s_sort_within) .none kV_sort_within dc_sort_within pm_sort_within an_sort_within cd_sort_within ct_sort_within), sl_sort_within⟩)
    (c_sort_within : PySem.W.codeIn K cd_sort_within "sort_within" = true)
    (k_sort_within : PySem.W.keepIn K (.ref f_sort_within) = true)
    (a_is_term : PySem.W.nsIn K mainGlobals "is_term" = some (some (.ref f_is_term)))
    (l_is_term : K.lookup f_is_term = some ⟨oc_is_term, od_is_term, .func (PySem.W.fnOf "is_term" "is_term" (defArgs s_is_term) (defBody s_is_term) (defScope s_is_term) .none kV_is_term dc_is_term pm_is_term an_is_term cd_is_term ct_is_term), sl_is_term⟩)
    (c_is_term : PySem.W.codeIn K cd_is_term "is_term" = true)
    (k_is_term : PySem.W.keepIn K (.ref f_is_term) = true)
    (a_is_variable : PySem.W.nsIn K mainGlobals "is_variable" = some (some (.ref f_is_variable)))
    (l_is_variable : K.lookup f_is_variable = some ⟨oc_is_variable, od_is_variable, .func (PySem.W.fnOf "is_variable" "is_variable" (defArgs s_is_variable) (defBody s_is_variable) (defScope s_is_variable) .none kV_is_variable dc_is_variable pm_is_variable an_is_variable (.ref x_is_variable) ct_is_variable), sl_is_variable⟩)
    (c_is_variable : PySem.W.codeIn K (.ref x_is_variable) "is_variable" = true)
    (k_is_variable : PySem.W.keepIn K (.ref f_is_variable) = true)
    (w_is_variable : K.lookup x_is_variable = some ⟨.type "code", oe_is_variable, .fields ve_is_variable, se_is_variable⟩)
    (v_is_variable : (ve_is_variable[11]? : Option Value) = some (.ref p_is_variable))
    (z_is_variable : K.lookup p_is_variable = none)
    (t_is_variable : PySem.W.CodeHd h x_is_variable p_is_variable ∧ h.get? p_is_variable = some { cls := .none, data := .fields #[] })
    (a_sorts_within : PySem.W.nsIn K mainGlobals "sorts_within" = some (some (.ref f_sorts_within)))
    (l_sorts_within : K.lookup f_sorts_within = some ⟨oc_sorts_within, od_sorts_within, .func (PySem.W.fnOf "sorts_within" "sorts_within" (defArgs s_sorts_within) (defBody s_sorts_within) (defScope s_sorts_within) .none kV_sorts_within dc_sorts_within pm_sorts_within an_sorts_within cd_sorts_within ct_sorts_within), sl_sorts_within⟩)
    (c_sorts_within : PySem.W.codeIn K cd_sorts_within "sorts_within" = true)
    (k_sorts_within : PySem.W.keepIn K (.ref f_sorts_within) = true)
    (a_variable_sorts : PySem.W.nsIn K mainGlobals "variable_sorts" = some (some (.ref f_variable_sorts)))
    (l_variable_sorts : K.lookup f_variable_sorts = some ⟨oc_variable_sorts, od_variable_sorts, .func (PySem.W.fnOf "variable_sorts" "variable_sorts" (defArgs s_variable_sorts) (defBody s_variable_sorts) (defScope s_variable_sorts) .none kV_variable_sorts dc_variable_sorts pm_variable_sorts an_variable_sorts cd_variable_sorts ct_variable_sorts), sl_variable_sorts⟩)
    (c_variable_sorts : PySem.W.codeIn K cd_variable_sorts "variable_sorts" = true)
    (k_variable_sorts : PySem.W.keepIn K (.ref f_variable_sorts) = true)
    (a_is_pattern : PySem.W.nsIn K mainGlobals "is_pattern" = some (some (.ref f_is_pattern)))
    (l_is_pattern : K.lookup f_is_pattern = some ⟨oc_is_pattern, od_is_pattern, .func (PySem.W.fnOf "is_pattern" "is_pattern" (defArgs s_is_pattern) (defBody s_is_pattern) (defScope s_is_pattern) .none kV_is_pattern dc_is_pattern pm_is_pattern an_is_pattern cd_is_pattern ct_is_pattern), sl_is_pattern⟩)
    (c_is_pattern : PySem.W.codeIn K cd_is_pattern "is_pattern" = true)
    (k_is_pattern : PySem.W.keepIn K (.ref f_is_pattern) = true)
    (a_pieces_of : PySem.W.nsIn K mainGlobals "pieces_of" = some (some (.ref f_pieces_of)))
    (l_pieces_of : K.lookup f_pieces_of = some ⟨oc_pieces_of, od_pieces_of, .func (PySem.W.fnOf "pieces_of" "pieces_of" (defArgs s_pieces_of) (defBody s_pieces_of) (defScope s_pieces_of) .none kV_pieces_of dc_pieces_of pm_pieces_of an_pieces_of cd_pieces_of ct_pieces_of), sl_pieces_of⟩)
    (c_pieces_of : PySem.W.codeIn K cd_pieces_of "pieces_of" = true)
    (k_pieces_of : PySem.W.keepIn K (.ref f_pieces_of) = true)
    (a_write : PySem.W.nsIn K mainGlobals "write" = some (some (.ref f_write)))
    (l_write : K.lookup f_write = some ⟨oc_write, od_write, .func (PySem.W.fnOf "write" "write" (defArgs s_write) (defBody s_write) (defScope s_write) .none kV_write dc_write pm_write an_write cd_write ct_write), sl_write⟩)
    (c_write : PySem.W.codeIn K cd_write "write" = true)
    (k_write : PySem.W.keepIn K (.ref f_write) = true)
    (a_read_from : PySem.W.nsIn K mainGlobals "read_from" = some (some (.ref f_read_from)))
    (l_read_from : K.lookup f_read_from = some ⟨oc_read_from, od_read_from, .func (PySem.W.fnOf "read_from" "read_from" (defArgs s_read_from) (defBody s_read_from) (defScope s_read_from) .none kV_read_from dc_read_from pm_read_from an_read_from cd_read_from ct_read_from), sl_read_from⟩)
    (c_read_from : PySem.W.codeIn K cd_read_from "read_from" = true)
    (k_read_from : PySem.W.keepIn K (.ref f_read_from) = true)
    (a_nested : PySem.W.nsIn K mainGlobals "nested" = some (some (.ref f_nested)))
    (l_nested : K.lookup f_nested = some ⟨oc_nested, od_nested, .func (PySem.W.fnOf "nested" "nested" (defArgs s_nested) (defBody s_nested) (defScope s_nested) .none kV_nested dc_nested pm_nested an_nested cd_nested ct_nested), sl_nested⟩)
    (c_nested : PySem.W.codeIn K cd_nested "nested" = true)
    (k_nested : PySem.W.keepIn K (.ref f_nested) = true)
    (a_read : PySem.W.nsIn K mainGlobals "read" = some (some (.ref f_read)))
    (l_read : K.lookup f_read = some ⟨oc_read, od_read, .func (PySem.W.fnOf "read" "read" (defArgs s_read) (defBody s_read) (defScope s_read) .none kV_read dc_read pm_read an_read cd_read ct_read), sl_read⟩)
    (c_read : PySem.W.codeIn K cd_read "read" = true)
    (k_read : PySem.W.keepIn K (.ref f_read) = true)
    (a_read_pattern : PySem.W.nsIn K mainGlobals "read_pattern" = some (some (.ref f_read_pattern)))
    (l_read_pattern : K.lookup f_read_pattern = some ⟨oc_read_pattern, od_read_pattern, .func (PySem.W.fnOf "read_pattern" "read_pattern" (defArgs s_read_pattern) (defBody s_read_pattern) (defScope s_read_pattern) .none kV_read_pattern dc_read_pattern pm_read_pattern an_read_pattern cd_read_pattern ct_read_pattern), sl_read_pattern⟩)
    (c_read_pattern : PySem.W.codeIn K cd_read_pattern "read_pattern" = true)
    (k_read_pattern : PySem.W.keepIn K (.ref f_read_pattern) = true)
    (a__law_take : PySem.W.nsIn K mainGlobals "_law_take" = some (some (.ref f__law_take)))
    (l__law_take : K.lookup f__law_take = some ⟨oc__law_take, od__law_take, .func (PySem.W.fnOf "_law_take" "_law_take" (defArgs s__law_take) (defBody s__law_take) (defScope s__law_take) .none kV__law_take dc__law_take pm__law_take an__law_take cd__law_take ct__law_take), sl__law_take⟩)
    (c__law_take : PySem.W.codeIn K cd__law_take "_law_take" = true)
    (k__law_take : PySem.W.keepIn K (.ref f__law_take) = true)
    (a__law_text : PySem.W.nsIn K mainGlobals "_law_text" = some (some (.ref f__law_text)))
    (l__law_text : K.lookup f__law_text = some ⟨oc__law_text, od__law_text, .func (PySem.W.fnOf "_law_text" "_law_text" (defArgs s__law_text) (defBody s__law_text) (defScope s__law_text) .none kV__law_text dc__law_text pm__law_text an__law_text cd__law_text ct__law_text), sl__law_text⟩)
    (c__law_text : PySem.W.codeIn K cd__law_text "_law_text" = true)
    (k__law_text : PySem.W.keepIn K (.ref f__law_text) = true)
    (a__law_named : PySem.W.nsIn K mainGlobals "_law_named" = some (some (.ref f__law_named)))
    (l__law_named : K.lookup f__law_named = some ⟨oc__law_named, od__law_named, .func (PySem.W.fnOf "_law_named" "_law_named" (defArgs s__law_named) (defBody s__law_named) (defScope s__law_named) .none kV__law_named dc__law_named pm__law_named an__law_named cd__law_named ct__law_named), sl__law_named⟩)
    (c__law_named : PySem.W.codeIn K cd__law_named "_law_named" = true)
    (k__law_named : PySem.W.keepIn K (.ref f__law_named) = true)
    (a__law_read : PySem.W.nsIn K mainGlobals "_law_read" = some (some (.ref f__law_read)))
    (l__law_read : K.lookup f__law_read = some ⟨oc__law_read, od__law_read, .func (PySem.W.fnOf "_law_read" "_law_read" (defArgs s__law_read) (defBody s__law_read) (defScope s__law_read) .none kV__law_read dc__law_read pm__law_read an__law_read cd__law_read ct__law_read), sl__law_read⟩)
    (c__law_read : PySem.W.codeIn K cd__law_read "_law_read" = true)
    (k__law_read : PySem.W.keepIn K (.ref f__law_read) = true)
    (a__law_whole : PySem.W.nsIn K mainGlobals "_law_whole" = some (some (.ref f__law_whole)))
    (l__law_whole : K.lookup f__law_whole = some ⟨oc__law_whole, od__law_whole, .func (PySem.W.fnOf "_law_whole" "_law_whole" (defArgs s__law_whole) (defBody s__law_whole) (defScope s__law_whole) .none kV__law_whole dc__law_whole pm__law_whole an__law_whole cd__law_whole ct__law_whole), sl__law_whole⟩)
    (c__law_whole : PySem.W.codeIn K cd__law_whole "_law_whole" = true)
    (k__law_whole : PySem.W.keepIn K (.ref f__law_whole) = true)
    (a__law_alike : PySem.W.nsIn K mainGlobals "_law_alike" = some (some (.ref f__law_alike)))
    (l__law_alike : K.lookup f__law_alike = some ⟨oc__law_alike, od__law_alike, .func (PySem.W.fnOf "_law_alike" "_law_alike" (defArgs s__law_alike) (defBody s__law_alike) (defScope s__law_alike) .none kV__law_alike dc__law_alike pm__law_alike an__law_alike cd__law_alike ct__law_alike), sl__law_alike⟩)
    (c__law_alike : PySem.W.codeIn K cd__law_alike "_law_alike" = true)
    (k__law_alike : PySem.W.keepIn K (.ref f__law_alike) = true)
    (a__law_holed : PySem.W.nsIn K mainGlobals "_law_holed" = some (some (.ref f__law_holed)))
    (l__law_holed : K.lookup f__law_holed = some ⟨oc__law_holed, od__law_holed, .func (PySem.W.fnOf "_law_holed" "_law_holed" (defArgs s__law_holed) (defBody s__law_holed) (defScope s__law_holed) .none kV__law_holed dc__law_holed pm__law_holed an__law_holed cd__law_holed ct__law_holed), sl__law_holed⟩)
    (c__law_holed : PySem.W.codeIn K cd__law_holed "_law_holed" = true)
    (k__law_holed : PySem.W.keepIn K (.ref f__law_holed) = true)
    (a__law_leaves : PySem.W.nsIn K mainGlobals "_law_leaves" = some (some (.ref f__law_leaves)))
    (l__law_leaves : K.lookup f__law_leaves = some ⟨oc__law_leaves, od__law_leaves, .func (PySem.W.fnOf "_law_leaves" "_law_leaves" (defArgs s__law_leaves) (defBody s__law_leaves) (defScope s__law_leaves) .none kV__law_leaves dc__law_leaves pm__law_leaves an__law_leaves cd__law_leaves ct__law_leaves), sl__law_leaves⟩)
    (c__law_leaves : PySem.W.codeIn K cd__law_leaves "_law_leaves" = true)
    (k__law_leaves : PySem.W.keepIn K (.ref f__law_leaves) = true)
    (a__law_draws : PySem.W.nsIn K mainGlobals "_law_draws" = some (some (.ref f__law_draws)))
    (l__law_draws : K.lookup f__law_draws = some ⟨oc__law_draws, od__law_draws, .func (PySem.W.fnOf "_law_draws" "_law_draws" (defArgs s__law_draws) (defBody s__law_draws) (defScope s__law_draws) .none kV__law_draws dc__law_draws pm__law_draws an__law_draws cd__law_draws ct__law_draws), sl__law_draws⟩)
    (c__law_draws : PySem.W.codeIn K cd__law_draws "_law_draws" = true)
    (k__law_draws : PySem.W.keepIn K (.ref f__law_draws) = true)
    (a__law_word : PySem.W.nsIn K mainGlobals "_law_word" = some (some (.ref f__law_word)))
    (l__law_word : K.lookup f__law_word = some ⟨oc__law_word, od__law_word, .func (PySem.W.fnOf "_law_word" "_law_word" (defArgs s__law_word) (defBody s__law_word) (defScope s__law_word) .none kV__law_word dc__law_word pm__law_word an__law_word cd__law_word ct__law_word), sl__law_word⟩)
    (c__law_word : PySem.W.codeIn K cd__law_word "_law_word" = true)
    (k__law_word : PySem.W.keepIn K (.ref f__law_word) = true)
    (a__law_told : PySem.W.nsIn K mainGlobals "_law_told" = some (some (.ref f__law_told)))
    (l__law_told : K.lookup f__law_told = some ⟨oc__law_told, od__law_told, .func (PySem.W.fnOf "_law_told" "_law_told" (defArgs s__law_told) (defBody s__law_told) (defScope s__law_told) .none kV__law_told dc__law_told pm__law_told an__law_told cd__law_told ct__law_told), sl__law_told⟩)
    (c__law_told : PySem.W.codeIn K cd__law_told "_law_told" = true)
    (k__law_told : PySem.W.keepIn K (.ref f__law_told) = true)
    (a__law_signature : PySem.W.nsIn K mainGlobals "_law_signature" = some (some (.ref f__law_signature)))
    (l__law_signature : K.lookup f__law_signature = some ⟨oc__law_signature, od__law_signature, .func (PySem.W.fnOf "_law_signature" "_law_signature" (defArgs s__law_signature) (defBody s__law_signature) (defScope s__law_signature) .none kV__law_signature dc__law_signature pm__law_signature an__law_signature cd__law_signature ct__law_signature), sl__law_signature⟩)
    (c__law_signature : PySem.W.codeIn K cd__law_signature "_law_signature" = true)
    (k__law_signature : PySem.W.keepIn K (.ref f__law_signature) = true)
    (a__law_term : PySem.W.nsIn K mainGlobals "_law_term" = some (some (.ref f__law_term)))
    (l__law_term : K.lookup f__law_term = some ⟨oc__law_term, od__law_term, .func (PySem.W.fnOf "_law_term" "_law_term" (defArgs s__law_term) (defBody s__law_term) (defScope s__law_term) .none kV__law_term dc__law_term pm__law_term an__law_term cd__law_term ct__law_term), sl__law_term⟩)
    (c__law_term : PySem.W.codeIn K cd__law_term "_law_term" = true)
    (k__law_term : PySem.W.keepIn K (.ref f__law_term) = true)
    (a_law : PySem.W.nsIn K mainGlobals "law" = some (some (.ref f_law)))
    (l_law : K.lookup f_law = some ⟨oc_law, od_law, .func (PySem.W.fnOf "law" "law" (defArgs s_law) (defBody s_law) (defScope s_law) .none kV_law dc_law pm_law an_law cd_law ct_law), sl_law⟩)
    (c_law : PySem.W.codeIn K cd_law "law" = true)
    (k_law : PySem.W.keepIn K (.ref f_law) = true)
    (zb_abs : PySem.W.nsIn K mainGlobals "abs" = some none)
    (zb_int : PySem.W.nsIn K mainGlobals "int" = some none)
    (zb_range : PySem.W.nsIn K mainGlobals "range" = some none)
    (zb_len : PySem.W.nsIn K mainGlobals "len" = some none)
    (zb_list : PySem.W.nsIn K mainGlobals "list" = some none)
    (zb_reversed : PySem.W.nsIn K mainGlobals "reversed" = some none)
    (zb_isinstance : PySem.W.nsIn K mainGlobals "isinstance" = some none)
    (zb_bool : PySem.W.nsIn K mainGlobals "bool" = some none)
    (zb_str : PySem.W.nsIn K mainGlobals "str" = some none)
    (zb_tuple : PySem.W.nsIn K mainGlobals "tuple" = some none)
    (zb_all : PySem.W.nsIn K mainGlobals "all" = some none)
    (zb_zip : PySem.W.nsIn K mainGlobals "zip" = some none)
    (zb_sorted : PySem.W.nsIn K mainGlobals "sorted" = some none)
    (gi_MOST_NUMERAL : PySem.W.nsIn K mainGlobals "MOST_NUMERAL" = some (some (.int 999 ti_MOST_NUMERAL)))
    (gi_MOST_SIZE : PySem.W.nsIn K mainGlobals "MOST_SIZE" = some (some (.int 200 ti_MOST_SIZE)))
    (gi_MOST_VARIABLE : PySem.W.nsIn K mainGlobals "MOST_VARIABLE" = some (some (.int 4 ti_MOST_VARIABLE)))
    (gi_MOST_OPEN : PySem.W.nsIn K mainGlobals "MOST_OPEN" = some (some (.int 200 ti_MOST_OPEN)))
    (gs_STOPS : PySem.W.nsIn K mainGlobals "STOPS" = some (some (.str "()," ts_STOPS)))
    (gs_NUMBERS : PySem.W.nsIn K mainGlobals "NUMBERS" = some (some (.str "num" ts_NUMBERS)))
    (gs_LETTERS : PySem.W.nsIn K mainGlobals "LETTERS" = some (some (.str "abcdefghijklmnopqrstuvwxyz" ts_LETTERS)))
    (gs_FIGURES : PySem.W.nsIn K mainGlobals "FIGURES" = some (some (.str "0123456789" ts_FIGURES)))
    (aEe : PySem.W.nsIn K mainGlobals "EqualError" = some (some (.ref Ee)))
    (aEo : PySem.W.nsIn K mainGlobals "OutOfRange" = some (some (.ref Eo)))
    (aEm : PySem.W.nsIn K mainGlobals "Malformed" = some (some (.ref Em)))
    (aEn : PySem.W.nsIn K mainGlobals "NotThere" = some (some (.ref En)))
    (aEr : PySem.W.nsIn K mainGlobals "Refused" = some (some (.ref Er)))
    (aEt : PySem.W.nsIn K mainGlobals "TooMuch" = some (some (.ref Et)))
    (isEe : PySem.W.isClsIn K Ee = true)
    (tyEe : PySem.W.typeIn K (.ref Ee) = some (.type "type"))
    (isEo : PySem.W.isClsIn K Eo = true)
    (tyEo : PySem.W.typeIn K (.ref Eo) = some (.type "type"))
    (isEm : PySem.W.isClsIn K Em = true)
    (tyEm : PySem.W.typeIn K (.ref Em) = some (.type "type"))
    (isEn : PySem.W.isClsIn K En = true)
    (tyEn : PySem.W.typeIn K (.ref En) = some (.type "type"))
    (isEr : PySem.W.isClsIn K Er = true)
    (tyEr : PySem.W.typeIn K (.ref Er) = some (.type "type"))
    (isEt : PySem.W.isClsIn K Et = true)
    (tyEt : PySem.W.typeIn K (.ref Et) = some (.type "type"))
    (bEe : PySem.W.subIn K (.ref Ee) (.type "BaseException") = some true)
    (dEe : PySem.W.hasDictIn K Ee = true)
    (kpEm : PySem.W.keepIn K (.ref Em) = true)
    (qEm : PySem.W.excIn K Em [.type "ValueError", .type "Exception", .type "BaseException", .type "object"] "ValueError.__new__" = true)
    (bEm : PySem.W.subIn K (.ref Em) (.type "BaseException") = some true)
    (uEm : PySem.W.subIn K (.ref Em) (.ref Em) = some true)
    (sEmEe : PySem.W.subIn K (.ref Em) (.ref Ee) = some true)
    (sEmEo : PySem.W.subIn K (.ref Em) (.ref Eo) = some false)
    (sEmEn : PySem.W.subIn K (.ref Em) (.ref En) = some false)
    (sEmEr : PySem.W.subIn K (.ref Em) (.ref Er) = some false)
    (sEmEt : PySem.W.subIn K (.ref Em) (.ref Et) = some false)
    (x0Em : PySem.W.findIn K (.ref Em) "__getattribute__" = some (some (.builtin "BaseException.__getattribute__")))
    (x1Em : PySem.W.findIn K (.ref Em) "__getattr__" = some none)
    (x2Em : PySem.W.hasDictIn K Em = true)
    (x3Em : PySem.W.findIn K (.ref Em) "__class__" = some (some (.builtin "object.__class__")))
    (x6Em : PySem.W.mroIn K Em (.type "object") = some true)
    (x4 : PySem.W.specialIn K (.builtin "object.__class__") "__get__" = some (some (.builtin "getset_descriptor.__get__")))
    (x5 : PySem.W.takesIn K (.builtin "object.__class__") = some true)
    : LamX.LawAtS l w K CX0 212 63 "script" mg fa h := by
  have e := hfa.symm.trans (PySem.W.mg_of X G a_law)
  cases e
  have F_is_number := fun_mk (st := s_is_number) l_is_number c_is_number k_is_number
  have F_numeral_of := fun_mk (st := s_numeral_of) l_numeral_of c_numeral_of k_numeral_of
  have F_number_of : FunC K "number_of" "number_of" s_number_of f_number_of _ x_number_of := ⟨⟨_, _, _, _, _, _, _, _, rfl, l_number_of, c_number_of⟩, k_number_of⟩
  have F_kind_of := fun_mk (st := s_kind_of) l_kind_of c_kind_of k_kind_of
  have F_sort_within := fun_mk (st := s_sort_within) l_sort_within c_sort_within k_sort_within
  have F_is_term := fun_mk (st := s_is_term) l_is_term c_is_term k_is_term
  have F_is_variable : FunC K "is_variable" "is_variable" s_is_variable f_is_variable _ x_is_variable := ⟨⟨_, _, _, _, _, _, _, _, rfl, l_is_variable, c_is_variable⟩, k_is_variable⟩
  have F_sorts_within := fun_mk (st := s_sorts_within) l_sorts_within c_sorts_within k_sorts_within
  have F_variable_sorts := fun_mk (st := s_variable_sorts) l_variable_sorts c_variable_sorts k_variable_sorts
  have F_is_pattern := fun_mk (st := s_is_pattern) l_is_pattern c_is_pattern k_is_pattern
  have F_pieces_of := fun_mk (st := s_pieces_of) l_pieces_of c_pieces_of k_pieces_of
  have F_write := fun_mk (st := s_write) l_write c_write k_write
  have F_read_from := fun_mk (st := s_read_from) l_read_from c_read_from k_read_from
  have F_nested := fun_mk (st := s_nested) l_nested c_nested k_nested
  have F_read := fun_mk (st := s_read) l_read c_read k_read
  have F_read_pattern := fun_mk (st := s_read_pattern) l_read_pattern c_read_pattern k_read_pattern
  have F__law_take := fun_mk (st := s__law_take) l__law_take c__law_take k__law_take
  have F__law_text := fun_mk (st := s__law_text) l__law_text c__law_text k__law_text
  have F__law_named := fun_mk (st := s__law_named) l__law_named c__law_named k__law_named
  have F__law_read := fun_mk (st := s__law_read) l__law_read c__law_read k__law_read
  have F__law_whole := fun_mk (st := s__law_whole) l__law_whole c__law_whole k__law_whole
  have F__law_alike := fun_mk (st := s__law_alike) l__law_alike c__law_alike k__law_alike
  have F__law_holed := fun_mk (st := s__law_holed) l__law_holed c__law_holed k__law_holed
  have F__law_leaves := fun_mk (st := s__law_leaves) l__law_leaves c__law_leaves k__law_leaves
  have F__law_draws := fun_mk (st := s__law_draws) l__law_draws c__law_draws k__law_draws
  have F__law_word := fun_mk (st := s__law_word) l__law_word c__law_word k__law_word
  have F__law_told := fun_mk (st := s__law_told) l__law_told c__law_told k__law_told
  have F__law_signature := fun_mk (st := s__law_signature) l__law_signature c__law_signature k__law_signature
  have F__law_term := fun_mk (st := s__law_term) l__law_term c__law_term k__law_term
  have F_law := fun_mk (st := s_law) l_law c_law k_law
  have b_is_number := F_is_number.binds (ps := ["value", "least", "most"]) fun _ _ _ _ _ _ us hl => match us, hl with | [_, _, _], _ => rfl
  have g_is_number := PySem.W.mg_of X G a_is_number
  have b_numeral_of := F_numeral_of.binds (ps := ["number"]) fun _ _ _ _ _ _ us hl => match us, hl with | [_], _ => rfl
  have g_numeral_of := PySem.W.mg_of X G a_numeral_of
  have b_number_of := F_number_of.fun.binds (ps := ["name"]) fun _ _ _ _ _ _ us hl => match us, hl with | [_], _ => rfl
  have g_number_of := PySem.W.mg_of X G a_number_of
  have b_kind_of := F_kind_of.binds (ps := ["signature", "name"]) fun _ _ _ _ _ _ us hl => match us, hl with | [_, _], _ => rfl
  have g_kind_of := PySem.W.mg_of X G a_kind_of
  have b_sort_within := F_sort_within.binds (ps := ["signature", "value", "left"]) fun _ _ _ _ _ _ us hl => match us, hl with | [_, _, _], _ => rfl
  have g_sort_within := PySem.W.mg_of X G a_sort_within
  have b_is_term := F_is_term.binds (ps := ["signature", "value"]) fun _ _ _ _ _ _ us hl => match us, hl with | [_, _], _ => rfl
  have g_is_term := PySem.W.mg_of X G a_is_term
  have b_is_variable := F_is_variable.fun.binds (ps := ["value"]) fun _ _ _ _ _ _ us hl => match us, hl with | [_], _ => rfl
  have g_is_variable := PySem.W.mg_of X G a_is_variable
  have b_sorts_within := F_sorts_within.binds (ps := ["signature", "value", "sort", "known", "left"]) fun _ _ _ _ _ _ us hl => match us, hl with | [_, _, _, _, _], _ => rfl
  have g_sorts_within := PySem.W.mg_of X G a_sorts_within
  have b_variable_sorts := F_variable_sorts.binds (ps := ["signature", "value"]) fun _ _ _ _ _ _ us hl => match us, hl with | [_, _], _ => rfl
  have g_variable_sorts := PySem.W.mg_of X G a_variable_sorts
  have b_is_pattern := F_is_pattern.binds (ps := ["signature", "value"]) fun _ _ _ _ _ _ us hl => match us, hl with | [_, _], _ => rfl
  have g_is_pattern := PySem.W.mg_of X G a_is_pattern
  have b_pieces_of := F_pieces_of.binds (ps := ["text"]) fun _ _ _ _ _ _ us hl => match us, hl with | [_], _ => rfl
  have g_pieces_of := PySem.W.mg_of X G a_pieces_of
  have b_write := F_write.binds (ps := ["term"]) fun _ _ _ _ _ _ us hl => match us, hl with | [_], _ => rfl
  have g_write := PySem.W.mg_of X G a_write
  have b_read_from := F_read_from.binds (ps := ["pieces", "place"]) fun _ _ _ _ _ _ us hl => match us, hl with | [_, _], _ => rfl
  have g_read_from := PySem.W.mg_of X G a_read_from
  have b_nested := F_nested.binds (ps := ["text"]) fun _ _ _ _ _ _ us hl => match us, hl with | [_], _ => rfl
  have g_nested := PySem.W.mg_of X G a_nested
  have b_read := F_read.binds (ps := ["signature", "text"]) fun _ _ _ _ _ _ us hl => match us, hl with | [_, _], _ => rfl
  have g_read := PySem.W.mg_of X G a_read
  have b_read_pattern := F_read_pattern.binds (ps := ["signature", "text"]) fun _ _ _ _ _ _ us hl => match us, hl with | [_, _], _ => rfl
  have g_read_pattern := PySem.W.mg_of X G a_read_pattern
  have b__law_take := F__law_take.binds (ps := ["draws", "bound"]) fun _ _ _ _ _ _ us hl => match us, hl with | [_, _], _ => rfl
  have g__law_take := PySem.W.mg_of X G a__law_take
  have b__law_text := F__law_text.binds (ps := ["term"]) fun _ _ _ _ _ _ us hl => match us, hl with | [_], _ => rfl
  have g__law_text := PySem.W.mg_of X G a__law_text
  have b__law_named := F__law_named.binds (ps := ["text"]) fun _ _ _ _ _ _ us hl => match us, hl with | [_], _ => rfl
  have g__law_named := PySem.W.mg_of X G a__law_named
  have b__law_read := F__law_read.binds (ps := ["text"]) fun _ _ _ _ _ _ us hl => match us, hl with | [_], _ => rfl
  have g__law_read := PySem.W.mg_of X G a__law_read
  have b__law_whole := F__law_whole.binds (ps := ["text"]) fun _ _ _ _ _ _ us hl => match us, hl with | [_], _ => rfl
  have g__law_whole := PySem.W.mg_of X G a__law_whole
  have b__law_alike := F__law_alike.binds (ps := ["found", "due"]) fun _ _ _ _ _ _ us hl => match us, hl with | [_, _], _ => rfl
  have g__law_alike := PySem.W.mg_of X G a__law_alike
  have b__law_holed := F__law_holed.binds (ps := ["draws", "term", "often"]) fun _ _ _ _ _ _ us hl => match us, hl with | [_, _, _], _ => rfl
  have g__law_holed := PySem.W.mg_of X G a__law_holed
  have b__law_leaves := F__law_leaves.binds (ps := ["signature", "sort"]) fun _ _ _ _ _ _ us hl => match us, hl with | [_, _], _ => rfl
  have g__law_leaves := PySem.W.mg_of X G a__law_leaves
  have b__law_draws := F__law_draws.binds (ps := ["script"]) fun _ _ _ _ _ _ us hl => match us, hl with | [_], _ => rfl
  have g__law_draws := PySem.W.mg_of X G a__law_draws
  have b__law_word := F__law_word.binds (ps := ["e"]) fun _ _ _ _ _ _ us hl => match us, hl with | [_], _ => rfl
  have g__law_word := PySem.W.mg_of X G a__law_word
  have b__law_told := F__law_told.binds (ps := ["which", "signature", "text"]) fun _ _ _ _ _ _ us hl => match us, hl with | [_, _, _], _ => rfl
  have g__law_told := PySem.W.mg_of X G a__law_told
  have b__law_signature := F__law_signature.binds (ps := ["draws"]) fun _ _ _ _ _ _ us hl => match us, hl with | [_], _ => rfl
  have g__law_signature := PySem.W.mg_of X G a__law_signature
  have b__law_term := F__law_term.binds (ps := ["draws", "signature", "sort", "deep"]) fun _ _ _ _ _ _ us hl => match us, hl with | [_, _, _, _], _ => rfl
  have g__law_term := PySem.W.mg_of X G a__law_term
  have z : ∀ {x : Str}, PySem.W.nsIn K mainGlobals x = some none → mg x = none := fun e => PySem.W.mg_none_of X G e
  have T0 : Txt0 mg := ⟨⟨z zb_abs, z zb_int, z zb_range, z zb_len, z zb_list, z zb_reversed, z zb_isinstance, z zb_bool, z zb_str, z zb_tuple, z zb_all, z zb_zip, z zb_sorted, ⟨_, PySem.W.mg_of X G gi_MOST_NUMERAL⟩, ⟨_, PySem.W.mg_of X G gi_MOST_SIZE⟩, ⟨_, PySem.W.mg_of X G gi_MOST_VARIABLE⟩, ⟨_, PySem.W.mg_of X G gs_STOPS⟩, ⟨_, PySem.W.mg_of X G gi_MOST_OPEN⟩, ⟨_, PySem.W.mg_of X G gs_NUMBERS⟩, ⟨_, PySem.W.mg_of X G gs_LETTERS⟩, ⟨_, PySem.W.mg_of X G gs_FIGURES⟩⟩⟩
  have R : Ers K mg Ee Eo Em En Er Et := ⟨(PySem.W.mg_of X G aEe), (PySem.W.mg_of X G aEo), (PySem.W.mg_of X G aEm), (PySem.W.mg_of X G aEn), (PySem.W.mg_of X G aEr), (PySem.W.mg_of X G aEt)⟩
  have emEm : PySem.W.exmOne K (.ref Em) (.ref Ee) = some true := PySem.W.exm_ref bEe dEe tyEe sEmEe
  have R1Em : Er1 K Ee Eo Em En Er Et Em 1 := ⟨(kit_ne isEo tyEo sEmEo uEm), kit_self, (kit_ne isEn tyEn sEmEn uEm), (kit_ne isEr tyEr sEmEr uEm), (kit_ne isEt tyEt sEmEt uEm), ⟨x0Em, x1Em, bEm, x2Em, x3Em, x4, x5, x6Em⟩, emEm⟩
  have TE : TxE K mg Em := ⟨T0, (PySem.W.mg_of X G aEm), kpEm, qEm, bEm, tyEm⟩
  refine ⟨PySem.W.fnOf "law" "law" (defArgs s_law) (defBody s_law) (defScope s_law) .none kV_law dc_law pm_law an_law cd_law ct_law, [(x_number_of, p_number_of), (x_is_variable, p_is_variable)], spLaw K [p_number_of, p_is_variable], ?_, ?_, ?_, fun s v => .of_eq rfl, fun H a ns hl _ hT hS => ⟨a, ns, rfl, hS, hl, (List.forall_mem_cons.mpr ⟨tabG (hT _ (.head _)), (List.forall_mem_cons.mpr ⟨tabG (hT _ (.tail _ (.head _))), (fun _ h => nomatch h)⟩)⟩), fun _ => rfl⟩, fun base0 _ _ hB => ?_⟩
  · exact (List.forall_mem_cons.mpr ⟨t_number_of.2, (List.forall_mem_cons.mpr ⟨t_is_variable.2, (fun _ h => nomatch h)⟩)⟩)
  · exact (List.forall_mem_cons.mpr ⟨z_number_of, (List.forall_mem_cons.mpr ⟨z_is_variable, (fun _ h => nomatch h)⟩)⟩)
  · exact (List.forall_mem_cons.mpr ⟨t_number_of.1, (List.forall_mem_cons.mpr ⟨t_is_variable.1, (fun _ h => nomatch h)⟩)⟩)
  have tb_number_of := tabB (hB _ (.head _))
  have ht_number_of : p_number_of ∈ [p_number_of, p_is_variable] := (.head _)
  have tb_is_variable := tabB (hB _ (.tail _ (.head _)))
  have ht_is_variable : p_is_variable ∈ [p_number_of, p_is_variable] := (.tail _ (.head _))
  have G_is_number := ok_is_number F_is_number T0 (P := l.prog) (w := w) (mg := mg) (base := base0) (tabs := [p_number_of, p_is_variable])
  have G_numeral_of := ok_numeral F_numeral_of T0 G_is_number F_is_number b_is_number g_is_number
  have G_number_of := ok_number F_number_of tb_number_of ht_number_of T0 G_numeral_of F_numeral_of b_numeral_of g_numeral_of
  have G_kind_of := ok_kind F_kind_of T0 G_number_of F_number_of.fun b_number_of g_number_of
  have G_sort_within := ok_sort F_sort_within T0 b_sort_within g_sort_within G_kind_of F_kind_of b_kind_of g_kind_of 201
  have G_is_term := ok_is_term F_is_term T0 (D := 201) G_sort_within F_sort_within b_sort_within g_sort_within
  have G_is_variable := ok_is_variable F_is_variable tb_is_variable ht_is_variable T0 (P := l.prog) (w := w) (mg := mg) (base := base0) (tabs := [p_number_of, p_is_variable])
  have G_sorts_within := ok_pat F_sorts_within T0 b_sorts_within g_sorts_within G_kind_of F_kind_of b_kind_of g_kind_of G_is_variable F_is_variable.fun b_is_variable g_is_variable 201
  have G_variable_sorts := ok_vars F_variable_sorts T0 (D := 201) G_sorts_within F_sorts_within b_sorts_within g_sorts_within G_is_variable F_is_variable.fun b_is_variable g_is_variable
  have G_is_pattern := ok_is_pattern F_is_pattern T0 (D := 201) G_variable_sorts F_variable_sorts b_variable_sorts g_variable_sorts
  have G_pieces_of := ok_pieces F_pieces_of T0 (P := l.prog) (w := w) (mg := mg) (base := base0) (tabs := [p_number_of, p_is_variable])
  have G_write := ok_write F_write T0 b_write g_write 201 (P := l.prog) (w := w) (mg := mg) (base := base0) (tabs := [p_number_of, p_is_variable])
  have G_read_from := ok_read_from F_read_from TE b_read_from g_read_from 200 (P := l.prog) (w := w) (mg := mg) (base := base0) (tabs := [p_number_of, p_is_variable])
  have G_nested := ok_nested F_nested TE G_pieces_of F_pieces_of b_pieces_of g_pieces_of G_read_from F_read_from b_read_from g_read_from G_write F_write b_write g_write
  have G_read := ok_read F_read TE G_nested F_nested b_nested g_nested G_is_term F_is_term b_is_term g_is_term
  have G_read_pattern := ok_read_pattern F_read_pattern TE G_nested F_nested b_nested g_nested G_is_pattern F_is_pattern b_is_pattern g_is_pattern
  have G__law_take := ok_take F__law_take T0 (P := l.prog) (w := w) (mg := mg) (base := base0) (tabs := [p_number_of, p_is_variable])
  have G__law_text := ok_text F__law_text T0 b__law_text g__law_text 201 (P := l.prog) (w := w) (mg := mg) (base := base0) (tabs := [p_number_of, p_is_variable])
  have G__law_named := ok_named F__law_named T0 (P := l.prog) (w := w) (mg := mg) (base := base0) (tabs := [p_number_of, p_is_variable])
  have G__law_read := ok_lread F__law_read T0 b__law_read g__law_read G__law_named F__law_named b__law_named g__law_named 200
  have G__law_whole := ok_whole (D := 200) F__law_whole T0 G__law_read F__law_read b__law_read g__law_read
  have G__law_alike := ok_alike F__law_alike T0 b__law_alike g__law_alike 208 (P := l.prog) (w := w) (mg := mg) (base := base0) (tabs := [p_number_of, p_is_variable])
  have G__law_holed := ok_holed F__law_holed T0 b__law_holed g__law_holed G__law_take F__law_take b__law_take g__law_take 5
  have G__law_leaves := ok_leaves F__law_leaves T0 (P := l.prog) (w := w) (mg := mg) (base := base0) (tabs := [p_number_of, p_is_variable])
  have G__law_draws := ok_draws F__law_draws T0 (P := l.prog) (w := w) (base := base0)
  have G__law_word := ok_word F__law_word T0 R R1Em (x := "form") rfl (P := l.prog) (w := w) (base := base0)
  have G__law_told := ok_told F__law_told T0 R emEm G_read F_read b_read g_read G_read_pattern F_read_pattern b_read_pattern g_read_pattern G__law_word k__law_word b__law_word g__law_word
  have G__law_signature := ok_signature F__law_signature T0 G__law_take F__law_take b__law_take g__law_take
  have G__law_term := ok_term F__law_term T0 b__law_term g__law_term G__law_take F__law_take b__law_take g__law_take G__law_leaves F__law_leaves b__law_leaves g__law_leaves 4
  exact ok_law F_law T0 G__law_draws F__law_draws b__law_draws g__law_draws G__law_take F__law_take b__law_take g__law_take G__law_signature F__law_signature b__law_signature g__law_signature G__law_term F__law_term b__law_term g__law_term G__law_text F__law_text b__law_text g__law_text G_write F_write b_write g_write G__law_alike F__law_alike b__law_alike g__law_alike G__law_told F__law_told b__law_told g__law_told G__law_holed F__law_holed b__law_holed g__law_holed G_is_term F_is_term b_is_term g_is_term G_is_pattern F_is_pattern b_is_pattern g_is_pattern G__law_whole F__law_whole b__law_whole g__law_whole
/-- the walk: F has the top, so that the tables can be found empty -/
theorem walk {l : PySem.W.OpenLaw} {q : Program} {loose : List Str} {XP : (Str → Option Value) → Heap → Prop} {YP : World → Heap → Prop} {d : DefRec} {K : Params → PySem.W.Frag} (hn : l.most = some 63) (hdf : d.params.defaults = [])
    (hY : ∀ (w : World) (h : Heap), YP w h → (K w.params).In h)
    (F : ∀ (w : World) (mg mb : Str → Option Value) (fa : Addr) (h : Heap) (mean : ExcName → Option Value), (K w.params).In h → PyProof.Rows.Top q (PySem.W.looseW q loose) mean mg mb h → mg d.name = some (.ref fa) → LamX.LawAtS l w (K w.params) CX0 212 63 "script" mg fa h) :
    PySem.W.WalkO q loose XP YP l.row.toRowW d [] (fun f vs => PySem.call f vs) := by
  refine Att.attach_callB hn hdf ?_
  intro w s0 s1 mg mb fa _ _ _ _ a vs ns Gr Yp _ _ _ named list whole many bits gens
  obtain ⟨fd, cs, sp, e1, e2, e3, e4, e5, e6⟩ := F w mg mb fa _ _ (hY w _ Yp) Gr.T named
  have room : Room 212 callerA := ⟨rfl, by decide, by decide⟩
  have fits : ns.length ≤ sizeLine := Nat.le_trans many (by decide)
  exact LamX.law_callTs (hY w _ Yp) Gr.T.g Gr.T.b Gr.T.builtins Gr.T.nolimit gens e1 e2 e3 Gr.T.bmain list whole fits room e6 e4 (fun H t hS => e5 H a ns many bits t hS) fun _ _ _ z => z
end K05
open PySem PySem.W PyProof.Rows
set_option maxRecDepth 100000 in
set_option maxHeartbeats 0 in
theorem PySem.Challenge.cw_equalsgrown_k05_whole_texts_of_terms_holds : PySem.Challenge.rw_equalsgrown_k05_whole_texts_of_terms.Holds := by
  w_on; o_law; k_head; (case hw => w_witness2)
  k_fill
  refine K05.walk (l := PySem.Challenge.rw_equalsgrown_k05_whole_texts_of_terms) rfl rfl (fun w h Y => PySem.W.kIn_of Y) ?F
  case F =>
    intro w mg mb fa h mean KX T hmg
    have G := T.g
    refine' K05.all_mk KX G hmg ?a_is_number ?l_is_number ?c_is_number ?k_is_number ?a_numeral_of ?l_numeral_of ?c_numeral_of ?k_numeral_of ?a_number_of ?l_number_of ?c_number_of ?k_number_of ?w_number_of ?v_number_of ?z_number_of ?t_number_of ?a_kind_of ?l_kind_of ?c_kind_of ?k_kind_of ?a_sort_within ?l_sort_within ?c_sort_within ?k_sort_within ?a_is_term ?l_is_term ?c_is_term ?k_is_term ?a_is_variable ?l_is_variable ?c_is_variable ?k_is_variable ?w_is_variable ?v_is_variable ?z_is_variable ?t_is_variable ?a_sorts_within ?l_sorts_within ?c_sorts_within ?k_sorts_within ?a_variable_sorts ?l_variable_sorts ?c_variable_sorts ?k_variable_sorts ?a_is_pattern ?l_is_pattern ?c_is_pattern ?k_is_pattern ?a_pieces_of ?l_pieces_of ?c_pieces_of ?k_pieces_of ?a_write ?l_write ?c_write ?k_write ?a_read_from ?l_read_from ?c_read_from ?k_read_from ?a_nested ?l_nested ?c_nested ?k_nested ?a_read ?l_read ?c_read ?k_read ?a_read_pattern ?l_read_pattern ?c_read_pattern ?k_read_pattern ?a__law_take ?l__law_take ?c__law_take ?k__law_take ?a__law_text ?l__law_text ?c__law_text ?k__law_text ?a__law_named ?l__law_named ?c__law_named ?k__law_named ?a__law_read ?l__law_read ?c__law_read ?k__law_read ?a__law_whole ?l__law_whole ?c__law_whole ?k__law_whole ?a__law_alike ?l__law_alike ?c__law_alike ?k__law_alike ?a__law_holed ?l__law_holed ?c__law_holed ?k__law_holed ?a__law_leaves ?l__law_leaves ?c__law_leaves ?k__law_leaves ?a__law_draws ?l__law_draws ?c__law_draws ?k__law_draws ?a__law_word ?l__law_word ?c__law_word ?k__law_word ?a__law_told ?l__law_told ?c__law_told ?k__law_told ?a__law_signature ?l__law_signature ?c__law_signature ?k__law_signature ?a__law_term ?l__law_term ?c__law_term ?k__law_term ?a_law ?l_law ?c_law ?k_law ?zb_abs ?zb_int ?zb_range ?zb_len ?zb_list ?zb_reversed ?zb_isinstance ?zb_bool ?zb_str ?zb_tuple ?zb_all ?zb_zip ?zb_sorted ?gi_MOST_NUMERAL ?gi_MOST_SIZE ?gi_MOST_VARIABLE ?gi_MOST_OPEN ?gs_STOPS ?gs_NUMBERS ?gs_LETTERS ?gs_FIGURES ?aEe ?aEo ?aEm ?aEn ?aEr ?aEt ?isEe ?tyEe ?isEo ?tyEo ?isEm ?tyEm ?isEn ?tyEn ?isEr ?tyEr ?isEt ?tyEt ?bEe ?dEe ?kpEm ?qEm ?bEm ?uEm ?sEmEe ?sEmEo ?sEmEn ?sEmEr ?sEmEt ?x0Em ?x1Em ?x2Em ?x3Em ?x6Em ?x4 ?x5
    (case a_is_number => k_is)
    (case l_is_number => k_is)
    (case c_is_number => k_is)
    (case k_is_number => k_is)
    (case a_numeral_of => k_is)
    (case l_numeral_of => k_is)
    (case c_numeral_of => k_is)
    (case k_numeral_of => k_is)
    (case a_number_of => k_is)
    (case l_number_of => k_is)
    (case c_number_of => k_is)
    (case k_number_of => k_is)
    (case w_number_of => k_is)
    (case v_number_of => rfl)
    (case z_number_of => kernel_rfl)
    (case t_number_of => exact PySem.W.tab_of (x := "number_of") T KX rfl (by kernel_rfl))
    (case a_kind_of => k_is)
    (case l_kind_of => k_is)
    (case c_kind_of => k_is)
    (case k_kind_of => k_is)
    (case a_sort_within => k_is)
    (case l_sort_within => k_is)
    (case c_sort_within => k_is)
    (case k_sort_within => k_is)
    (case a_is_term => k_is)
    (case l_is_term => k_is)
    (case c_is_term => k_is)
    (case k_is_term => k_is)
    (case a_is_variable => k_is)
    (case l_is_variable => k_is)
    (case c_is_variable => k_is)
    (case k_is_variable => k_is)
    (case w_is_variable => k_is)
    (case v_is_variable => rfl)
    (case z_is_variable => kernel_rfl)
    (case t_is_variable => exact PySem.W.tab_of (x := "is_variable") T KX rfl (by kernel_rfl))
    (case a_sorts_within => k_is)
    (case l_sorts_within => k_is)
    (case c_sorts_within => k_is)
    (case k_sorts_within => k_is)
    (case a_variable_sorts => k_is)
    (case l_variable_sorts => k_is)
    (case c_variable_sorts => k_is)
    (case k_variable_sorts => k_is)
    (case a_is_pattern => k_is)
    (case l_is_pattern => k_is)
    (case c_is_pattern => k_is)
    (case k_is_pattern => k_is)
    (case a_pieces_of => k_is)
    (case l_pieces_of => k_is)
    (case c_pieces_of => k_is)
    (case k_pieces_of => k_is)
    (case a_write => k_is)
    (case l_write => k_is)
    (case c_write => k_is)
    (case k_write => k_is)
    (case a_read_from => k_is)
    (case l_read_from => k_is)
    (case c_read_from => k_is)
    (case k_read_from => k_is)
    (case a_nested => k_is)
    (case l_nested => k_is)
    (case c_nested => k_is)
    (case k_nested => k_is)
    (case a_read => k_is)
    (case l_read => k_is)
    (case c_read => k_is)
    (case k_read => k_is)
    (case a_read_pattern => k_is)
    (case l_read_pattern => k_is)
    (case c_read_pattern => k_is)
    (case k_read_pattern => k_is)
    (case a__law_take => k_is)
    (case l__law_take => k_is)
    (case c__law_take => k_is)
    (case k__law_take => k_is)
    (case a__law_text => k_is)
    (case l__law_text => k_is)
    (case c__law_text => k_is)
    (case k__law_text => k_is)
    (case a__law_named => k_is)
    (case l__law_named => k_is)
    (case c__law_named => k_is)
    (case k__law_named => k_is)
    (case a__law_read => k_is)
    (case l__law_read => k_is)
    (case c__law_read => k_is)
    (case k__law_read => k_is)
    (case a__law_whole => k_is)
    (case l__law_whole => k_is)
    (case c__law_whole => k_is)
    (case k__law_whole => k_is)
    (case a__law_alike => k_is)
    (case l__law_alike => k_is)
    (case c__law_alike => k_is)
    (case k__law_alike => k_is)
    (case a__law_holed => k_is)
    (case l__law_holed => k_is)
    (case c__law_holed => k_is)
    (case k__law_holed => k_is)
    (case a__law_leaves => k_is)
    (case l__law_leaves => k_is)
    (case c__law_leaves => k_is)
    (case k__law_leaves => k_is)
    (case a__law_draws => k_is)
    (case l__law_draws => k_is)
    (case c__law_draws => k_is)
    (case k__law_draws => k_is)
    (case a__law_word => k_is)
    (case l__law_word => k_is)
    (case c__law_word => k_is)
    (case k__law_word => k_is)
    (case a__law_told => k_is)
    (case l__law_told => k_is)
    (case c__law_told => k_is)
    (case k__law_told => k_is)
    (case a__law_signature => k_is)
    (case l__law_signature => k_is)
    (case c__law_signature => k_is)
    (case k__law_signature => k_is)
    (case a__law_term => k_is)
    (case l__law_term => k_is)
    (case c__law_term => k_is)
    (case k__law_term => k_is)
    (case a_law => k_is)
    (case l_law => k_is)
    (case c_law => k_is)
    (case k_law => k_is)
    (case zb_abs => k_is)
    (case zb_int => k_is)
    (case zb_range => k_is)
    (case zb_len => k_is)
    (case zb_list => k_is)
    (case zb_reversed => k_is)
    (case zb_isinstance => k_is)
    (case zb_bool => k_is)
    (case zb_str => k_is)
    (case zb_tuple => k_is)
    (case zb_all => k_is)
    (case zb_zip => k_is)
    (case zb_sorted => k_is)
    (case gi_MOST_NUMERAL => k_is)
    (case gi_MOST_SIZE => k_is)
    (case gi_MOST_VARIABLE => k_is)
    (case gi_MOST_OPEN => k_is)
    (case gs_STOPS => k_is)
    (case gs_NUMBERS => k_is)
    (case gs_LETTERS => k_is)
    (case gs_FIGURES => k_is)
    (case aEe => k_is)
    (case aEo => k_is)
    (case aEm => k_is)
    (case aEn => k_is)
    (case aEr => k_is)
    (case aEt => k_is)
    (case isEe => k_is)
    (case tyEe => k_is)
    (case isEo => k_is)
    (case tyEo => k_is)
    (case isEm => k_is)
    (case tyEm => k_is)
    (case isEn => k_is)
    (case tyEn => k_is)
    (case isEr => k_is)
    (case tyEr => k_is)
    (case isEt => k_is)
    (case tyEt => k_is)
    (case bEe => k_is)
    (case dEe => k_is)
    (case kpEm => k_is)
    (case qEm => k_exc)
    (case bEm => k_is)
    (case uEm => first | rfl | k_is)
    (case sEmEe => k_is)
    (case sEmEo => k_is)
    (case sEmEn => k_is)
    (case sEmEr => k_is)
    (case sEmEt => k_is)
    (case x0Em => k_is)
    (case x1Em => k_is)
    (case x2Em => k_is)
    (case x3Em => k_is)
    (case x6Em => k_is)
    (case x4 => k_is)
    (case x5 => k_is)
#print axioms PySem.Challenge.cw_equalsgrown_k05_whole_texts_of_terms_holds
