import PyProof.Rows.All
import Wide.All
import OpenK.AllK
import Wide.FinOn
import HandS.GenList
import HandS.Comp
import HandS.AnyAll
import HandS.Iter
import PyProof.GenArm
import HandS.ForMost
import HandS.More
import HandS.DeepEq
import HandS.Evl
import HandS.IsInst
import HandS.TryOnly
import HandS.ForExc
import HandS.Hot
import HandS.ExcCtx
import HandS.HotCalls
import HandS.ExcIs
import PyProof.Rows.TupIter
import PyProof.ListMulRoad
import PyProof.FactsAll.tuple_2
import HandS.Base
import HandS.Call
import HandS.List
import HandS.TupMul
import HandS.Rev
import HandS.EndBits
import HandS.Style
import HandS.Star
import HandS.TupAny
import HandS.Text
import PySem.Challenge.RW_equalsgrown_k48_whole_code_for_a_stack
import HandS.Strs
import HandS.ExcOwn
import HandS.EndTab
set_option Elab.async false
set_option linter.all false
set_option maxRecDepth 100000
set_option maxHeartbeats 2000000
/-! generator expressions whose elements may call defs: all, any -/
namespace GG
open PySem PySem.Spec PyProof.Rows L2 GenW

/-- the context of a generator expression's code: s, H as its frame is laid; fp: the source's iterator; pn: the generator's own object -/
abbrev gex (X : Cx) (A : Around) (s : Shared) (H : Hp) (genv : Env) (fp : List Addr) (pn : List (Addr × Obj)) : Cx :=
  { X with A := A.deeper genv, s_0 := s, H_0 := H, env := genv, outer := X.stack, stack := genv :: X.stack, ex := fp, fn := fun _ => false, pn := pn, xe := fun _ _ => False }

theorem over_gen {A : Around} {elt target iter : Expr} {ifs : List Expr} {scope : Scope} {pos : Pos} {it acc : Value} {env : Env} :
    A.over (.compLoop (.GeneratorExp elt [⟨target, iter, ifs, 0⟩] scope pos) 0 it acc env) [] = A.deeper env := by
  first
    | rfl
    | (obtain ⟨hd, d, fr, gs, u⟩ := A; simp [Around.over, Around.deeper, marksOver, frameCount, unitsOf, envsOf, guardsOf, pushEnvs, pushGuards, Code.envs, Code.env?, Code.isFrame, Code.guards, Code.isGuard, Code.weight, Code.frames, Code.isCreation, Code.isCaller, Code.cUnits])
theorem over_gen0 {A : Around} {elt target iter : Expr} {ifs : List Expr} {scope : Scope} {pos : Pos} {it acc : Value} {env : Env} :
    A.over (.compStart (.GeneratorExp elt [⟨target, iter, ifs, 0⟩] scope pos) 0 it acc env) [] = A.deeper env := by
  first
    | rfl
    | (obtain ⟨hd, d, fr, gs, u⟩ := A; simp [Around.over, Around.deeper, marksOver, frameCount, unitsOf, envsOf, guardsOf, pushEnvs, pushGuards, Code.envs, Code.env?, Code.isFrame, Code.guards, Code.isGuard, Code.weight, Code.frames, Code.isCreation, Code.isCaller, Code.cUnits])

section
variable {X : Cx} {pins : List (Addr × Obj)} {σ : L2.St} {H : Hp} {s : Shared}

theorem gen_start {A : Around} {scope : Scope} {own : List (Str × Nat)} {fp : List Addr} {code : Value} {it : Value} {h' h5 : Heap} {g5 : Array GenState} {t5 : Nat} {a : Addr} {ob : Obj}
    (I : Inv X pins σ H s) (ok : BlkOk X.N X.env.scope scope own) (hcell : ∀ y ∈ scope.names, y.2 ≠ .cell) (hN : X.N.Nodup) (hA : A.handled = none) (hfr : A.frames = some X.stack) (hfp : ∀ b ∈ fp, FpOk X pins H b ∧ b < s.heap.objs.size)
    (hn' : h'.Ns s.heap.objs.size (fun y => if y = ".0" then some it else none)) (hk' : ∀ b o, s.heap.get? b = some o → h'.get? b = some o)
    (hk5 : ∀ b o, h'.get? b = some o → h5.get? b = some o) (ha : s.heap.objs.size < a) (hao : h5.get? a = some ob) (hoc : ∀ v, ob.data ≠ .cell v) (hg : AllBare g5) :
    Inv (gex X A s H (genEnv scope (cloFrom X.env.cells scope.names []) s.heap.objs.size code builtinsNs X.env) fp [(a, ob)]) [] (wipe σ (own.map (·.2))) H { s with gens := g5, toks := t5, heap := h5 } := by
  have hfree : ∀ y ∈ scope.names, y.2 = .free → ∃ c, X.env.cells.lookup y.1 = some c := fun y hy e => by
    rcases ok.free y hy e with k | k
    · exact I.ok.has _ (.inl k)
    · exact I.ok.has _ (.inr k)
  have kp : ∀ b o, s.heap.get? b = some o → h5.get? b = some o := fun b o e => hk5 b o (hk' b o e)
  have cm : ∀ {y c}, (y, c) ∈ cloFrom X.env.cells scope.names [] → X.env.cells.lookup y = some c ∧ c < s.heap.objs.size := fun {y c} hm => by
    rcases cloFrom_mem hm with hm | ⟨h1, rfl⟩
    · cases hm
    · obtain ⟨c, hc⟩ := hfree _ h1 rfl
      rw [hc]
      obtain ⟨w, z⟩ := I.cell _ _ hc
      exact ⟨rfl, z.lt⟩
  have cml : ∀ {y c}, (cloFrom X.env.cells scope.names []).lookup y = some c → X.env.cells.lookup y = some c ∧ c < s.heap.objs.size := fun {y c} e => cm (PySem.mem_of_lookup e)
  have look : ∀ {y}, scope.names.lookup y = some .free → ∃ c, (cloFrom X.env.cells scope.names []).lookup y = some c ∧ X.env.cells.lookup y = some c := fun {y} hl => by
    have hy : (y, NameKind.free) ∈ scope.names := PySem.mem_of_lookup hl
    obtain ⟨c', e'⟩ := mem_lookup (cloFrom_has (cells := X.env.cells) (acc := []) hy)
    exact ⟨c', e', (cml e').1⟩
  have okG : (gex X A s H (genEnv scope (cloFrom X.env.cells scope.names []) s.heap.objs.size code builtinsNs X.env) fp [(a, ob)]).Ok := by
    refine ⟨I.ok.mod, ok.kind, I.ok.glob, rfl, Nat.le_refl _, fun y z c e1 e2 => ?_, fun y hy => ?_, fun y c z e => ?_, fun _ => hA, Around.frames_deeper hfr, .inr ⟨rfl, rfl⟩, fun b hb => ⟨?_, fun y c e z => ?_⟩, I.bs, Nat.le_trans I.ok.bsz I.sz, fun b o e hb => ?_, fun b hb z => ?_, I.stack, I.stkFree⟩
    · exact I.ok.inj y z c (cml e1).1 (cml e2).1
    · have hy : scope.names.lookup y = some .cell ∨ scope.names.lookup y = some .free := hy
      rcases hy with hy | hy
      · exact absurd rfl (hcell _ (PySem.mem_of_lookup hy))
      · obtain ⟨c, h1, _⟩ := look hy
        exact ⟨c, h1⟩
    · cases z
    · exact Nat.ne_of_lt (hfp b hb).2
    · exact (hfp b hb).1.2.2.2.2.1 y c (cml e).1 z
    · rcases (hfp b hb).1.2.2.2.1 with z | z
      · exact I.ok.noex b o e z
      · exact absurd (Nat.lt_of_lt_of_le (Heap.lt_size e) (Nat.le_trans I.ok.bsz z)) (Nat.lt_irrefl _)
    · rcases List.mem_cons.mp (I.stkSub b z) with z | z
      · exact (hfp b hb).1.2.1 z
      · exact (hfp b hb).1.2.2.1 z
  refine ⟨okG, rfl, hg, Un.kept kp, ⟨_, hn'.keeps hk5, fun i y av e1 e2 e3 => ?_⟩, fun y c e => ?_, I.hok.fresh (Nat.le_refl _), fun y c e => ?_, fun p hp => ?_, I.hok.kept kp, by rw [wipe_length]; exact I.len⟩
  · obtain ⟨e2, hne⟩ := wipe_some e2
    have e3 : Vis scope y := e3
    have no : ∀ k, scope.names.lookup y = some k → ¬ (k = .local ∨ k = .cell) := fun k e hh => by
      rcases ok.own _ (PySem.mem_of_lookup e) hh with e' | e'
      · obtain ⟨p, hp, hpy⟩ := List.mem_map.mp e'
        have e4 := ok.ix p hp
        have : p.1 = y := hpy
        rw [this] at e4
        exact hne (List.mem_map.mpr ⟨p, hp, nodup_ix hN e4 e1⟩)
      · exact e' (List.mem_of_getElem? e1)
    have hfr' : scope.names.lookup y = some .free := by
      rcases e3 with e3 | e3 | e3
      · exact absurd (.inl rfl) (no _ e3)
      · exact absurd (.inr rfl) (no _ e3)
      · exact e3
    obtain ⟨m, hn, hl⟩ := I.loc
    have hvis : Vis X.env.scope y := (ok.free _ (PySem.mem_of_lookup hfr') rfl).elim (fun k => .inr (.inl k)) (fun k => .inr (.inr k))
    obtain ⟨w, r, q⟩ := hl i y av e1 e2 hvis
    obtain ⟨c, h1, h2⟩ := look hfr'
    refine ⟨w, r, .inr ⟨.inr hfr', ?_⟩⟩
    rcases q with ⟨k, _⟩ | ⟨_, c', e', z⟩
    · have k : X.env.scope.names.lookup y = some .local := k
      rcases ok.free _ (PySem.mem_of_lookup hfr') rfl with k' | k' <;> rw [show X.env.scope.names.lookup y = _ from k'] at k <;> cases k
    · rw [h2] at e'; cases e'
      exact ⟨c, h1, z.keeps kp⟩
  · obtain ⟨w, z⟩ := I.cell y c (cml e).1
    exact ⟨w, z.keeps kp⟩
  · exact I.freeC y c (cml e).1
  · have e : p = (a, ob) := by simpa using hp
    subst e
    exact ⟨hao, I.hok.fresh (Nat.le_of_lt ha), Nat.ne_of_gt ha, fun hb => by
      rcases List.mem_cons.mp (I.stkSub a hb) with z | z
      · have := I.lt
        rw [← z] at this
        exact absurd (Nat.lt_trans this ha) (Nat.lt_irrefl _)
      · exact I.nofs (Nat.le_of_lt ha) z, hoc⟩

/-- while the generator sleeps: all is kept -/
structure Slp (s s' : Shared) : Prop where
  os : s'.os = s.os
  bare : AllBare s'.gens
  keep : ∀ b o, s.heap.get? b = some o → s'.heap.get? b = some o
theorem Inv.slp {s' : Shared} (I : Inv X pins σ H s) (z : Slp s s') : Inv X pins σ H s' :=
  I.call' (ch := []) z.os (Un.kept z.keep) (I.hok.kept z.keep) z.bare fun b hb => absurd hb (by simp)

/-- the end, an item -/
def GRn (G : Cx) (Fin : Hp → Prop) : GenEnd := fun n s₀ r s₁ => ((r = .ok (.ret .none) ∨ r = .ok .next) ∧ ∃ σ H', Inv G [] σ H' s₁ ∧ Fin H') ∨ ∃ e, r = .error e ∧ False
def GYd (G : Cx) (Go : V → Prop) (Stp : V → Hp → Prop) : Protocol := fun n s₀ v s kap =>
  ∃ y pins σ H', RelV y v ∧ Inv G pins σ H' s ∧ ((Go y ∧ ∀ s', Slp s s' → kap (.send .none) s') ∨ Stp y H')

/-- what a turn asks (as tLc): W by the turn and a measure -/
def GTurn (J : It) (g : TG) (tt : TT) (te : TE) (vs : List Nat) (σ : L2.St) (Go : V → Prop) (Stp : V → Hp → Prop) (Fin : Hp → Prop) (W : Nat → Nat → Hp → Prop) : Prop := ∀ i m H, W i m H →
  (J.stop i H ∧ Fin H) ∨ (J.go i H ∧ ∃ Nx : Hp → Prop, (∀ H', Nx H' → ∃ m', m' < m ∧ W (i + 1) m' H') ∧ ∀ x H', J.yld i H x H' → g x (wipe σ vs) H' fun σ2 H2 => wipe σ2 vs = wipe σ vs ∧ tt σ2 H2 fun b H3 =>
    if b = true then te σ2 H3 fun y H4 => (Go y ∧ Nx H4) ∨ Stp y H4 else Nx H3)

theorem seg_gl {A : Around} {s4 : Shared} {H4 : Hp} {genv : Env} {fp : List Addr} {pn : List (Addr × Obj)} {elt tg iter : Expr} {ifs : List Expr} {scope : Scope} {pos : Pos} {vs : List Nat} {it : Addr} {tn : Nat → Heap → Prop} {J : It} {g : TG} {tt : TT} {te : TE}
    {Go : V → Prop} {Stp : V → Hp → Prop} {Fin : Hp → Prop} {W : Nat → Nat → Hp → Prop} (hc : X.calm = true) (hpn : ∀ p ∈ pn, p.1 ∉ fp) (hco : genv.scope.isCoroutine = false)
    (T : Turn X.prog X.w X.K tg J fp it tn) (hg : PG (gex X A s4 H4 genv fp pn) tg g) (ht : PTs (gex X A s4 H4 genv fp pn) ifs tt) (he : PE (gex X A s4 H4 genv fp pn) elt te)
    (turn : GTurn J g tt te vs σ Go Stp Fin W) :
    ∀ (m i n : Nat) (s₀ s : Shared) (H : Hp), m < n → W i m H → Inv (gex X A s4 H4 genv fp pn) [] (wipe σ vs) H s → tn i s.heap → (∀ b ∈ fp, H b = none) →
      Seg (model X.prog X.w) A (GRn (gex X A s4 H4 genv fp pn) Fin) (GYd (gex X A s4 H4 genv fp pn) Go Stp) n s₀
        (.compLoop (.GeneratorExp elt [⟨tg, iter, ifs, 0⟩] scope pos) 0 (.ref it) .none genv)
        ((model X.prog X.w).den (.compLoop (.GeneratorExp elt [⟨tg, iter, ifs, 0⟩] scope pos) 0 (.ref it) .none genv)) [] s := by
  have stat : ∀ {σ' : L2.St} {H' : Hp} {s' : Shared}, Inv (gex X A s4 H4 genv fp pn) [] σ' H' s' → (∀ b ∈ fp, H' b = none) → ∀ b ∈ fp, FpOk (gex X A s4 H4 genv fp pn) [] H' b := fun {σ' H' s'} I' hn b hb =>
    ⟨hn b hb, (I'.ok.exf b hb).1, I'.ok.exfs b hb, .inl hb, fun x c e => (I'.ok.exf b hb).2 x c e, fun p hp z => by
      rcases List.mem_append.mp hp with hp | hp
      · exact hpn p hp (by rw [z]; exact hb)
      · cases hp⟩
  intro m
  induction m using Nat.strongRecOn with
  | ind m ih =>
    intro i n s₀ s H hmn w I st hn
    show Seg _ A _ _ _ s₀ _ ((compTurn (.GeneratorExp elt [⟨tg, iter, ifs, 0⟩] scope pos) 0 (.ref it) .none genv).onRaise (leaving genv)) [] s
    rw [compTurn_gen, Sem.onRaise_eq_wrap]
    refine seg_bind_wrap (wpAny_standAt ?_)
    rcases turn i m H w with ⟨stop, fin⟩ | ⟨go, Nx, hNx, step⟩
    · refine seg_bind_wrap ?_
      rw [over_gen]
      refine thnF (T.done (gex X A s4 H4 genv fp pn) rfl rfl rfl hc i [] s _ H (fun _ _ => False) I (stat I hn) st stop) fun r s1 ⟨hr, I1⟩ => ?_
      subst hr
      exact seg_end (.ok .next) (.inl ⟨.inr rfl, _, H, I1, fin⟩)
    · refine seg_bind_wrap ?_
      rw [over_gen]
      refine thnF (T.item (gex X A s4 H4 genv fp pn) rfl rfl rfl hc i [] s _ H (fun _ _ => False) I (stat I hn) st go) fun r s1 ⟨u, hr, h1⟩ => ?_
      subst hr
      refine seg_bind_wrap ?_
      rw [over_gen]
      refine thnF h1 fun _ s2 ⟨x, H2, I2, r2, y2, st2, n2⟩ => ?_
      have I2' := I2.pinned (stat I2 n2) (T.obj _ _ st2)
      refine seg_bind_wrap ?_
      rw [over_gen]
      refine thnF (hg.run _ s2 _ H2 x u _ I2' r2 (step x H2 y2)) fun _ s3 ⟨σ3, H3, I3, hw3, q3⟩ => ?_
      refine seg_bind_wrap ?_
      rw [over_gen]
      refine thnF (ht.run _ s3 σ3 H3 _ I3 q3) fun b s5 ⟨H5, I5, q5⟩ => ?_
      have fin : ∀ {s' : Shared} {H' : Hp}, Inv (gex X A s4 H4 genv fp pn) ([] ++ pinsAt fp s2.heap) σ3 H' s' → Nx H' →
          ∃ m', m' < m ∧ W (i + 1) m' H' ∧ Inv (gex X A s4 H4 genv fp pn) [] (wipe σ vs) H' s' ∧ tn (i + 1) s'.heap ∧ (∀ b ∈ fp, H' b = none) := fun {s' H'} I' nx => by
        obtain ⟨m', hm, w'⟩ := hNx H' nx
        have pin' : ∀ b ∈ fp, ∀ o, s2.heap.get? b = some o → s'.heap.get? b = some o ∧ H' b = none := fun b hb o e =>
          let z := I'.pin (b, o) (List.mem_append_right _ (List.mem_append_right _ (mem_pinsAt hb e)))
          ⟨z.1, z.2.1⟩
        have hl : (wipe σ vs).length = σ3.length := by rw [← hw3, wipe_length]
        refine ⟨m', hm, w', (I'.unpinned (pins := [])).weak hl (fun j v e => ?_), T.keep _ _ _ st2 fun b hb o e => (pin' b hb o e).1, fun b hb => ?_⟩
        · rw [← hw3] at e
          exact (wipe_some e).1
        · obtain ⟨o, e, _⟩ := T.obj _ _ st2 b hb
          exact (pin' b hb o e).2
      cases b with
      | false =>
        simp only [Bool.false_eq_true, if_false] at q5 ⊢
        obtain ⟨m', hm, w', I6, st6, n6⟩ := fin I5 q5
        exact seg_again rfl (ih m' hm (i + 1) n s₀ _ H5 (Nat.lt_trans hm hmn) w' I6 st6 n6)
      | true =>
        simp only [if_true] at q5 ⊢
        have hy : ∀ v, yieldOut genv v = yieldValue v := fun v => by simp only [yieldOut, hco, Bool.false_eq_true, if_false]
        simp only [hy]
        rw [Sem.bind_eq_wrap', Sem.bind_eq_wrap', Sem.wrap_wrap, Sem.wrap_wrap]
        refine seg_wrap ?_
        rw [over_gen]
        refine thnF (he.run _ s5 σ3 H5 _ I5 q5) fun yv s6 ⟨y, H6, I6, r6, q6⟩ => ?_
        obtain ⟨n, rfl⟩ : ∃ k, n = k + 1 := ⟨n - 1, by omega⟩
        refine seg_at (seg_yield rfl rfl rfl ⟨y, _, _, H6, r6, I6, ?_⟩)
        rcases q6 with ⟨hgo, nx⟩ | stp
        · refine .inl ⟨hgo, fun s' z => ?_⟩
          obtain ⟨m', hm, w', I7, st7, n7⟩ := fin (Inv.slp I6 z) nx
          exact seg_again rfl (ih m' hm (i + 1) n s' s' H6 (by omega) w' I7 st7 n7)
        · exact .inr stp

theorem seg_g0 {A : Around} {s4 : Shared} {H4 : Hp} {genv : Env} {fp : List Addr} {pn : List (Addr × Obj)} {elt tg iter : Expr} {ifs : List Expr} {scope : Scope} {pos : Pos} {vs : List Nat} {it : Addr} {tn : Nat → Heap → Prop} {J : It} {g : TG} {tt : TT} {te : TE}
    {Go : V → Prop} {Stp : V → Hp → Prop} {Fin : Hp → Prop} {W : Nat → Nat → Hp → Prop} (hc : X.calm = true) (hpn : ∀ p ∈ pn, p.1 ∉ fp) (hco : genv.scope.isCoroutine = false)
    (T : Turn X.prog X.w X.K tg J fp it tn) (hg : PG (gex X A s4 H4 genv fp pn) tg g) (ht : PTs (gex X A s4 H4 genv fp pn) ifs tt) (he : PE (gex X A s4 H4 genv fp pn) elt te)
    (turn : GTurn J g tt te vs σ Go Stp Fin W) (m i n : Nat) (s₀ s : Shared) (H : Hp) (hmn : m < n) (w : W i m H) (I : Inv (gex X A s4 H4 genv fp pn) [] (wipe σ vs) H s) (st : tn i s.heap) (hn : ∀ b ∈ fp, H b = none) :
      Seg (model X.prog X.w) A (GRn (gex X A s4 H4 genv fp pn) Fin) (GYd (gex X A s4 H4 genv fp pn) Go Stp) n s₀
        (.compStart (.GeneratorExp elt [⟨tg, iter, ifs, 0⟩] scope pos) 0 (.ref it) .none genv)
        ((model X.prog X.w).den (.compStart (.GeneratorExp elt [⟨tg, iter, ifs, 0⟩] scope pos) 0 (.ref it) .none genv)) [] s := by
  have loop := seg_gl (iter := iter) (scope := scope) (pos := pos) (σ := σ) hc hpn hco T hg ht he turn m i n s₀ s H hmn w I st hn
  show Seg _ A _ _ _ s₀ _ ((compStart (.GeneratorExp elt [⟨tg, iter, ifs, 0⟩] scope pos) 0 (.ref it) .none genv).onRaise (leaving genv)) [] s
  unfold compStart
  rw [Sem.onRaise_eq_wrap]
  show Seg _ A _ _ _ s₀ _ ((ask >>= _).wrap _ _ _ _) [] s
  refine seg_bind_wrap (wpAny_askSetting ?_)
  split
  · exact seg_again rfl loop
  · first
      | exact seg_bind_wrap (wpAny_rule (seg_bind_wrap (wpAny_standAt (seg_bind_wrap (T.self _ i s _ _ st (seg_again rfl loop))))))
      | (refine seg_bind_wrap (wpAny_rule ?_); show Seg _ A _ _ _ s₀ _ ((standAt iter.pos >>= _).wrap _ _ _ _) [] s; exact seg_bind_wrap (wpAny_standAt (seg_bind_wrap (T.self _ i s _ _ st (seg_again rfl loop)))))

theorem Slp.set {s s' : Shared} {g : Nat} {x y : GenState} (hb : AllBare s.gens) (hx : x.bare = true) (hy : y.bare = true) : Slp s ((s.setGen g x).setGen g y) :=
  ⟨rfl, allBare_setGen (s := s.setGen g x) (allBare_setGen hb hx) hy, fun _ _ e => e⟩

theorem all_loopG {G : Cx} {A : Around} {R : Result → Shared → Prop} {a : Addr} {g : Nat} {Fin QF : Hp → Prop} (hp : G.prog = X.prog) (hw : G.w = X.w) (hh : A.handled = none) (hd : A.depth < recursionLimit)
    (hgen : ∀ pins σ H s, Inv G pins σ H s → s.heap.IsGen a g)
    (hend : ∀ pins σ H s, Inv G pins σ H s → Fin H → R (.ok (.ret (.bool true))) s) (hstp : ∀ pins σ H s, Inv G pins σ H s → QF H → R (.ok (.ret (.bool false))) s) :
    ∀ (n : Nat) (s : Shared), s.heap.IsGen a g → s.heap.NoLimit →
      (∃ gs, s.gens[g]? = some gs ∧ gs.Goes (model X.prog X.w) A.in1.in1 (GRn G Fin) (GYd G (fun y => y = .bl true) (fun y H => y = .bl false ∧ QF H)) n (.send .none) (s.setGen g .running)) →
      codeAny (model X.prog X.w) A (.builtin "all.loop" ⟨[.ref a], []⟩) R s := by
  intro n
  induction n with
  | zero =>
    intro s hg hl ⟨gs, hgs, hgo⟩
    refine codeAny_builtin F.entry_all_loop ?_
    rw [Around.under_plainId F.plain_all_loop _]
    show wpAny _ A.in1 (pyNext (.ref a) >>= _) _ _ s
    refine wpAny_bind (next_genG (A := A.in1) hh hl hd hg hgs hgo (fun v s₁ gs' hbare hv => ?_) (fun s₁ hpn h' hk => ?_) fun e s₁ he => he.elim)
    · obtain ⟨y, pins, σ', H', rv, I, ⟨ey, kap⟩ | ⟨ey, q⟩⟩ := hv
      · exact (kap _ ⟨rfl, I.bare, fun _ _ e => e⟩).elim
      · subst ey
        obtain rfl : v = .bool false := rv
        refine wpAny_bind (wpAny_holding (wpAny_truthy_bool ?_))
        refine wpAny_bind (wpAny_letGo ?_)
        simp only [Bool.false_eq_true, if_false]
        refine wpAny_bind (wpAny_rule (wpAny_pure ?_))
        exact hstp _ _ _ _ (Inv.slp I ⟨rfl, allBare_setGen I.bare hbare, fun _ _ e => e⟩) q
    · obtain ⟨σ', H', I, q⟩ := hpn
      refine wpAny_bind (wpAny_rule (wpAny_pure ?_))
      exact hend _ _ _ _ (Inv.slp I ⟨rfl, allBare_setGen I.bare rfl, hk⟩) q
  | succ n ih =>
    intro s hg hl ⟨gs, hgs, hgo⟩
    have hgl : g < s.gens.size := (Array.getElem?_eq_some_iff.mp hgs).1
    refine codeAny_builtin F.entry_all_loop ?_
    rw [Around.under_plainId F.plain_all_loop _]
    show wpAny _ A.in1 (pyNext (.ref a) >>= _) _ _ s
    refine wpAny_bind (wpAny_gsz (n := g + 1) hgl (next_genG (A := A.in1) hh hl hd hg hgs hgo (fun v s₁ gs' hbare hv => ?_) (fun s₁ hpn h' hk => ?_) fun e s₁ he => he.elim))
    · intro hsz
      obtain ⟨y, pins, σ', H', rv, I, ⟨ey, kap⟩ | ⟨ey, q⟩⟩ := hv
      · subst ey
        obtain rfl : v = .bool true := rv
        refine wpAny_bind (wpAny_holding (wpAny_truthy_bool ?_))
        refine wpAny_bind (wpAny_letGo ?_)
        simp only [if_true]
        have hsz1 : g < s₁.gens.size := by
          have q : (s₁.setGen g gs').gens.size = s₁.gens.size := setGen_size _ _ _
          have hsz' : g + 1 ≤ (s₁.setGen g gs').gens.size := hsz
          omega
        refine wpAny_pure ⟨plainId_quiet F.plain_all_loop _, ih _ ?_ ?_ ⟨gs', setGen_at hsz1, ?_⟩⟩
        · exact (show s₁.heap.IsGen a g from hgen _ _ _ _ I)
        · exact (show s₁.heap.NoLimit from I.nolimit)
        · exact kap _ ⟨rfl, allBare_setGen (s := s₁.setGen g gs') (allBare_setGen I.bare hbare) rfl, fun _ _ e => e⟩
      · subst ey
        obtain rfl : v = .bool false := rv
        refine wpAny_bind (wpAny_holding (wpAny_truthy_bool ?_))
        refine wpAny_bind (wpAny_letGo ?_)
        simp only [Bool.false_eq_true, if_false]
        refine wpAny_bind (wpAny_rule (wpAny_pure ?_))
        exact hstp _ _ _ _ (Inv.slp I ⟨rfl, allBare_setGen I.bare hbare, fun _ _ e => e⟩) q
    · intro hsz
      obtain ⟨σ', H', I, q⟩ := hpn
      refine wpAny_bind (wpAny_rule (wpAny_pure ?_))
      exact hend _ _ _ _ (Inv.slp I ⟨rfl, allBare_setGen I.bare rfl, hk⟩) q
theorem any_loopG {G : Cx} {A : Around} {R : Result → Shared → Prop} {a : Addr} {g : Nat} {Fin QF : Hp → Prop} (hp : G.prog = X.prog) (hw : G.w = X.w) (hh : A.handled = none) (hd : A.depth < recursionLimit)
    (hgen : ∀ pins σ H s, Inv G pins σ H s → s.heap.IsGen a g)
    (hend : ∀ pins σ H s, Inv G pins σ H s → Fin H → R (.ok (.ret (.bool false))) s) (hstp : ∀ pins σ H s, Inv G pins σ H s → QF H → R (.ok (.ret (.bool true))) s) :
    ∀ (n : Nat) (s : Shared), s.heap.IsGen a g → s.heap.NoLimit →
      (∃ gs, s.gens[g]? = some gs ∧ gs.Goes (model X.prog X.w) A.in1.in1 (GRn G Fin) (GYd G (fun y => y = .bl false) (fun y H => y = .bl true ∧ QF H)) n (.send .none) (s.setGen g .running)) →
      codeAny (model X.prog X.w) A (.builtin "any.loop" ⟨[.ref a], []⟩) R s := by
  intro n
  induction n with
  | zero =>
    intro s hg hl ⟨gs, hgs, hgo⟩
    refine codeAny_builtin F.entry_any_loop ?_
    rw [Around.under_plainId F.plain_any_loop _]
    show wpAny _ A.in1 (pyNext (.ref a) >>= _) _ _ s
    refine wpAny_bind (next_genG (A := A.in1) hh hl hd hg hgs hgo (fun v s₁ gs' hbare hv => ?_) (fun s₁ hpn h' hk => ?_) fun e s₁ he => he.elim)
    · obtain ⟨y, pins, σ', H', rv, I, ⟨ey, kap⟩ | ⟨ey, q⟩⟩ := hv
      · exact (kap _ ⟨rfl, I.bare, fun _ _ e => e⟩).elim
      · subst ey
        obtain rfl : v = .bool true := rv
        refine wpAny_bind (wpAny_holding (wpAny_truthy_bool ?_))
        refine wpAny_bind (wpAny_letGo ?_)
        simp only [if_true]
        refine wpAny_bind (wpAny_rule (wpAny_pure ?_))
        exact hstp _ _ _ _ (Inv.slp I ⟨rfl, allBare_setGen I.bare hbare, fun _ _ e => e⟩) q
    · obtain ⟨σ', H', I, q⟩ := hpn
      refine wpAny_bind (wpAny_rule (wpAny_pure ?_))
      exact hend _ _ _ _ (Inv.slp I ⟨rfl, allBare_setGen I.bare rfl, hk⟩) q
  | succ n ih =>
    intro s hg hl ⟨gs, hgs, hgo⟩
    have hgl : g < s.gens.size := (Array.getElem?_eq_some_iff.mp hgs).1
    refine codeAny_builtin F.entry_any_loop ?_
    rw [Around.under_plainId F.plain_any_loop _]
    show wpAny _ A.in1 (pyNext (.ref a) >>= _) _ _ s
    refine wpAny_bind (wpAny_gsz (n := g + 1) hgl (next_genG (A := A.in1) hh hl hd hg hgs hgo (fun v s₁ gs' hbare hv => ?_) (fun s₁ hpn h' hk => ?_) fun e s₁ he => he.elim))
    · intro hsz
      obtain ⟨y, pins, σ', H', rv, I, ⟨ey, kap⟩ | ⟨ey, q⟩⟩ := hv
      · subst ey
        obtain rfl : v = .bool false := rv
        refine wpAny_bind (wpAny_holding (wpAny_truthy_bool ?_))
        refine wpAny_bind (wpAny_letGo ?_)
        simp only [Bool.false_eq_true, if_false]
        have hsz1 : g < s₁.gens.size := by
          have q : (s₁.setGen g gs').gens.size = s₁.gens.size := setGen_size _ _ _
          have hsz' : g + 1 ≤ (s₁.setGen g gs').gens.size := hsz
          omega
        refine wpAny_pure ⟨plainId_quiet F.plain_any_loop _, ih _ ?_ ?_ ⟨gs', setGen_at hsz1, ?_⟩⟩
        · exact (show s₁.heap.IsGen a g from hgen _ _ _ _ I)
        · exact (show s₁.heap.NoLimit from I.nolimit)
        · exact kap _ ⟨rfl, allBare_setGen (s := s₁.setGen g gs') (allBare_setGen I.bare hbare) rfl, fun _ _ e => e⟩
      · subst ey
        obtain rfl : v = .bool true := rv
        refine wpAny_bind (wpAny_holding (wpAny_truthy_bool ?_))
        refine wpAny_bind (wpAny_letGo ?_)
        simp only [if_true]
        refine wpAny_bind (wpAny_rule (wpAny_pure ?_))
        exact hstp _ _ _ _ (Inv.slp I ⟨rfl, allBare_setGen I.bare hbare, fun _ _ e => e⟩) q
    · intro hsz
      obtain ⟨σ', H', I, q⟩ := hpn
      refine wpAny_bind (wpAny_rule (wpAny_pure ?_))
      exact hend _ _ _ _ (Inv.slp I ⟨rfl, allBare_setGen I.bare rfl, hk⟩) q

/-- the generator g over the source, not begun, in the state s5; G: its context -/
def Made (X : Cx) (pins : List (Addr × Obj)) (σ : L2.St) (elt tg : Expr) (A : Around) (P : Addr) (H1 : Hp) (Go : V → Prop) (Stp : V → Hp → Prop) (Fin : Hp → Prop) (a : Addr) (s5 : Shared) : Prop :=
  ∃ (G : Cx) (g n : Nat) (gs : GenState), G.prog = X.prog ∧ G.w = X.w ∧ (∀ pins σ H s, Inv G pins σ H s → s.heap.IsGen a g) ∧ s5.heap.IsGen a g ∧ s5.heap.NoLimit ∧ s5.gens[g]? = some gs ∧
    gs.Goes (model X.prog X.w) A (GRn G Fin) (GYd G Go Stp) n (.send .none) (s5.setGen g .running) ∧
    ∀ pins' σ' H' s', Inv G pins' σ' H' s' → Inv X pins σ H' s'

/-- how the source, the turn are read -/
abbrev PGn (X : Cx) (A : Around) (scope : Scope) (tg : Expr) (g : TG) : Prop := ∀ (s : Shared) (H : Hp) (C : Addr) (code : Value) (cl : List (Str × Addr)) (fp : List Addr) (pn : List (Addr × Obj)), PG (gex X A s H (genEnv scope cl C code builtinsNs X.env) fp pn) tg g
abbrev PTn (X : Cx) (A : Around) (scope : Scope) (ifs : List Expr) (t : TT) : Prop := ∀ (s : Shared) (H : Hp) (C : Addr) (code : Value) (cl : List (Str × Addr)) (fp : List Addr) (pn : List (Addr × Obj)), PTs (gex X A s H (genEnv scope cl C code builtinsNs X.env) fp pn) ifs t
abbrev PEn (X : Cx) (A : Around) (scope : Scope) (elt : Expr) (t : TE) : Prop := ∀ (s : Shared) (H : Hp) (C : Addr) (code : Value) (cl : List (Str × Addr)) (fp : List Addr) (pn : List (Addr × Obj)), PE (gex X A s H (genEnv scope cl C code builtinsNs X.env) fp pn) elt t

theorem gen_any {c P : Addr} {elt tg iter : Expr} {ifs : List Expr} {gpos : Pos} {scope : Scope} {own : List (Str × Nat)} {wi : TI} {g : TG} {tt : TT} {te : TE} {k : Nat} {A : Around} {Q' : Value → Shared → Prop} {Go : V → Prop} {Stp : V → Hp → Prop} {Fin : Hp → Prop}
    (hc : X.calm = true) (hN : X.N.Nodup) (hr : Room k X.A) (hA : A.handled = none) (hfr : A.frames = some X.stack) (TB : GxR.TabB X.base X.mg c P) (hcode : X.env.code = .ref c) (ok : BlkOk X.N X.env.scope scope own)
    (hcell : ∀ y ∈ scope.names, y.2 ≠ .cell) (h0 : scope.names.lookup (".0" : Str) = some NameKind.local) (hco : scope.isCoroutine = false)
    (hi : PI X tg iter wi) (hg : PGn X A scope tg g) (ht : PTn X A scope ifs tt) (he : PEn X A scope elt te) (hs : ∀ v, genFold iter X.env v = pure v) (I : Inv X pins σ H s)
    (h : wi σ H fun J H1 => GxR.TabG H1 P ∧ ∀ H2, GxR.Tabbed P H1 H2 → ∃ W : Nat → Nat → Hp → Prop, (∃ m, W 0 m H2) ∧ GTurn J g tt te (own.map (·.2)) σ Go Stp Fin W)
    (hQ : ∀ a s5, Made X pins σ elt tg A P H Go Stp Fin a s5 → Q' (.ref a) s5) :
    wpAny (model X.prog X.w) X.A (eval (.GeneratorExp elt [⟨tg, iter, ifs, 0⟩] scope gpos) X.env) Q' X.xe s := by
  have hfree : ∀ y ∈ scope.names, y.2 = .free → ∃ c, X.env.cells.lookup y.1 = some c := fun y hy e => by
    rcases ok.free y hy e with k | k
    · exact I.ok.has _ (.inl k)
    · exact I.ok.has _ (.inr k)
  refine wpAny_GeneratorExp_make hco (closure_ok hfree) hcell h0 ok.kind (by have := hr.dp; omega) ?_ hs
  refine thn (hi.run pins s σ H _ I h) fun xv s1 hx => thn hx fun itv s2 h2 => ?_
  obtain ⟨it, fp, tn, J, H1, e, I2, T, st2, f2, ⟨ps, hP, htr⟩, q⟩ := h2
  subst e
  refine ⟨I2.nolimit, ?_⟩
  have hPs : s2.heap.get? P = some { cls := .none, data := .fields ps } := I2.hok P _ hP
  have cd : PySem.W.CodeHd s2.heap c P := TB.code.keeps fun b u e => I2.bk b u e
  have Pfp : P ∉ fp := fun hb => by
    have := (f2 P hb).1
    rw [hP] at this; cases this
  have cont : ∀ (code : Value) (h3 : Heap) (tk : Nat) (ps' : Array Value), Heap.ExtBut P s2.heap h3 → h3.get? P = some { cls := .none, data := .fields ps' } → (∃ more, ps' = ps ++ more) → TriplesOk ps'.toList →
      wpAny (model X.prog X.w) X.A (builtinsFor X.env.globals X.env.builtins) (fun bi s₄ =>
        ∀ h', h'.Ns s₄.heap.objs.size (fun y => if y = ".0" then some (.ref it) else none) → Heap.SameBut s₄.heap.objs.size (s₄.heap.push { cls := .type "frame", data := .dict #[] }) h' →
          Q' (.ref h'.objs.size) { s₄ with
            gens := s₄.gens.push (.fresh (.compStart (.GeneratorExp elt [⟨tg, iter, ifs, 0⟩] scope gpos) 0 (.ref it) .none (genEnv scope (cloFrom X.env.cells scope.names []) s₄.heap.objs.size code bi X.env))),
            toks := s₄.toks + 1 + 1 + 1,
            heap := h'.push { cls := .type "generator", data := .fields #[.int s₄.gens.size 0, .str "<genexpr>" (s₄.toks + 1), .str (X.env.qual ++ "<genexpr>") (s₄.toks + 1 + 1)] } }) X.xe { s2 with heap := h3, toks := tk } := by
    intro code h3 tk ps' hx hP3 hmore ht3
    obtain ⟨bm, ob, e1, e2, e3, e4, e5, e6, e7, e8⟩ := TB.bm
    have keep3 : ∀ b u, b ≠ P → s2.heap.get? b = some u → h3.get? b = some u := fun b u hb e => hx b u hb e
    refine wpAny_builtinsFor (m := X.mg) (by rw [I2.ok.glob]; exact (I2.mod.glob.keeps I2.bk).extBut hx TB.gP) e1 e2 (keep3 _ _ e4 (I2.bk _ _ e5)) e6 e7 e8 ?_
    obtain ⟨more, em⟩ := hmore
    have I3 : Inv X pins σ (upd H1 P (.tbl (ps ++ more))) { s2 with heap := h3, gens := s2.gens, drawn := s2.drawn, toks := tk } :=
      GxR.inv_tab (more := more) I2 hP keep3 (by rw [← em]; exact hP3) I2.bare
    have hTab : GxR.Tabbed P H1 (upd H1 P (.tbl (ps ++ more))) := ⟨⟨ps ++ more, upd_same, by rw [← em]; exact ht3⟩, fun b hb => upd_ne hb⟩
    obtain ⟨W, ⟨m0, w0⟩, turn⟩ := q _ hTab
    generalize hH3 : upd H1 P (.tbl (ps ++ more)) = H3 at I3 w0 hTab
    have I3 : Inv X pins σ H3 { s2 with heap := h3, toks := tk } := I3
    generalize hs3 : ({ s2 with heap := h3, toks := tk } : Shared) = s4 at I3 ⊢
    have h4 : s4.heap = h3 := by rw [← hs3]
    have fpn : ∀ b ∈ fp, H3 b = none := fun b hb => by rw [hTab.2 b fun z => Pfp (z ▸ hb)]; exact (f2 b hb).1
    have st4 : tn 0 s4.heap := T.keep _ _ _ st2 fun b hb o e => by rw [h4]; exact keep3 b o (fun z => Pfp (z ▸ hb)) e
    have f4 : ∀ b ∈ fp, FpOk X pins H3 b ∧ b < s4.heap.objs.size := fun b hb => by
      obtain ⟨o, e, _⟩ := T.obj _ _ st4 b hb
      exact ⟨⟨fpn b hb, (f2 b hb).2⟩, Heap.lt_size e⟩
    intro h' hn' hsb
    have hsz : h'.objs.size = s4.heap.objs.size + 1 := by rw [hsb.1, Heap.size_push]
    have keep' : ∀ b o, s4.heap.get? b = some o → h'.get? b = some o := fun b o e => hsb.extBut b o (Nat.ne_of_lt (Heap.lt_size e)) (Heap.get?_push_of_some _ e)
    generalize hgo : ({ cls := .type "generator", data := .fields #[.int s4.gens.size 0, .str "<genexpr>" (s4.toks + 1), .str (X.env.qual ++ "<genexpr>") (s4.toks + 1 + 1)] } : Obj) = go
    have hgen : ∀ h : Heap, h.get? h'.objs.size = some go → h.IsGen h'.objs.size s4.gens.size := fun h e => ⟨go, _, _, e, by rw [← hgo], by rw [← hgo], by rw [← hgo]⟩
    have hpush : (h'.push go).get? h'.objs.size = some go := by rw [← hgo]; exact Heap.get?_push_size _ rfl
    have gnc : ∀ v, go.data ≠ .cell v := fun v z => by rw [← hgo] at z; cases z
    have alt : s4.heap.objs.size < h'.objs.size := by rw [hsz]; exact Nat.lt_succ_self _
    have IG := gen_start (A := A) (code := code) (g5 := (s4.gens.push (.fresh (.compStart (.GeneratorExp elt [⟨tg, iter, ifs, 0⟩] scope gpos) 0 (.ref it) .none (genEnv scope (cloFrom X.env.cells scope.names []) s4.heap.objs.size code builtinsNs X.env)))).setIfInBounds s4.gens.size .running) (t5 := s4.toks + 1 + 1 + 1) I3 ok hcell hN hA hfr f4 hn' keep'
      (fun b o e => Heap.get?_push_of_some go e) alt hpush gnc (allBare_setGen (s := { s4 with gens := s4.gens.push _ }) (AllBare.push I3.bare rfl) rfl)
    refine hQ _ _ ⟨gex X A s4 H3 (genEnv scope (cloFrom X.env.cells scope.names []) s4.heap.objs.size code builtinsNs X.env) fp [(h'.objs.size, go)], s4.gens.size, m0 + 1, _, rfl, rfl, fun pins' σ' H' s' I' => hgen _ (I'.pin (h'.objs.size, go) (List.mem_append_left _ List.mem_cons_self)).1, hgen _ hpush,
      (I3.nolimit.keeps fun b o e => Heap.get?_push_of_some _ (keep' b o e)), Array.getElem?_push_size .., ⟨rfl, ?_⟩, fun pins' σ' H' s' I' => ?_⟩
    · refine seg_g0 (σ := σ) hc (fun p hp z => ?_) hco T (hg _ _ _ _ _ _ _) (ht _ _ _ _ _ _ _) (he _ _ _ _ _ _ _) turn m0 0 (m0 + 1) _ _ H3 (Nat.lt_succ_self _) w0 IG (T.keep _ _ _ st4 fun b _ o e => Heap.get?_push_of_some _ (keep' b o e)) fpn
      have e : p = (h'.objs.size, go) := by simpa using hp
      rw [e] at z
      exact absurd (Nat.lt_trans (f4 _ z).2 alt) (Nat.lt_irrefl _)
    · exact I3.call' (ch := fp) I'.os I'.base I'.hok I'.bare fun b hb => ⟨(f4 b hb).1.2.2.2.1, (f4 b hb).1.2.1, (f4 b hb).1.2.2.2.2.1, (f4 b hb).1.2.2.2.2.2⟩
  cases hf : codeAmong gpos ps.toList with
  | none =>
    refine wpAny_genexprCodeX hcode (cd.code hPs htr) (cd.tab hPs) hf fun c' h' tk hx hge hlt hco' _ htab' _ => ?_
    obtain ⟨o1, vs, f1, tf, fl, tg, inF, tx, tt, op, _, _, _, _, _, _, _, _, _, htr', _⟩ := hco'
    exact cont _ h' tk _ hx htab'.2 ⟨_, rfl⟩ htr'
  | some cv =>
    refine wpAny_genexprCode_hit hcode (cd.code hPs htr) hf ?_
    exact cont cv s2.heap s2.toks ps (Heap.ExtBut.refl _ _) hPs ⟨#[], by simp⟩ htr

/-- all(elt for target in iter if ..), any(..) -/
def tAllG (P : Addr) (wi : TI) (g : TG) (tt : TT) (te : TE) (vs : List Nat) : TE := fun σ H Q => wi σ H fun J H1 => GxR.TabG H1 P ∧ ∀ H2, GxR.Tabbed P H1 H2 → ∃ W : Nat → Nat → Hp → Prop, (∃ m, W 0 m H2) ∧
  GTurn J g tt te vs σ (fun y => y = .bl true) (fun y H => y = .bl false ∧ Q (.bl false) H) (fun H => Q (.bl true) H) W
def tAnyG (P : Addr) (wi : TI) (g : TG) (tt : TT) (te : TE) (vs : List Nat) : TE := fun σ H Q => wi σ H fun J H1 => GxR.TabG H1 P ∧ ∀ H2, GxR.Tabbed P H1 H2 → ∃ W : Nat → Nat → Hp → Prop, (∃ m, W 0 m H2) ∧
  GTurn J g tt te vs σ (fun y => y = .bl false) (fun y H => y = .bl true ∧ Q (.bl true) H) (fun H => Q (.bl false) H) W
/-- the around of the element -/
abbrev gA (X : Cx) : Around := X.A.in1.in1
theorem pe_allG {c P : Addr} {elt tg iter : Expr} {ifs : List Expr} {p pos gpos : Pos} {scope : Scope} {own : List (Str × Nat)} {wi : TI} {g : TG} {tt : TT} {te : TE} {k : Nat}
    (hc : X.calm = true) (hN : X.N.Nodup) (hr : Room k X.A) (hgl : Gl X "all") (hm : X.mg "all" = none) (hb : bootBuiltins "all" = some (.builtin "all")) (TB : GxR.TabB X.base X.mg c P) (hcode : X.env.code = .ref c) (ok : BlkOk X.N X.env.scope scope own)
    (hcell : ∀ y ∈ scope.names, y.2 ≠ .cell) (h0 : scope.names.lookup (".0" : Str) = some NameKind.local) (hco : scope.isCoroutine = false)
    (hi : PI X tg iter wi) (hg : PGn X (gA X) scope tg g) (ht : PTn X (gA X) scope ifs tt) (he : PEn X (gA X) scope elt te) (hs : ∀ v, genFold iter X.env v = pure v)
    (hse : starEach [.GeneratorExp elt [⟨tg, iter, ifs, 0⟩] scope gpos] X.env = (false, eval (.GeneratorExp elt [⟨tg, iter, ifs, 0⟩] scope gpos) X.env) :: starEach [] X.env := by rfl) :
    PE X (.Call (.Name "all" p) [.GeneratorExp elt [⟨tg, iter, ifs, 0⟩] scope gpos] [] pos) (tAllG P wi g tt te (own.map (·.2))) := by
  refine ⟨fun pins s σ H Q I h => ?_⟩
  have hd : X.A.handled = none := I.ok.hd hc
  refine wpAny_Call_Name_kw (ld_blt I hgl hm hb ?_)
  refine PyProof.Rows.callWith_builtin1 ?_ hse (by rfl)
  rw [hse]
  show wpAny _ _ (spliced ((false, eval (.GeneratorExp elt [⟨tg, iter, ifs, 0⟩] scope gpos) X.env) :: backTo pos (starEach [] X.env))) _ _ s
  refine Calls.spliced_cons (gen_any (pins := pins) (A := gA X) hc hN hr hd I.ok.frames TB hcode ok hcell h0 hco hi hg ht he hs I h fun a s5 ⟨G, g, n, gs, hp, hw, hgen, hg5, hl5, hgs, hgo, hback⟩ => ?_)
  refine Calls.spliced_nil ?_
  refine call_function_tree F.kind_all F.plain_all F.entry_all (F.args_all1 _) ?_
  unfold Builtin.«all»
  refine wpAny_bind (m := oneArg "all" _) (wpAny_pure ?_)
  refine wpAny_bind (wpAny_pyIter_gen hg5 ?_)
  refine wpAny_pure ⟨plainId_quiet F.plain_all_loop _, all_loopG (G := G) (A := X.A) hp hw hd (by have := hr.dp; show X.A.depth < _; omega) hgen (fun pins' σ' H' s' I' q => ?_) (fun pins' σ' H' s' I' q => ?_) n s5 hg5 hl5 ⟨gs, hgs, hgo⟩⟩
  · exact ⟨.bl true, H', hback _ _ _ _ I', rfl, q⟩
  · exact ⟨.bl false, H', hback _ _ _ _ I', rfl, q⟩
theorem pe_anyG {c P : Addr} {elt tg iter : Expr} {ifs : List Expr} {p pos gpos : Pos} {scope : Scope} {own : List (Str × Nat)} {wi : TI} {g : TG} {tt : TT} {te : TE} {k : Nat}
    (hc : X.calm = true) (hN : X.N.Nodup) (hr : Room k X.A) (hgl : Gl X "any") (hm : X.mg "any" = none) (TB : GxR.TabB X.base X.mg c P) (hcode : X.env.code = .ref c) (ok : BlkOk X.N X.env.scope scope own)
    (hcell : ∀ y ∈ scope.names, y.2 ≠ .cell) (h0 : scope.names.lookup (".0" : Str) = some NameKind.local) (hco : scope.isCoroutine = false)
    (hi : PI X tg iter wi) (hg : PGn X (gA X) scope tg g) (ht : PTn X (gA X) scope ifs tt) (he : PEn X (gA X) scope elt te) (hs : ∀ v, genFold iter X.env v = pure v)
    (hse : starEach [.GeneratorExp elt [⟨tg, iter, ifs, 0⟩] scope gpos] X.env = (false, eval (.GeneratorExp elt [⟨tg, iter, ifs, 0⟩] scope gpos) X.env) :: starEach [] X.env := by rfl) :
    PE X (.Call (.Name "any" p) [.GeneratorExp elt [⟨tg, iter, ifs, 0⟩] scope gpos] [] pos) (tAnyG P wi g tt te (own.map (·.2))) := by
  refine ⟨fun pins s σ H Q I h => ?_⟩
  have hd : X.A.handled = none := I.ok.hd hc
  refine wpAny_Call_Name_kw (ld_blt I hgl hm boot_any ?_)
  refine PyProof.Rows.callWith_builtin1 ?_ hse (by rfl)
  rw [hse]
  show wpAny _ _ (spliced ((false, eval (.GeneratorExp elt [⟨tg, iter, ifs, 0⟩] scope gpos) X.env) :: backTo pos (starEach [] X.env))) _ _ s
  refine Calls.spliced_cons (gen_any (pins := pins) (A := gA X) hc hN hr hd I.ok.frames TB hcode ok hcell h0 hco hi hg ht he hs I h fun a s5 ⟨G, g, n, gs, hp, hw, hgen, hg5, hl5, hgs, hgo, hback⟩ => ?_)
  refine Calls.spliced_nil ?_
  refine call_function_tree F.kind_any F.plain_any F.entry_any (F.args_any1 _) ?_
  unfold Builtin.«any»
  refine wpAny_bind (m := oneArg "any" _) (wpAny_pure ?_)
  refine wpAny_bind (wpAny_pyIter_gen hg5 ?_)
  refine wpAny_pure ⟨plainId_quiet F.plain_any_loop _, any_loopG (G := G) (A := X.A) hp hw hd (by have := hr.dp; show X.A.depth < _; omega) hgen (fun pins' σ' H' s' I' q => ?_) (fun pins' σ' H' s' I' q => ?_) n s5 hg5 hl5 ⟨gs, hgs, hgo⟩⟩
  · exact ⟨.bl false, H', hback _ _ _ _ I', rfl, q⟩
  · exact ⟨.bl true, H', hback _ _ _ _ I', rfl, q⟩
theorem room_gA {k : Nat} (r : Room (k + 1) X.A) (env : Env) : Room k ((gA X).deeper env) :=
  ⟨r.hd, by have := r.dp; show X.A.depth + 1 + 3 * k + 5 < _; omega, by have := r.un; show X.A.units + 1 + 1 + 3 + 16 * k + 200 < _; omega⟩

theorem gt_range {lo : Int} {n : Nat} {g : TG} {tt : TT} {te : TE} {vs : List Nat} {σ : L2.St} {H1 : Hp} {Go : V → Prop} {Stp : V → Hp → Prop} {Fin : Hp → Prop} (Pv : Nat → Hp → Prop) (h0 : Pv 0 H1)
    (hs : ∀ i H, i < n → Pv i H → g (.int (lo + i)) (wipe σ vs) H fun σ2 H2 => wipe σ2 vs = wipe σ vs ∧ tt σ2 H2 fun b H3 =>
      if b = true then te σ2 H3 fun y H4 => (Go y ∧ Pv (i + 1) H4) ∨ Stp y H4 else Pv (i + 1) H3) (hd : ∀ H, Pv (n) H → Fin H) :
    ∃ W : Nat → Nat → Hp → Prop, (∃ m, W 0 m H1) ∧ GTurn (Itr lo n) g tt te vs σ Go Stp Fin W := by
  refine ⟨fun i m H => m = n - i ∧ i ≤ n ∧ Pv i H, ⟨n, by simp, Nat.zero_le _, h0⟩, ?_⟩
  rintro i m H ⟨rfl, hi, p⟩
  by_cases hlt : i < n
  · refine .inr ⟨hlt, Pv (i + 1), fun H' p' => ⟨n - (i + 1), by omega, rfl, hlt, p'⟩, fun x H' y => ?_⟩
    obtain ⟨e, y⟩ := y
    subst e
    subst y
    exact hs i _ hlt p
  · have e : i = n := by omega
    subst e
    exact .inl ⟨Nat.le_refl _, hd _ p⟩

theorem gt_list {K : PySem.W.Frag} {a : Addr} {xs : List V} {g : TG} {tt : TT} {te : TE} {vs : List Nat} {σ : L2.St} {H1 : Hp} {Go : V → Prop} {Stp : V → Hp → Prop} {Fin : Hp → Prop} (Pv : Nat → Hp → Prop) (h0 : Pv 0 H1) (hl : ∀ i H, i ≤ xs.length → Pv i H → SqL K H a xs)
    (hs : ∀ i x H, xs[i]? = some x → Pv i H → g x (wipe σ vs) H fun σ2 H2 => wipe σ2 vs = wipe σ vs ∧ tt σ2 H2 fun b H3 =>
      if b = true then te σ2 H3 fun y H4 => (Go y ∧ Pv (i + 1) H4) ∨ Stp y H4 else Pv (i + 1) H3) (hd : ∀ H, Pv (xs.length) H → Fin H) :
    ∃ W : Nat → Nat → Hp → Prop, (∃ m, W 0 m H1) ∧ GTurn (Itl K a) g tt te vs σ Go Stp Fin W := by
  refine ⟨fun i m H => m = xs.length - i ∧ i ≤ xs.length ∧ Pv i H, ⟨xs.length, by simp, Nat.zero_le _, h0⟩, ?_⟩
  rintro i m H ⟨rfl, hi, p⟩
  by_cases hlt : i < xs.length
  · have q := hl i H hi p
    refine .inr ⟨⟨xs, xs[i], q, by simp [hlt]⟩, Pv (i + 1), fun H' p' => ⟨xs.length - (i + 1), by omega, rfl, hlt, p'⟩, fun x H' y => ?_⟩
    obtain ⟨e, y⟩ := y
    subst e
    exact hs i x _ (y xs q) p
  · have q := hl i H hi p
    have e : i = xs.length := by omega
    subst e
    exact .inl ⟨⟨xs, q, Nat.le_refl _⟩, hd _ p⟩

theorem gt_tup {K : PySem.W.Frag} {a : Addr} {xs : List V} {g : TG} {tt : TT} {te : TE} {vs : List Nat} {σ : L2.St} {H1 : Hp} {Go : V → Prop} {Stp : V → Hp → Prop} {Fin : Hp → Prop} (Pv : Nat → Hp → Prop) (h0 : Pv 0 H1) (hl : ∀ i H, i ≤ xs.length → Pv i H → SqT K H a xs)
    (hs : ∀ i x H, xs[i]? = some x → Pv i H → g x (wipe σ vs) H fun σ2 H2 => wipe σ2 vs = wipe σ vs ∧ tt σ2 H2 fun b H3 =>
      if b = true then te σ2 H3 fun y H4 => (Go y ∧ Pv (i + 1) H4) ∨ Stp y H4 else Pv (i + 1) H3) (hd : ∀ H, Pv (xs.length) H → Fin H) :
    ∃ W : Nat → Nat → Hp → Prop, (∃ m, W 0 m H1) ∧ GTurn (Itt K a) g tt te vs σ Go Stp Fin W := by
  refine ⟨fun i m H => m = xs.length - i ∧ i ≤ xs.length ∧ Pv i H, ⟨xs.length, by simp, Nat.zero_le _, h0⟩, ?_⟩
  rintro i m H ⟨rfl, hi, p⟩
  by_cases hlt : i < xs.length
  · have q := hl i H hi p
    refine .inr ⟨⟨xs, xs[i], q, by simp [hlt]⟩, Pv (i + 1), fun H' p' => ⟨xs.length - (i + 1), by omega, rfl, hlt, p'⟩, fun x H' y => ?_⟩
    obtain ⟨e, y⟩ := y
    subst e
    exact hs i x _ (y xs q) p
  · have q := hl i H hi p
    have e : i = xs.length := by omega
    subst e
    exact .inl ⟨⟨xs, q, Nat.le_refl _⟩, hd _ p⟩

theorem gt_str {a : Str} {g : TG} {tt : TT} {te : TE} {vs : List Nat} {σ : L2.St} {H1 : Hp} {Go : V → Prop} {Stp : V → Hp → Prop} {Fin : Hp → Prop} (Pv : Nat → Hp → Prop) (h0 : Pv 0 H1)
    (hs : ∀ i c H, a.cps[i]? = some c → Pv i H → g (.str ⟨#[c]⟩) (wipe σ vs) H fun σ2 H2 => wipe σ2 vs = wipe σ vs ∧ tt σ2 H2 fun b H3 =>
      if b = true then te σ2 H3 fun y H4 => (Go y ∧ Pv (i + 1) H4) ∨ Stp y H4 else Pv (i + 1) H3) (hd : ∀ H, Pv (a.cps.size) H → Fin H) :
    ∃ W : Nat → Nat → Hp → Prop, (∃ m, W 0 m H1) ∧ GTurn (Its a) g tt te vs σ Go Stp Fin W := by
  refine ⟨fun i m H => m = a.cps.size - i ∧ i ≤ a.cps.size ∧ Pv i H, ⟨a.cps.size, by simp, Nat.zero_le _, h0⟩, ?_⟩
  rintro i m H ⟨rfl, hi, p⟩
  by_cases hlt : i < a.cps.size
  · refine .inr ⟨hlt, Pv (i + 1), fun H' p' => ⟨a.cps.size - (i + 1), by omega, rfl, hlt, p'⟩, fun x H' y => ?_⟩
    obtain ⟨e, c, hc, y⟩ := y
    subst e
    subst y
    exact hs i c _ hc p
  · have e : i = a.cps.size := by omega
    subst e
    exact .inl ⟨Nat.le_refl _, hd _ p⟩
end
end GG

set_option Elab.async false
set_option linter.all false
set_option maxRecDepth 100000
set_option maxHeartbeats 4000000
/-! the rules whose reading names the context's K, with K given: for use inside comprehensions -/
namespace GK
open PySem PySem.Spec PyProof.Rows L2
section
variable {X : Cx} {pos : Pos}
theorem ixQK (K : PySem.W.Frag) (h : X.K = K := by rfl) : IxR X (rIx K) := by subst h; exact ix_seq
theorem ixLK (K : PySem.W.Frag) (h : X.K = K := by rfl) : IxR X (rIxL K) := by subst h; exact ix_list
theorem ixTK (K : PySem.W.Frag) (h : X.K = K := by rfl) : IxR X (rIxT K) := by subst h; exact ix_tup
theorem slTK (K : PySem.W.Frag) (h : X.K = K := by rfl) : SlR X (rSlT K) := by subst h; exact sl_tup
theorem slLK (K : PySem.W.Frag) (h : X.K = K := by rfl) : SlR X (rSlL K) := by subst h; exact sl_list
def rTupOf (K : PySem.W.Frag) : List V → Hp → VK → Prop := fun xs H Q => ∃ p ys, xs = [V.ref p] ∧ ((SqL K H p ys ∧ ∀ l, H l = none → Q (.ref l) (upd H l (.tup ys))) ∨ (SqT K H p ys ∧ Q (.ref p) H))
theorem tupOfK (K : PySem.W.Frag) (h : X.K = K := by rfl) : CallR X (.type "tuple") (rTupOf K) := by subst h; exact call_tuple_of
def rListOf (K : PySem.W.Frag) : List V → Hp → VK → Prop := fun xs H Q => ∃ p ys, xs = [.ref p] ∧ (SqL K H p ys ∨ SqT K H p ys) ∧ ∀ l, H l = none → Q (.ref l) (upd H l (.lst ys))
theorem listOfK (K : PySem.W.Frag) (h : X.K = K := by rfl) : CallR X (.type "list") (rListOf K) := by subst h; exact call_list_of
def rLen (K : PySem.W.Frag) : List V → Hp → VK → Prop := fun xs H Q => ∃ p ys, xs = [V.ref p] ∧ (SqL K H p ys ∨ SqT K H p ys) ∧ Q (.int ys.length) H
theorem lenK (K : PySem.W.Frag) (h : X.K = K := by rfl) : CallR X (.builtin "len") (rLen K) := by subst h; exact call_len_seq
theorem isiK (K : PySem.W.Frag) (h : X.K = K := by rfl) : CallR X (.builtin "isinstance") (rIsi K) := by subst h; exact call_isi
theorem inK (K : PySem.W.Frag) (h : X.K = K := by rfl) : OpR X (compareOp .In) (rIn K false) := by subst h; exact op_in_seq
theorem notInK (K : PySem.W.Frag) (h : X.K = K := by rfl) : OpR X (compareOp .NotIn) (rIn K true) := by subst h; exact op_notIn_seq
theorem eqDK (K : PySem.W.Frag) (hu : X.A.units + 64 < cLine) (h : X.K = K := by rfl) : OpR X (compareOp .Eq) (rEqD K) := by subst h; exact op_eqD hu
theorem neDK (K : PySem.W.Frag) (hu : X.A.units + 64 < cLine) (h : X.K = K := by rfl) : OpR X (compareOp .NotEq) (rNeD K) := by subst h; exact op_neD hu
theorem pgTK (K : PySem.W.Frag) {es : List Expr} {k : Nat} {t : TGs} {n : Nat} (hc : X.calm = true) (h : PGs X es t) (hn : (assignEach es X.env).length = n := by rfl) (hst : (assignEach es X.env).findIdx? (·.1) = none := by rfl) (hk : X.K = K := by rfl) : PG X (.Tuple es k pos) (gTup K n t) := by
  subst hk
  exact pg_tup hc h hn hst
theorem pgLK (K : PySem.W.Frag) {es : List Expr} {k : Nat} {t : TGs} {n : Nat} (hc : X.calm = true) (h : PGs X es t) (hn : (assignEach es X.env).length = n := by rfl) (hst : (assignEach es X.env).findIdx? (·.1) = none := by rfl) (hk : X.K = K := by rfl) : PG X (.Tuple es k pos) (gLst K n t) := by
  subst hk
  exact pg_lst hc h hn hst
theorem fldK (K : PySem.W.Frag) {e : Expr} {f : Str} {ta : TE} (he : PE X e ta) (hb : attributeBase e f X.env (eval e X.env) = eval e X.env) (hk : X.K = K := by rfl) : PE X (.Attribute e f pos) (tFld K ta f) := by
  subst hk
  exact pe_fld he hb
end
end GK

set_option Elab.async false
set_option linter.all false
set_option maxRecDepth 100000
set_option maxHeartbeats 4000000
/-! a def that an except suite calls, handed the exception: isinstance of it, a comprehension over a list of truth values -/
namespace GE
open PySem PySem.Spec PyProof.Rows L2 HotX L2H
section
variable {prog : Program} {w : World} {A : Around} {E : Value → Shared → Prop} {s : Shared}
/-- the end of a list's iterator, an exception being handled -/
theorem next_list_end_hot {it l x1 : Addr} {i : Nat} {items} {Q : Option Value → Shared → Prop} (hot : HotAt A x1 s.heap) (nx : x1 ≠ it)
    (hit : s.heap.IsListIter it l i) (hl : s.heap.IsList l items) (hx : items[i]? = none)
    (hQ : ∀ h', (∀ b o, b ≠ it → s.heap.get? b = some o → h'.get? b = some o) → Q none { s with heap := h' }) : wpAny (model prog w) A (pyNext (.ref it)) Q E s := by
  obtain ⟨o, ho, hc, hd⟩ := id hit
  obtain ⟨ol, hol, _, nl, hdl⟩ := hl
  obtain ⟨hh, o1, vs1, h1, d1, c1⟩ := hot
  unfold pyNext
  refine wpAny_bind (wpAny_attempt (wpAny_callSpecial?_slot (name := Str.ofString "__next__") hit.typeIs slot_listiter_next
    (wpAny_call_entry slot_listiter_next hit.typeIs entry_listiter_next ?_ (args_listiter_next _))))
  show wpAny _ _ (field (.ref it) 0 >>= _) _ _ s
  refine wpAny_bind (wpAny_field ho hd (x := .ref l) rfl ?_)
  show wpAny _ _ (if (Value.ref l == Value.none) = true then _ else _) _ _ s
  rw [if_neg (show ¬ ((Value.ref l == Value.none) = true) from Bool.false_ne_true)]
  show wpAny _ _ (field (.ref it) 1 >>= _) _ _ s
  refine wpAny_bind (wpAny_field ho hd (x := .int i 0) rfl ?_)
  show wpAny _ _ (seqItems? (.ref l) >>= _) _ _ s
  refine wpAny_bind (wpAny_seqItems hol hdl ?_)
  simp only [Int.toNat_natCast, hx]
  refine wpAny_bind (wpAny_rule (wpAny_bind (wpAny_setField ho hd (by simp) ?_)))
  generalize hgen : s.heap.update it _ = h2
  have keep : ∀ b u, b ≠ it → s.heap.get? b = some u → h2.get? b = some u := fun b u nb e => by
    rw [← hgen, Heap.get?_update_other _ _ (Ne.symm nb)]
    exact e
  have h1' : h2.get? x1 = some o1 := keep _ _ nx h1
  show wpAny _ _ (newExc (.type "StopIteration") [] >>= _) _ _ _
  refine wpAny_bind ?_
  simp only [newExc, newTuple]
  refine wpAny_bind (wpAny_newObj_type ?_ (by size_fits))
  refine wpAny_bind (m := firstArgMember _ _) (wpAny_of_eq (a := Value.none) (by first | rfl | (simp only [firstArgMember]; rfl)) ?_)
  refine wpAny_newObj_type ?_ (by size_fits)
  refine raiseNew_hot (x1 := x1) ⟨hh, o1, vs1, Heap.get?_push_of_some _ (Heap.get?_push_of_some _ h1'), d1, c1⟩ (Nat.ne_of_lt (Heap.lt_size (Heap.get?_push_of_some _ h1'))) (Heap.get?_push_size _ rfl) rfl (by first | (simp; done) | (simp; omega) | (simp only [Array.size_append]; simp; omega)) ?_
  refine wpAny_bind (wpAny_isInstance (T := "StopIteration") (b := true) ⟨_, Heap.get?_update_self _ (Heap.get?_push_size _ rfl) rfl, rfl⟩ isSubtype_stop ?_)
  refine wpAny_pure (hQ _ fun b u nb e => ?_)
  have e2 := keep b u nb e
  rw [Heap.get?_update_other _ _ (Nat.ne_of_gt (Heap.lt_size (Heap.get?_push_of_some _ e2)))]
  exact Heap.get?_push_of_some _ (Heap.get?_push_of_some _ e2)
end
/-- the handled exception stands in the state at which the context starts -/
structure HotB (X : Cx) (x1 : Addr) (o : Obj) : Prop where
  hot : Hot1 X.A (x1, o)
  get : X.s_0.heap.get? x1 = some o
  free : X.H_0 x1 = none
  nofs : x1 ∉ X.fs
  noex : x1 ∉ X.ex
theorem HotB.stay {X : Cx} {x1 : Addr} {o : Obj} (c : HotB X x1 o) {pins : List (Addr × Obj)} {σ : L2.St} {H : Hp} {s : Shared} (I : Inv X pins σ H s) : s.heap.get? x1 = some o := I.base.keep _ _ c.get c.free c.nofs c.noex
theorem HotB.no {X : Cx} {x1 : Addr} {o : Obj} (c : HotB X x1 o) {pins : List (Addr × Obj)} {σ : L2.St} {H : Hp} {s : Shared} (I : Inv X pins σ H s) : H x1 = none := I.base.free _ _ c.get c.free c.noex
theorem HotB.at {X : Cx} {x1 : Addr} {o : Obj} (c : HotB X x1 o) {pins : List (Addr × Obj)} {σ : L2.St} {H : Hp} {s : Shared} (I : Inv X pins σ H s) : HotAt X.A x1 s.heap := by
  obtain ⟨hh, v1, e1, c1⟩ := c.hot
  exact ⟨hh, o, v1, c.stay I, e1, c1⟩
section
variable {X : Cx}
theorem sameUpd {H : Hp} {a : Addr} {o : HO} (h : H a = none) : Same H (upd H a o) := fun b u e => by
  rw [upd_ne (fun z => by rw [z, h] at e; cases e)]
  exact e
def tTrue (K : PySem.W.Frag) (ti : TE) : TE := fun σ H Q => ti σ H fun v H1 => ∃ (a : Addr) (bs : List Bool), v = .ref a ∧ SqL K H1 a (bs.map V.bl) ∧ ∀ D, H1 D = none → Q (.ref D) (upd H1 D (.lst ((bs.filter id).map V.bl)))
/-- [x for x in xs if x], xs a list of truth values, an exception being handled -/
theorem pe_lcTrue {x : Str} {i : Nat} {iter : Expr} {p1 p2 p4 pos : Pos} {scope : Scope} {own : List (Str × Nat)} {ti : TE} {x1 : Addr} {o1 : Obj} (hc : HotB X x1 o1) (hN : X.N.Nodup) (hi : PE X iter ti) (ok : BlkOk X.N X.env.scope scope own) (hx : i ∈ own.map (·.2)) (hil : i < X.N.length)
    (hg : ∀ (s : Shared) (H : Hp) (C : Addr) (cl : List (Str × Addr)) (fp : List Addr), PG (X.blk s H scope (compEnvC scope cl C X.env) fp) (.Name x p2) (gName i))
    (ht : ∀ (s : Shared) (H : Hp) (C : Addr) (cl : List (Str × Addr)) (fp : List Addr), PTs (X.blk s H scope (compEnvC scope cl C X.env) fp) [.Name x p4] (tB (tVar i)))
    (he : ∀ (s : Shared) (H : Hp) (C : Addr) (cl : List (Str × Addr)) (fp : List Addr), PE (X.blk s H scope (compEnvC scope cl C X.env) fp) (.Name x p1) (tVar i)) (hs : ∀ x, foldedSetIterable iter X.env x = pure x := by intro _; rfl) :
    PE X (.ListComp (.Name x p1) [⟨.Name x p2, iter, [.Name x p4], 0⟩] scope pos) (tTrue X.K ti) := by
  refine ⟨fun pins s σ H Q I h => ?_⟩
  have hfree : ∀ y ∈ scope.names, y.2 = .free → ∃ c, X.env.cells.lookup y.1 = some c := fun y hy e => by
    rcases ok.free y hy e with k | k
    · exact I.ok.has _ (.inl k)
    · exact I.ok.has _ (.inr k)
  rw [eval_ListComp]
  refine wpAny_comprehension_free (use := none) rfl hs (closure_ok hfree) ok.kind (fun y hy e => by rw [ok.uniq y hy, e]) (thn (hi.run pins s σ H _ I h) fun u s1 ⟨v, H1, I1, r1, a, bs, ev, hq, q⟩ => ?_)
  subst ev
  cases r1
  obtain ⟨its, rv, p, hz⟩ := I1.list hq
  have hlen : its.length = bs.length := by rw [← rv.length, List.length_map]
  refine wpAny_pyIter_list p.isList ?_
  -- the iterator, the new list
  generalize hit : s1.heap.objs.size = it
  have itn : H1 it = none := I1.hok.fresh (Nat.le_of_eq hit)
  have fit : FpOk X pins H1 it := I1.fpOk (Nat.le_of_eq hit) itn
  generalize hs2 : ({ s1 with heap := s1.heap.push { cls := .type "list_iterator", data := .fields #[.ref a, .int 0 0] } } : Shared) = s2
  have I2 : Inv X pins σ H1 s2 := by
    rw [← hs2]
    exact I1.kept (t' := s1.toks) fun b o e => Heap.get?_push_of_some _ e
  have st2 : s2.heap.IsListIter it a 0 := by
    rw [← hs2, ← hit]
    exact ⟨_, Heap.get?_push_size _ rfl, rfl, rfl⟩
  refine wpAny_newObj_type (newEnv_comp ?_) (by show 0 ≤ sizeLine; decide)
  generalize hD : s2.heap.objs.size = D
  have hDn : H1 D = none := I2.hok.fresh (Nat.le_of_eq hD)
  generalize hs3 : ({ s2 with heap := s2.heap.push { cls := .type "list", data := .seq ([] : List Value).toArray } } : Shared) = s3
  have I3 : Inv X pins σ (upd H1 D (.lst [])) s3 := by
    rw [← hs3]
    refine I2.laid (t' := s2.toks) (fun b o e => Heap.get?_push_of_some _ e) (Nat.le_of_eq hD) ⟨Nat.zero_le _, [], 0, .nil, ?_⟩
    rw [← hD]
    exact Heap.get?_push_size _ rfl
  have itlt : it < s2.heap.objs.size := by
    obtain ⟨o, e, _⟩ := st2
    exact Heap.lt_size e
  have nDi : it ≠ D := by rw [← hD]; exact Nat.ne_of_lt itlt
  have k23 : ∀ b o, s2.heap.get? b = some o → s3.heap.get? b = some o := fun b o e => by
    rw [← hs3]
    exact Heap.get?_push_of_some _ e
  have st3 : s3.heap.IsListIter it a 0 := st2.at (k23 it)
  have f3 : ∀ b ∈ [it], FpOk X pins (upd H1 D (.lst [])) b ∧ b < s3.heap.objs.size := fun b hb => by
    rw [List.mem_singleton.mp hb]
    refine ⟨⟨?_, fit.2⟩, ?_⟩
    · rw [upd_ne nDi]
      exact itn
    · rw [← hs3]
      show it < (s2.heap.push _).objs.size
      rw [Heap.size_push]
      exact Nat.lt_succ_of_lt itlt
  have I4 := block_start I3 ok hN f3
  have hq3 : SqL X.K (upd H1 D (.lst [])) a (bs.map V.bl) := (sameUpd hDn).seq hq
  generalize hH3 : upd H1 D (.lst []) = H3 at I3 I4 f3 hq3
  have pg := hg s3 H3 s3.heap.objs.size (cellsFrom (s3.heap.objs.size + 1) scope.names (cloFrom X.env.cells scope.names [])) [it]
  have pt := ht s3 H3 s3.heap.objs.size (cellsFrom (s3.heap.objs.size + 1) scope.names (cloFrom X.env.cells scope.names [])) [it]
  have pe := he s3 H3 s3.heap.objs.size (cellsFrom (s3.heap.objs.size + 1) scope.names (cloFrom X.env.cells scope.names [])) [it]
  show codeAny _ _ (.compStart (.ListComp (.Name x p1) [⟨.Name x p2, iter, [.Name x p4], 0⟩] scope pos) 0 (.ref it) (.ref D) (compEnvC scope (cellsFrom (s3.heap.objs.size + 1) scope.names (cloFrom X.env.cells scope.names [])) s3.heap.objs.size X.env)) _ { s3 with heap := pushCells (s3.heap.push { cls := .type "dict", data := .dict #[] }) scope.names }
  generalize hce : compEnvC scope (cellsFrom (s3.heap.objs.size + 1) scope.names (cloFrom X.env.cells scope.names [])) s3.heap.objs.size X.env = ce at I4 pg pt pe ⊢
  have cL : ce.locals = s3.heap.objs.size := by subst hce; rfl
  generalize hs4 : ({ s3 with heap := pushCells (s3.heap.push { cls := .type "dict", data := .dict #[] }) scope.names } : Shared) = s4 at I4 ⊢
  have st4 : s4.heap.IsListIter it a 0 := st3.at fun o e => by
    rw [← hs4]
    exact pushCells_keeps _ _ _ _ (Heap.get?_push_of_some _ e)
  -- the handled exception in the block
  have hs3g : s3.heap.get? x1 = some o1 := hc.stay I3
  have nx : x1 ≠ it := fun z => by
    have e := hc.stay I1
    rw [z] at e
    exact absurd (Heap.lt_size e) (by rw [hit]; exact Nat.lt_irrefl _)
  have hb : HotB (X.blk s3 H3 scope ce [it]) x1 o1 := ⟨hc.hot, hs3g, hc.no I3, fun m => by
    rcases List.mem_cons.mp (I3.stkSub x1 m) with z | z
    · exact absurd (Heap.lt_size hc.get) (by rw [z]; exact Nat.not_lt_of_le I3.ok.above)
    · exact hc.nofs z, fun m => nx (List.mem_singleton.mp m)⟩
  have stat : ∀ {σ' : L2.St} {H' : Hp} {s' : Shared}, Inv (X.blk s3 H3 scope ce [it]) [] σ' H' s' → H' it = none → ∀ b ∈ [it], FpOk (X.blk s3 H3 scope ce [it]) [] H' b := fun {σ' H' s'} I' hn b hb => by
    have e := List.mem_singleton.mp hb
    subst e
    exact ⟨hn, (I'.ok.exf b hb).1, I'.ok.exfs b hb, .inl hb, fun x c e => (I'.ok.exf b hb).2 x c e, fun p hp => absurd (show p ∈ ([] : List (Addr × Obj)) ++ [] from hp) (by simp)⟩
  have acc0 : (bs.take 0).filter id = [] := rfl
  have hlk : (wipe σ (own.map (·.2)))[i]? = some none := by
    have hl : i < (wipe σ (own.map (·.2))).length := by rw [wipe_length, I.len]; exact hil
    cases e : (wipe σ (own.map (·.2)))[i]? with
    | none => rw [List.getElem?_eq_none_iff] at e; omega
    | some z =>
      cases z with
      | none => rfl
      | some v => exact absurd hx (wipe_some e).2
  have loop : codeAny (model X.prog X.w) X.A (.compLoop (.ListComp (.Name x p1) [⟨.Name x p2, iter, [.Name x p4], 0⟩] scope pos) 0 (.ref it) (.ref D) ce) (compPost (model X.prog X.w) X.A X.xe none (fun v s' => EP X pins σ Q v s') (.ref D) s3.heap.objs.size) s4 := by
    refine compLoop_any (fun n s' => ∃ k, Inv (X.blk s3 H3 scope ce [it]) [] (wipe σ (own.map (·.2))) (upd H3 D (.lst (((bs.take k).filter id).map V.bl))) s' ∧ s'.heap.IsListIter it a k ∧ k ≤ bs.length ∧ n = bs.length - k) ?_ bs.length ⟨0, ?_, st4, Nat.zero_le _, rfl⟩
    · rintro n s5 ⟨k, I5, st5, hk, rfl⟩
      have nH3 : H3 it = none := (f3 it List.mem_cons_self).1.1
      have n5 : upd H3 D (.lst (((bs.take k).filter id).map V.bl)) it = none := by rw [upd_ne nDi]; exact nH3
      have hq5 : SqL X.K (upd H3 D (.lst (((bs.take k).filter id).map V.bl))) a (bs.map V.bl) := by
        rw [← hH3, upd_upd]
        exact (sameUpd hDn).seq hq
      obtain ⟨its5, rv5, p5, hz5⟩ := I5.list hq5
      have hl5 : its5.length = bs.length := by rw [← rv5.length, List.length_map]
      obtain ⟨f0, f1, f2, f3', f4, f5⟩ := stat I5 n5 it List.mem_cons_self
      by_cases hend : k = bs.length
      · -- no item is left
        subst hend
        refine next_list_end_hot (hb.at I5) nx st5 p5.isList (by simp [hl5]) fun h' kk => ?_
        have I6 : Inv (X.blk s3 H3 scope ce [it]) [] (wipe σ (own.map (·.2))) (upd H3 D (.lst (((bs.take bs.length).filter id).map V.bl))) { s5 with heap := h' } := I5.turned (t' := s5.toks) (fun b o nb e => kk b o nb e) f0 f1 f3' f4 f5
        have I7 : Inv X pins σ (upd H3 D (.lst (((bs.take bs.length).filter id).map V.bl))) { s5 with heap := h' } := I3.call' (ch := [it]) I6.os I6.base I6.hok I6.bare fun b hb => ⟨(f3 b hb).1.2.2.2.1, (f3 b hb).1.2.1, (f3 b hb).1.2.2.2.2.1, (f3 b hb).1.2.2.2.2.2⟩
        have nC : (upd H3 D (.lst (((bs.take bs.length).filter id).map V.bl))) s3.heap.objs.size = none := by
          have z := I6.free
          rw [show (X.blk s3 H3 scope ce [it]).env.locals = s3.heap.objs.size from cL] at z
          exact z
        obtain ⟨m, hn, _⟩ := I6.loc
        have hn : h'.Ns ce.locals m := hn
        rw [cL] at hn
        obtain ⟨g0, g1, g2, g3, g4, g5⟩ := I3.fpOk (Nat.le_refl _) nC
        refine ⟨m, hn, fun h'' sb => ⟨.ref D, _, I7.turned (t' := s5.toks) (fun b o hb e => (sb.2 b hb).trans e) g0 g1 g3 g4 g5, rfl, ?_⟩⟩
        have z := q D hDn
        rw [List.take_length, ← hH3, upd_upd]
        exact z
      · have hlt : k < bs.length := by omega
        have hx5 : (bs.map V.bl)[k]? = some (.bl bs[k]) := by rw [List.getElem?_map, List.getElem?_eq_getElem hlt]; rfl
        obtain ⟨u, hu, ru⟩ := rv5.get hx5
        cases ru
        refine wpAny_pyNext_list_item st5 p5.isList (x := .bool bs[k]) (by simpa using hu) fun h' st' sb => ?_
        have I6 : Inv (X.blk s3 H3 scope ce [it]) [] (wipe σ (own.map (·.2))) (upd H3 D (.lst (((bs.take k).filter id).map V.bl))) { s5 with heap := h' } := I5.turned (t' := s5.toks) (fun b o hb e => (sb.2 b hb).trans e) f0 f1 f3' f4 f5
        obtain ⟨o, e, c, d⟩ := id st'
        refine go_of (s := { s5 with heap := h' }) e c d (by decide) ?_
        have objs : ∀ b ∈ [it], ∃ o, h'.get? b = some o ∧ ∀ v, o.data ≠ .cell v := fun b hb => by
          rw [List.mem_singleton.mp hb]
          exact ⟨o, e, fun v z => by rw [d] at z; cases z⟩
        have I6' := I6.pinned (stat I6 n5) objs
        have pin2 : ∀ {σ' : L2.St} {H' : Hp} {s' : Shared}, Inv (X.blk s3 H3 scope ce [it]) ([] ++ pinsAt [it] h') σ' H' s' → s'.heap.IsListIter it a (k + 1) := fun {σ' H' s'} I' => st'.at fun o e => (I'.pin (it, o) (List.mem_append_right _ (List.mem_append_right _ (mem_pinsAt List.mem_cons_self e)))).1
        refine thnF (pg.run _ _ _ _ (.bl bs[k]) (.bool bs[k]) (fun σ2 H2 => σ2 = (wipe σ (own.map (·.2))).set i (some (.bl bs[k])) ∧ H2 = upd H3 D (.lst (((bs.take k).filter id).map V.bl))) I6' rfl ⟨rfl, rfl⟩) fun _ s8 ⟨σ8, H8, I8, e8, e8'⟩ => ?_
        subst e8 e8'
        have hli : i < (wipe σ (own.map (·.2))).length := by rw [wipe_length, I.len]; exact hil
        have hsl : ((wipe σ (own.map (·.2))).set i (some (.bl bs[k])))[i]? = some (some (.bl bs[k])) := List.getElem?_set_self hli
        refine thnF (pt.run _ s8 _ _ (fun b H9 => b = bs[k] ∧ H9 = upd H3 D (.lst (((bs.take k).filter id).map V.bl))) I8 ⟨_, hsl, _, rfl, rfl, rfl⟩) fun b s9 ⟨H9, I9, e9, e9'⟩ => ?_
        subst e9 e9'
        -- the turn's end
        have tk : (bs.take (k + 1)).filter id = (bs.take k).filter id ++ (if bs[k] = true then [bs[k]] else []) := by
          rw [List.take_succ, List.getElem?_eq_getElem hlt, List.filter_append]
          cases bs[k] <;> rfl
        have fin : ∀ {s' : Shared}, Inv (X.blk s3 H3 scope ce [it]) ([] ++ pinsAt [it] h') ((wipe σ (own.map (·.2))).set i (some (.bl bs[k]))) (upd H3 D (.lst (((bs.take (k + 1)).filter id).map V.bl))) s' →
            ∃ m, m < bs.length - k ∧ ∃ k, Inv (X.blk s3 H3 scope ce [it]) [] (wipe σ (own.map (·.2))) (upd H3 D (.lst (((bs.take k).filter id).map V.bl))) s' ∧ s'.heap.IsListIter it a k ∧ k ≤ bs.length ∧ m = bs.length - k := fun {s'} I' => by
          refine ⟨bs.length - (k + 1), by omega, k + 1, (I'.unpinned (pins := [])).weak (by rw [List.length_set]) (fun j v e => ?_), pin2 I', hlt, rfl⟩
          by_cases ji : i = j
          · subst ji
            rw [hlk] at e
            cases e
          · rw [List.getElem?_set_ne ji]
            exact e
        cases hbk : bs[k] with
        | false =>
          rw [hbk] at I9
          simp only [Bool.false_eq_true, if_false]
          refine fin ?_
          rw [tk, hbk]
          simpa using I9
        | true =>
          simp only [if_true]
          refine thnF (pe.run _ s9 _ _ (fun y H10 => y = .bl true ∧ H10 = upd H3 D (.lst (((bs.take k).filter id).map V.bl))) I9 ⟨_, by rw [hsl, hbk], rfl, rfl⟩) fun z s10 ⟨yv, H10, I10, r10, e10, e10'⟩ => ?_
          subst e10 e10'
          refine app_ok (X := X.blk s3 H3 scope ce [it]) I10 upd_same ?_ r10 fun s11 I11 => fin ?_
          · have l1 := List.length_filter_le id (bs.take k)
            rw [List.length_take] at l1
            have l2 : (bs.map V.bl).length = bs.length := List.length_map _
            rw [List.length_map]
            have l3 : min k bs.length = k := Nat.min_eq_left (by omega)
            rw [l3] at l1
            omega
          · rw [tk, hbk]
            rw [upd_upd, hbk] at I11
            simpa using I11
    · show Inv _ _ _ (upd H3 D (.lst [])) s4
      rw [show upd H3 D (.lst []) = H3 from by rw [← hH3, upd_upd]]
      exact I4
  exact codeAny_compStart_list loop (wpAny_pyIter_listiter st4 loop)
end
/-! ### a def that the suite calls, handed the exception -/
structure FnW (P : Program) (w : World) (K : PySem.W.Frag) (mg : Str → Option Value) (base : Heap) (CX : CXT) (k : Nat) (f : Addr) (fd : FuncData) (ps : List Str) (Z : Obj → Prop) (sp : Addr → Sp) : Prop where
  len : ∀ a vs H Q E, sp a vs H Q E → vs.length = ps.length
  run : ∀ (A : Around) (outer : List Env) (s : Shared) (H : Hp) (args : Args) (us : List Value) (vs : List V) (Q : VK) (E : XK) (p : Addr × Obj), RoomH k A → Hot1 A p → PinOk outer H s p → Z p.2 → Env0 P w K mg base A outer s H → BindsTo s fd args (ps.zip us) → Vals vs us → sp p.1 vs H Q E →
    codeAny (model P w) A (.call (.ref f) args) (CR CX outer P w H s Q E) s
section
variable {P : Program} {w : World} {K : PySem.W.Frag} {mg : Str → Option Value} {base : Heap} {CX : CXT} {Z : Obj → Prop}
theorem Fun.okW {x qual : Str} {st : Stmt} {f : Addr} {fd : FuncData} {N ps : List Str} {k : Nat} {sp : Addr → Sp} (F : Fun K x qual st f fd) (S : FnScope N ps (defScope st)) (len : ∀ a vs H Q E, sp a vs H Q E → vs.length = ps.length)
    (hbody : ∀ (cdv : Value) (A : Around) (outer : List Env) (s : Shared) (H : Hp) (vs : List V) (Q : VK) (E : XK) (p : Addr × Obj), Hot1 A p → Z p.2 → HotB (cxH CX P w K mg base N qual (defScope st) f cdv A outer s H E p) p.1 p.2 → RoomH k (A.deeper (envOfC qual (defScope st) s.heap.objs.size f cdv)) → sp p.1 vs H Q E →
      ∃ t, PSs (cxH CX P w K mg base N qual (defScope st) f cdv A outer s H E p) (defBody st) t ∧ t { nx := fun _ H' => Q .non H', rt := Q } (L2.start N vs) H) : FnW P w K mg base CX (k + 1) f fd ps Z sp := by
  obtain ⟨oc, od, kV, doc, pm, an, cdv, ct, osl, rfl, lk, hcd⟩ := F.ex
  refine ⟨len, fun A outer s H args us vs Q E p hr hot hpin hz e0 hb r hsp => ?_⟩
  have hl := len _ _ _ _ _ hsp
  have KX : K.In s.heap := e0.mod.kin.keeps fun b o e => (e0.bs b o e).1
  have lim : s.heap.NoLimit := e0.mod.nolimit.keeps fun b o e => (e0.bs b o e).1
  have hkind : ∀ y ∈ ps.zip us, (defScope st).names.lookup y.1 = some .local ∨ ((defScope st).names.lookup y.1 = some .cell ∧ ((cellsFrom (s.heap.objs.size + 1) (defScope st).names []).lookup y.1).isSome = true) := fun ⟨n, v⟩ hy => by
    rcases S.par n (List.of_mem_zip hy).1 with q | q
    · exact .inl q
    · exact .inr ⟨q, PySem.W.cellsFrom_some _ _ _ (.inl q)⟩
  refine codeAny_call_function hr.depth (KX _ _ lk) rfl S.co S.gen rfl (PySem.W.codeRec_of KX hcd) (hb _ _ _ _ ?_)
  refine wpAny_newFunctionEnv_cells S.kind hkind fun env he s1 x => ?_
  subst he
  refine ⟨lim.keeps x.toInCall.keep, codeAny_func ?_⟩
  have hB : HotB (cxH CX P w K mg base N qual (defScope st) f cdv A outer s H E p) p.1 p.2 := ⟨hot, hpin.get, hpin.free, hpin.nofs, fun z => absurd (show p.1 ∈ ([] : List Addr) from z) (by simp)⟩
  obtain ⟨t, ht, hq⟩ := hbody cdv A outer s H vs Q E p hot hz hB (hr.deeper _) hsp
  have I : Inv (cxH CX P w K mg base N qual (defScope st) f cdv A outer s H E p) [] (L2.start N vs) H s1 := inv_startH S hpin e0 hl r x
  refine wpAny_mono (ht.run [] s1 (L2.start N vs) H _ I hq) (fun fl s' hs => ?_) fun e s' hs => hs
  have fin : ∀ {σ' : L2.St} {H' : Hp} {v : V} {u : Value}, Inv (cxH CX P w K mg base N qual (defScope st) f cdv A outer s H E p) [] σ' H' s' → RelV v u → Q v H' → CE outer P w H s Q u s' :=
    fun {σ' H' v u} J rv q => ⟨v, H', J.os, J.bare, J.base, J.hok, rv, q⟩
  cases fl with
  | ret u =>
    obtain ⟨v, σ', H', J, rv, q⟩ := hs
    exact fin J rv q
  | next =>
    obtain ⟨σ', H', J, q⟩ := hs
    exact fin (v := V.non) (u := Value.none) J rfl q
  | brk =>
    obtain ⟨_, _, _, q⟩ := hs
    exact False.elim q
  | cont =>
    obtain ⟨_, _, _, q⟩ := hs
    exact False.elim q
end
section
variable {X : Cx} {CX : CXT} {k : Nat} {f : Addr} {fd : FuncData} {ps : List Str} {Z : Obj → Prop} {sp : Addr → Sp} {E : L2.St → XK} {x : Str} {q pos : Pos} {e : Expr} {es : List Expr} {t : TA}
/-- its call; (a, oe) is what the suite has pinned -/
theorem pe_callW {a : Addr} {oe : Obj} (F : FnW X.prog X.w X.K X.mg X.base CX k f fd ps Z sp) (hr : RoomH k X.A) (hot : Hot1 X.A (a, oe)) (hp : (a, oe) ∈ X.pn) (hz : Z oe) (hg : Gl X x) (hm : X.mg x = some (.ref f)) (hk : PySem.W.keepIn X.K (.ref f) = true) (hb : Binds X.K fd ps []) (hx : ∀ σ, PassesAt CX X σ (E σ))
    (ha : PA X (e :: es) t) (hdb : (x == ("__debug__" : Str)) = false := by decide) (he : starEach (e :: es) X.env = (false, eval e X.env) :: starEach es X.env := by rfl) (hpl : (backTo pos (starEach es X.env)).any (·.1) = false := by rfl) :
    PE X (.Call (.Name x q) (e :: es) [] pos) (tCallS (sp a) E t) := by
  refine ⟨fun pins s σ H Q I h => ?_⟩
  refine wpAny_Call_Name_kw (ld_glob I hg hm ?_ hdb)
  refine PySem.W.callWith_K (h₀ := X.base) I.ok.mod.kin hk (thn (ha.run pos pins s σ H _ I h) fun us s1 ⟨vs, H1, I1, r, h⟩ => ⟨I1.kIn, ?_⟩) he hpl
  have hl : us.length = ps.length := by rw [← r.length]; exact F.len _ _ _ _ _ h
  have b := hb s1 us I1.kIn (by rw [List.append_nil]; exact hl)
  rw [List.append_nil] at b
  have P1 := I1.pin (a, oe) (List.mem_append_left _ hp)
  have hpin : PinOk X.stack H1 s1 (a, oe) := ⟨P1.1, P1.2.1, fun hm => (List.mem_cons.mp (I1.stkSub a hm)).elim P1.2.2.1 P1.2.2.2.1, P1.2.2.2.2⟩
  refine wpAny_call (codeAny_mono (F.run X.A X.stack s1 H1 ⟨us, []⟩ us vs Q (E σ) (a, oe) hr hot hpin hz I1.env0 b r h) fun r s' hq => ?_)
  cases r with
  | error e => exact hx σ pins H1 s1 e s' I1 hq
  | ok fl =>
    cases fl with
    | ret u => exact I1.after hq
    | next => exact False.elim hq
    | brk => exact False.elim hq
    | cont => exact False.elim hq
/-- isinstance(e, c), e the pinned exception, D its class -/
theorem call_isP {a D : Addr} {oe : Obj} (C : ExcC X.K D) (hp : (a, oe) ∈ X.pn) (hz : Zc (.ref D) none oe) (hf : ∃ vs, oe.data = .fields vs) : CallR X (.builtin "isinstance") (rIsE X.K D a) := by
  intro pins s σ H xs us Q I r h
  obtain ⟨c, cv, b, rfl, hcv, e, q⟩ := h
  obtain ⟨u1, u2, rfl, r1, r2⟩ := vals2 r
  cases r1
  have ec := hcv _ r2
  subst ec
  obtain ⟨hget, _⟩ := I.pin (a, oe) (List.mem_append_left _ hp)
  obtain ⟨vs, hv⟩ := hf
  have J : PySem.W.InstAt s.heap a oe D none := by
    obtain ⟨oc, od, oda, osl⟩ := oe
    obtain ⟨h1, h2⟩ := hz
    dsimp only at h1 h2 hv
    subst h1 h2 hv
    exact ⟨hget, rfl, rfl, trivial⟩
  exact PySem.W.kia_one (PySem.W.handS_kitx_exc C.hg C.hk C.hs C.hd C.ha C.hn C.ht C.hm) I.kIn J e (fun z => nomatch z) fun tk => ⟨.bl b, H, I.kept (t' := tk) fun _ _ z => z, rfl, q⟩
end
end GE

set_option Elab.async false
set_option linter.all false
set_option maxRecDepth 100000
set_option maxHeartbeats 4000000
/-! a method's call in a try's body: what it lets out is told with the slots; a suite's proof that knows the exception -/
namespace GE
open PySem PySem.Spec PyProof.Rows L2
section
variable {X : Cx} {CX : CXT} {k : Nat} {f C : Addr} {fd : FuncData} {ps : List Str} {sp : Sp} {E : L2.St → XK} {m : Str} {pos apos : Pos} {e o : Expr} {es : List Expr} {ta : TE} {t : TA}
def tMethA (C : Addr) (m : Str) (sp : Sp) (E : L2.St → XK) (ta : TE) (t : TA) : TE := fun σ H Q => ta σ H fun x H1 => ∃ a dx fs, x = .ref a ∧ H1 a = some (.ins C dx fs) ∧ fs.lookup m = none ∧ t σ H1 fun vs H2 => sp (x :: vs) H2 Q (E σ)
theorem pe_methA {pl : Sem Bool} (he : PE X o ta) (c : Cls X.K C) (hm : Meth X.K C m f) (F : FnOk X.prog X.w X.K X.mg X.base CX k f fd ps sp) (hr : Room k X.A) (hb : Binds X.K fd ps []) (hx : ∀ σ, PassesAt CX X σ (E σ)) (ha : PA X (e :: es) t)
    (hst : starEach (e :: es) X.env = (false, eval e X.env) :: starEach es X.env := by rfl) (hpl : (backTo pos (starEach es X.env)).any (·.1) = false := by rfl)
    (ht : eval (.Call (.Attribute o m apos) (e :: es) [] pos) X.env = (do
      let ov ← eval o X.env
      standAt apos.atName
      let (f, first) ← holding [ov] (getMethod ov m pl)
      callWith pos f first (backTo pos (starEach (e :: es) X.env)) (backToKw pos (keywordEach [] X.env))) := by rfl) :
    PE X (.Call (.Attribute o m apos) (e :: es) [] pos) (tMethA C m sp E ta t) := by
  refine ⟨fun pins s σ H Q I h => ?_⟩
  refine PySem.W.methodCall_KW (pl := pl) (thn (he.run pins s σ H _ I h) fun u s1 ⟨x, H1, I1, rx, a, dx, fs, ex, ea, l, q⟩ => ?_) ht
  subst ex
  obtain rfl : u = Value.ref a := rx
  refine getmeth_ok I1 ea c hm l ?_
  refine PySem.W.callWith_K (first := [.ref a]) (h₀ := X.base) I.ok.mod.kin hm.kp (thn (ha.run pos pins s1 σ H1 _ I1 q) fun us s2 ⟨vs, H2, I2, r, q2⟩ => ⟨I2.kIn, ?_⟩) hst hpl
  exact run_fnS (us := .ref a :: us) (vs := .ref a :: vs) F hr hb (hx σ) I2 (.cons rfl r) q2
/-- a block's proof that leans on p: its reading says p too -/
theorem pss_when {l : List Stmt} {p : Prop} {t : TS} (h : p → PSs X l t) : PSs X l (fun D σ H => p ∧ t D σ H) := ⟨fun pins s σ H D I q => (h q.1).run pins s σ H D I q.2⟩
end
end GE

set_option Elab.async false
set_option linter.all false
set_option maxRecDepth 100000
set_option maxHeartbeats 4000000
/-! unpacking, comprehensions while an exception is handled -/
namespace GE
open PySem PySem.Spec PyProof.Rows L2 HotX L2H
section
variable {prog : Program} {w : World} {A : Around} {E : Value → Shared → Prop} {s : Shared}
theorem next_tuple_end_hot {it t x1 : Addr} {i : Nat} {items} {Q : Option Value → Shared → Prop} (hot : HotAt A x1 s.heap) (nx : x1 ≠ it)
    (hit : IsTupIter s.heap it t i) (ht : IsTup s.heap t items) (hx : items[i]? = none)
    (hQ : ∀ h', (∀ b o, b ≠ it → s.heap.get? b = some o → h'.get? b = some o) → Q none { s with heap := h' }) : wpAny (model prog w) A (pyNext (.ref it)) Q E s := by
  obtain ⟨o, ho, hc, hd⟩ := id hit
  obtain ⟨ol, hol, _, nl, hdl⟩ := ht
  obtain ⟨hh, o1, vs1, h1, d1, c1⟩ := hot
  unfold pyNext
  refine wpAny_bind (wpAny_attempt (wpAny_callSpecial?_slot (name := Str.ofString "__next__") hit.typeIs slot_tupleiter_next
    (wpAny_call_entry slot_tupleiter_next hit.typeIs entry_tupleiter_next ?_ (args_tupleiter_next _))))
  show wpAny _ _ (field (.ref it) 0 >>= _) _ _ s
  refine wpAny_bind (wpAny_field ho hd (x := .ref t) rfl ?_)
  show wpAny _ _ (if (Value.ref t == Value.none) = true then _ else _) _ _ s
  rw [if_neg (show ¬ ((Value.ref t == Value.none) = true) from Bool.false_ne_true)]
  show wpAny _ _ (field (.ref it) 1 >>= _) _ _ s
  refine wpAny_bind (wpAny_field ho hd (x := .int i 0) rfl ?_)
  show wpAny _ _ (seqItems? (.ref t) >>= _) _ _ s
  refine wpAny_bind (wpAny_seqItems hol hdl ?_)
  simp only [Int.toNat_natCast, hx]
  refine wpAny_bind (wpAny_rule (wpAny_bind (wpAny_setField ho hd (by simp) ?_)))
  generalize hgen : s.heap.update it _ = h2
  have keep : ∀ b u, b ≠ it → s.heap.get? b = some u → h2.get? b = some u := fun b u nb e => by
    rw [← hgen, Heap.get?_update_other _ _ (Ne.symm nb)]
    exact e
  have h1' : h2.get? x1 = some o1 := keep _ _ nx h1
  show wpAny _ _ (newExc (.type "StopIteration") [] >>= _) _ _ _
  refine wpAny_bind ?_
  simp only [newExc, newTuple]
  refine wpAny_bind (wpAny_newObj_type ?_ (by size_fits))
  refine wpAny_bind (m := firstArgMember _ _) (wpAny_of_eq (a := Value.none) (by first | rfl | (simp only [firstArgMember]; rfl)) ?_)
  refine wpAny_newObj_type ?_ (by size_fits)
  refine raiseNew_hot (x1 := x1) ⟨hh, o1, vs1, Heap.get?_push_of_some _ (Heap.get?_push_of_some _ h1'), d1, c1⟩ (Nat.ne_of_lt (Heap.lt_size (Heap.get?_push_of_some _ h1'))) (Heap.get?_push_size _ rfl) rfl (by first | (simp; done) | (simp; omega) | (simp only [Array.size_append]; simp; omega)) ?_
  refine wpAny_bind (wpAny_isInstance (T := "StopIteration") (b := true) ⟨_, Heap.get?_update_self _ (Heap.get?_push_size _ rfl) rfl, rfl⟩ isSubtype_stop ?_)
  refine wpAny_pure (hQ _ fun b u nb e => ?_)
  have e2 := keep b u nb e
  rw [Heap.get?_update_other _ _ (Nat.ne_of_gt (Heap.lt_size (Heap.get?_push_of_some _ e2)))]
  exact Heap.get?_push_of_some _ (Heap.get?_push_of_some _ e2)
theorem unpackItems_tuple_hot {t x1 : Addr} {items : Array Value} {Q : List Value → Shared → Prop} (hot : HotAt A x1 s.heap) (ht : IsTup s.heap t items)
    (hQ : ∀ h', Heap.ExtBut s.heap.objs.size s.heap h' → Q items.toList { s with heap := h' }) : wpAny (model prog w) A (unpackItems (.ref t) items.size none) Q E s := by
  have hlt : t ≠ s.heap.objs.size := by obtain ⟨o, ho, _⟩ := ht; exact Nat.ne_of_lt (Heap.lt_size ho)
  obtain ⟨hh, o1, vs1, h1, d1, c1⟩ := hot
  have x1lt : x1 ≠ s.heap.objs.size := Nat.ne_of_lt (Heap.lt_size h1)
  unfold unpackItems
  refine wpAny_bind ?_
  · unfold notIterableAtAll
    refine wpAny_bind (wpAny_specialOf ht.typeIs slot_tuple_iter.lookup ?_)
    refine wpAny_pure ?_
    simp only [Bool.false_eq_true, if_false]
    refine wpAny_bind (wpAny_holding (iter_tuple ht ?_))
    refine wpAny_bind (wpAny_holding (draw_tuple hlt items.size 0 _ _ ⟨_, Heap.get?_push_size _ rfl, rfl, rfl⟩ (ht.push _) (by omega) fun h₁ hit₁ hs₁ => ?_))
    have hall : List.take items.size (List.drop 0 items.toList) = items.toList := by
      rw [List.drop_zero]; exact List.take_of_length_le (by simp)
    rw [hall]
    rw [if_neg (by simp)]
    have ht₁ : IsTup h₁ t items := (ht.push _).extBut hs₁.extBut hlt
    have x1g : h₁.get? x1 = some o1 := hs₁.extBut x1 o1 x1lt (Heap.get?_push_of_some _ h1)
    refine wpAny_bind (wpAny_holding (next_tuple_end_hot (x1 := x1) ⟨hh, o1, vs1, x1g, d1, c1⟩ x1lt hit₁ ht₁ (by simp) fun h₂ he₂ => ?_))
    simp only [Option.isSome_none, Bool.false_eq_true, if_false]
    refine wpAny_pure (hQ h₂ fun b o hb e => he₂ b o hb (hs₁.extBut b o hb (Heap.get?_push_of_some _ e)))
theorem assign_tuple_hot {env : Env} {elts : List Expr} {k} {pos : Pos} {t x1 : Addr} {items : Array Value} {Q : Unit → Shared → Prop} (hot : HotAt A x1 s.heap) (ht : IsTup s.heap t items)
    (hn : (assignEach elts env).length = items.size) (hstar : (assignEach elts env).findIdx? (·.1) = none)
    (h : ∀ h', Heap.ExtBut s.heap.objs.size s.heap h' → wpAny (model prog w) A (assignInOrder ((assignEach elts env).map (·.2)) items.toList) Q E { s with heap := h' }) :
    wpAny (model prog w) A (assign (.Tuple elts k pos) env (.ref t)) Q E s := by
  rw [assign_Tuple]
  refine wpAny_bind (wpAny_standAt ?_)
  unfold unpack
  rw [hn, hstar]
  exact wpAny_bind (wpAny_holding (unpackItems_tuple_hot hot ht h))
end
section
variable {X : Cx}
theorem pg_tupHot (K : PySem.W.Frag) {es : List Expr} {k : Nat} {t : TGs} {n : Nat} {pos : Pos} {x1 : Addr} {o1 : Obj} (hc : HotB X x1 o1) (h : PGs X es t)
    (hn : (assignEach es X.env).length = n := by rfl) (hst : (assignEach es X.env).findIdx? (·.1) = none := by rfl) (hk : X.K = K := by rfl) : PG X (.Tuple es k pos) (gTup K n t) := by
  subst hk
  refine ⟨fun pins s σ H v u Q I r hw => ?_⟩
  obtain ⟨a, xs, e1, hq, hl, hw⟩ := hw
  subst e1
  cases r
  obtain ⟨its, rv, ht, hz⟩ := I.tuple hq
  refine assign_tuple_hot (hc.at I) ht (by simp [hn, ← hl, rv.length]) hst fun h' hx => ?_
  have I1 : Inv X pins σ H { s with heap := h' } := I.kept (t' := s.toks) fun b o e => hx b o (Nat.ne_of_lt (Heap.lt_size e)) e
  exact h.run pins _ σ H xs _ Q I1 (by simpa using rv) hw
/-- [elt for tg in xs if t], an exception being handled; the parts change nothing in the heap -/
def tHot (K : PySem.W.Frag) (ti : TE) (g : TG) (tt : TT) (te : TE) (vs : List Nat) : TE := fun σ H Q => ti σ H fun v H1 => ∃ (a : Addr) (xs : List V) (keep : V → Bool) (out : V → V), v = .ref a ∧ SqL K H1 a xs ∧
  (∀ x ∈ xs, ∀ H', Same H1 H' → g x (wipe σ vs) H' fun σ2 H2 => H2 = H' ∧ wipe σ2 vs = wipe σ vs ∧ tt σ2 H2 fun b H3 => H3 = H2 ∧ b = keep x ∧ (b = true → te σ2 H3 fun y H4 => H4 = H3 ∧ y = out x)) ∧
  ∀ D, H1 D = none → Q (.ref D) (upd H1 D (.lst ((xs.filter keep).map out)))
theorem lc_coreHot {pins : List (Addr × Obj)} {s : Shared} {σ : L2.St} {H : Hp} {Q : VK} {tg elt iter tst : Expr} {pos pos' : Pos} {scope : Scope} {own : List (Str × Nat)} {ti : TE} {g : TG} {tt : TT} {te : TE} {x1 : Addr} {o1 : Obj} {use : Option (Value → Sem Unit)} {Qf : Value → Shared → Prop}
    (hc : HotB X x1 o1) (hN : X.N.Nodup) (I : Inv X pins σ H s) (hi : PE X iter ti) (ok : BlkOk X.N X.env.scope scope own)
    (hg : ∀ (s : Shared) (H : Hp) (C : Addr) (cl : List (Str × Addr)) (fp : List Addr), HotB (X.blk s H scope (compEnvC scope cl C X.env) fp) x1 o1 → PG (X.blk s H scope (compEnvC scope cl C X.env) fp) tg g)
    (ht : ∀ (s : Shared) (H : Hp) (C : Addr) (cl : List (Str × Addr)) (fp : List Addr), PTs (X.blk s H scope (compEnvC scope cl C X.env) fp) [tst] tt)
    (he : ∀ (s : Shared) (H : Hp) (C : Addr) (cl : List (Str × Addr)) (fp : List Addr), PE (X.blk s H scope (compEnvC scope cl C X.env) fp) elt te) (hs : ∀ x, foldedSetIterable iter X.env x = pure x)
    (h : tHot X.K ti g tt te (own.map (·.2)) σ H Q)
    (hRR : ∀ D C s' m H', Inv X pins σ H' s' → Q (.ref D) H' → s'.heap.Ns C m → FpOk X pins H' C → compPost (model X.prog X.w) X.A X.xe use Qf (.ref D) C (.ok .next) s') :
    wpAny (model X.prog X.w) X.A (comprehension (.ListComp elt [⟨tg, iter, [tst], 0⟩] scope pos) scope X.env pos' (newList []) false (eval iter X.env) use) Qf X.xe s := by
  have hfree : ∀ y ∈ scope.names, y.2 = .free → ∃ c, X.env.cells.lookup y.1 = some c := fun y hy e => by
    rcases ok.free y hy e with k | k
    · exact I.ok.has _ (.inl k)
    · exact I.ok.has _ (.inr k)
  refine wpAny_comprehension_free (use := use) rfl hs (closure_ok hfree) ok.kind (fun y hy e => by rw [ok.uniq y hy, e]) (thn (hi.run pins s σ H _ I h) fun u s1 ⟨v, H1, I1, r1, a, xs, keep, out, ev, hq, par, q⟩ => ?_)
  subst ev
  cases r1
  obtain ⟨its, rv, p, hz⟩ := I1.list hq
  have hlen : its.length = xs.length := rv.length.symm
  refine wpAny_pyIter_list p.isList ?_
  -- the iterator, the new list
  generalize hit : s1.heap.objs.size = it
  have itn : H1 it = none := I1.hok.fresh (Nat.le_of_eq hit)
  have fit : FpOk X pins H1 it := I1.fpOk (Nat.le_of_eq hit) itn
  generalize hs2 : ({ s1 with heap := s1.heap.push { cls := .type "list_iterator", data := .fields #[.ref a, .int 0 0] } } : Shared) = s2
  have I2 : Inv X pins σ H1 s2 := by
    rw [← hs2]
    exact I1.kept (t' := s1.toks) fun b o e => Heap.get?_push_of_some _ e
  have st2 : s2.heap.IsListIter it a 0 := by
    rw [← hs2, ← hit]
    exact ⟨_, Heap.get?_push_size _ rfl, rfl, rfl⟩
  refine wpAny_newObj_type (newEnv_comp ?_) (by show 0 ≤ sizeLine; decide)
  generalize hD : s2.heap.objs.size = D
  have hDn : H1 D = none := I2.hok.fresh (Nat.le_of_eq hD)
  generalize hs3 : ({ s2 with heap := s2.heap.push { cls := .type "list", data := .seq ([] : List Value).toArray } } : Shared) = s3
  have I3 : Inv X pins σ (upd H1 D (.lst [])) s3 := by
    rw [← hs3]
    refine I2.laid (t' := s2.toks) (fun b o e => Heap.get?_push_of_some _ e) (Nat.le_of_eq hD) ⟨Nat.zero_le _, [], 0, .nil, ?_⟩
    rw [← hD]
    exact Heap.get?_push_size _ rfl
  have itlt : it < s2.heap.objs.size := by
    obtain ⟨o, e, _⟩ := st2
    exact Heap.lt_size e
  have nDi : it ≠ D := by rw [← hD]; exact Nat.ne_of_lt itlt
  have k23 : ∀ b o, s2.heap.get? b = some o → s3.heap.get? b = some o := fun b o e => by
    rw [← hs3]
    exact Heap.get?_push_of_some _ e
  have st3 : s3.heap.IsListIter it a 0 := st2.at (k23 it)
  have f3 : ∀ b ∈ [it], FpOk X pins (upd H1 D (.lst [])) b ∧ b < s3.heap.objs.size := fun b hb => by
    rw [List.mem_singleton.mp hb]
    refine ⟨⟨?_, fit.2⟩, ?_⟩
    · rw [upd_ne nDi]
      exact itn
    · rw [← hs3]
      show it < (s2.heap.push _).objs.size
      rw [Heap.size_push]
      exact Nat.lt_succ_of_lt itlt
  have I4 := block_start I3 ok hN f3
  have hq3 : SqL X.K (upd H1 D (.lst [])) a xs := (sameUpd hDn).seq hq
  generalize hH3 : upd H1 D (.lst []) = H3 at I3 I4 f3 hq3
  -- the handled exception in the block
  have hs3g : s3.heap.get? x1 = some o1 := hc.stay I3
  have nx : x1 ≠ it := fun z => by
    have e := hc.stay I1
    rw [z] at e
    exact absurd (Heap.lt_size e) (by rw [hit]; exact Nat.lt_irrefl _)
  have hbA : ∀ ce, HotB (X.blk s3 H3 scope ce [it]) x1 o1 := fun ce => ⟨hc.hot, hs3g, hc.no I3, fun m => by
    rcases List.mem_cons.mp (I3.stkSub x1 m) with z | z
    · exact absurd (Heap.lt_size hc.get) (by rw [z]; exact Nat.not_lt_of_le I3.ok.above)
    · exact hc.nofs z, fun m => nx (List.mem_singleton.mp m)⟩
  have pg := hg s3 H3 s3.heap.objs.size (cellsFrom (s3.heap.objs.size + 1) scope.names (cloFrom X.env.cells scope.names [])) [it] (hbA _)
  have pt := ht s3 H3 s3.heap.objs.size (cellsFrom (s3.heap.objs.size + 1) scope.names (cloFrom X.env.cells scope.names [])) [it]
  have pe := he s3 H3 s3.heap.objs.size (cellsFrom (s3.heap.objs.size + 1) scope.names (cloFrom X.env.cells scope.names [])) [it]
  show codeAny _ _ (.compStart (.ListComp elt [⟨tg, iter, [tst], 0⟩] scope pos) 0 (.ref it) (.ref D) (compEnvC scope (cellsFrom (s3.heap.objs.size + 1) scope.names (cloFrom X.env.cells scope.names [])) s3.heap.objs.size X.env)) _ { s3 with heap := pushCells (s3.heap.push { cls := .type "dict", data := .dict #[] }) scope.names }
  generalize hce : compEnvC scope (cellsFrom (s3.heap.objs.size + 1) scope.names (cloFrom X.env.cells scope.names [])) s3.heap.objs.size X.env = ce at I4 pg pt pe ⊢
  have cL : ce.locals = s3.heap.objs.size := by subst hce; rfl
  generalize hs4 : ({ s3 with heap := pushCells (s3.heap.push { cls := .type "dict", data := .dict #[] }) scope.names } : Shared) = s4 at I4 ⊢
  have st4 : s4.heap.IsListIter it a 0 := st3.at fun o e => by
    rw [← hs4]
    exact pushCells_keeps _ _ _ _ (Heap.get?_push_of_some _ e)
  have hb := hbA ce
  have stat : ∀ {σ' : L2.St} {H' : Hp} {s' : Shared}, Inv (X.blk s3 H3 scope ce [it]) [] σ' H' s' → H' it = none → ∀ b ∈ [it], FpOk (X.blk s3 H3 scope ce [it]) [] H' b := fun {σ' H' s'} I' hn b hb => by
    have e := List.mem_singleton.mp hb
    subst e
    exact ⟨hn, (I'.ok.exf b hb).1, I'.ok.exfs b hb, .inl hb, fun x c e => (I'.ok.exf b hb).2 x c e, fun p hp => absurd (show p ∈ ([] : List (Addr × Obj)) ++ [] from hp) (by simp)⟩
  obtain ⟨accf, hacc⟩ : ∃ f : Nat → List V, f = fun k => ((xs.take k).filter keep).map out := ⟨_, rfl⟩
  have acc0 : accf 0 = [] := by rw [hacc]; rfl
  have same3 : ∀ k, Same H1 (upd H3 D (.lst (accf k))) := fun k => by
    rw [← hH3, upd_upd]
    exact sameUpd hDn
  have loop : codeAny (model X.prog X.w) X.A (.compLoop (.ListComp elt [⟨tg, iter, [tst], 0⟩] scope pos) 0 (.ref it) (.ref D) ce) (compPost (model X.prog X.w) X.A X.xe use Qf (.ref D) s3.heap.objs.size) s4 := by
    refine compLoop_any (fun n s' => ∃ k, Inv (X.blk s3 H3 scope ce [it]) [] (wipe σ (own.map (·.2))) (upd H3 D (.lst (accf k))) s' ∧ s'.heap.IsListIter it a k ∧ k ≤ xs.length ∧ n = xs.length - k) ?_ xs.length ⟨0, ?_, st4, Nat.zero_le _, rfl⟩
    · rintro n s5 ⟨k, I5, st5, hk, rfl⟩
      have nH3 : H3 it = none := (f3 it List.mem_cons_self).1.1
      have n5 : upd H3 D (.lst (accf k)) it = none := by rw [upd_ne nDi]; exact nH3
      have hq5 : SqL X.K (upd H3 D (.lst (accf k))) a xs := (same3 k).seq hq
      obtain ⟨its5, rv5, p5, hz5⟩ := I5.list hq5
      have hl5 : its5.length = xs.length := rv5.length.symm
      obtain ⟨f0, f1, f2, f3', f4, f5⟩ := stat I5 n5 it List.mem_cons_self
      by_cases hend : k = xs.length
      · -- no item is left
        subst hend
        refine next_list_end_hot (hb.at I5) nx st5 p5.isList (by simp [hl5]) fun h' kk => ?_
        have I6 : Inv (X.blk s3 H3 scope ce [it]) [] (wipe σ (own.map (·.2))) (upd H3 D (.lst (accf xs.length))) { s5 with heap := h' } := I5.turned (t' := s5.toks) (fun b o nb e => kk b o nb e) f0 f1 f3' f4 f5
        have I7 : Inv X pins σ (upd H3 D (.lst (accf xs.length))) { s5 with heap := h' } := I3.call' (ch := [it]) I6.os I6.base I6.hok I6.bare fun b hb => ⟨(f3 b hb).1.2.2.2.1, (f3 b hb).1.2.1, (f3 b hb).1.2.2.2.2.1, (f3 b hb).1.2.2.2.2.2⟩
        have nC : (upd H3 D (.lst (accf xs.length))) s3.heap.objs.size = none := by
          have z := I6.free
          rw [show (X.blk s3 H3 scope ce [it]).env.locals = s3.heap.objs.size from cL] at z
          exact z
        obtain ⟨m, hn, _⟩ := I6.loc
        have hn : h'.Ns ce.locals m := hn
        rw [cL] at hn
        have z := q D hDn
        refine hRR D s3.heap.objs.size { s5 with heap := h' } m _ I7 ?_ hn (I3.fpOk (Nat.le_refl _) nC)
        rw [hacc, ← hH3, upd_upd]
        show Q (.ref D) (upd H1 D (.lst (((xs.take xs.length).filter keep).map out)))
        rw [List.take_length]
        exact z
      · have hlt : k < xs.length := by omega
        have hx5 : xs[k]? = some xs[k] := List.getElem?_eq_getElem hlt
        obtain ⟨u, hu, ru⟩ := rv5.get hx5
        refine wpAny_pyNext_list_item st5 p5.isList (x := u) (by simpa using hu) fun h' st' sb => ?_
        have I6 : Inv (X.blk s3 H3 scope ce [it]) [] (wipe σ (own.map (·.2))) (upd H3 D (.lst (accf k))) { s5 with heap := h' } := I5.turned (t' := s5.toks) (fun b o hb e => (sb.2 b hb).trans e) f0 f1 f3' f4 f5
        obtain ⟨o, e, c, d⟩ := id st'
        refine go_of (s := { s5 with heap := h' }) e c d (by decide) ?_
        have objs : ∀ b ∈ [it], ∃ o, h'.get? b = some o ∧ ∀ v, o.data ≠ .cell v := fun b hb => by
          rw [List.mem_singleton.mp hb]
          exact ⟨o, e, fun v z => by rw [d] at z; cases z⟩
        have I6' := I6.pinned (stat I6 n5) objs
        have pin2 : ∀ {σ' : L2.St} {H' : Hp} {s' : Shared}, Inv (X.blk s3 H3 scope ce [it]) ([] ++ pinsAt [it] h') σ' H' s' → s'.heap.IsListIter it a (k + 1) := fun {σ' H' s'} I' => st'.at fun o e => (I'.pin (it, o) (List.mem_append_right _ (List.mem_append_right _ (mem_pinsAt List.mem_cons_self e)))).1
        have P := par xs[k] (List.getElem_mem hlt) (upd H3 D (.lst (accf k))) (same3 k)
        refine thnF (pg.run _ _ _ _ xs[k] u _ I6' ru P) fun _ s8 ⟨σ8, H8, I8, e8, hw8, P8⟩ => ?_
        subst e8
        refine thnF (pt.run _ s8 _ _ _ I8 P8) fun b s9 ⟨H9, I9, e9, eb, P9⟩ => ?_
        subst e9
        -- the turn's end
        have tk : accf (k + 1) = accf k ++ (if keep xs[k] = true then [out xs[k]] else []) := by
          rw [hacc]
          show ((xs.take (k + 1)).filter keep).map out = ((xs.take k).filter keep).map out ++ _
          rw [List.take_add_one, List.getElem?_eq_getElem hlt, List.filter_append, List.map_append]
          congr 1
          show ([xs[k]].filter keep).map out = _
          rw [List.filter_cons]
          split <;> rfl
        have lacc : (accf k).length ≤ k := by
          rw [hacc]
          show (((xs.take k).filter keep).map out).length ≤ k
          rw [List.length_map]
          refine Nat.le_trans (List.length_filter_le _ _) ?_
          rw [List.length_take]
          exact Nat.min_le_left _ _
        have fin : ∀ {s' : Shared}, Inv (X.blk s3 H3 scope ce [it]) ([] ++ pinsAt [it] h') σ8 (upd H3 D (.lst (accf (k + 1)))) s' →
            ∃ m, m < xs.length - k ∧ ∃ k, Inv (X.blk s3 H3 scope ce [it]) [] (wipe σ (own.map (·.2))) (upd H3 D (.lst (accf k))) s' ∧ s'.heap.IsListIter it a k ∧ k ≤ xs.length ∧ m = xs.length - k := fun {s'} I' => by
          have hl : (wipe σ (own.map (·.2))).length = σ8.length := by rw [← hw8, wipe_length]
          refine ⟨xs.length - (k + 1), by omega, k + 1, (I'.unpinned (pins := [])).weak hl (fun j v e => ?_), pin2 I', hlt, rfl⟩
          rw [← hw8] at e
          exact (wipe_some e).1
        cases b with
        | false =>
          simp only [Bool.false_eq_true, if_false]
          refine fin ?_
          rw [tk, ← eb]
          simpa using I9
        | true =>
          simp only [if_true]
          refine thnF (pe.run _ s9 _ _ _ I9 (P9 rfl)) fun z s10 ⟨yv, H10, I10, r10, e10, e10'⟩ => ?_
          subst e10 e10'
          refine app_ok (X := X.blk s3 H3 scope ce [it]) I10 upd_same ?_ r10 fun s11 I11 => fin ?_
          · have := hz5
            omega
          · rw [tk, ← eb]
            rw [upd_upd] at I11
            simpa using I11
    · show Inv _ _ _ (upd H3 D (.lst (accf 0))) s4
      rw [acc0, show upd H3 D (.lst []) = H3 from by rw [← hH3, upd_upd]]
      exact I4
  exact codeAny_compStart_list loop (wpAny_pyIter_listiter st4 loop)
theorem pe_lcHot {tg elt iter tst : Expr} {pos : Pos} {scope : Scope} {own : List (Str × Nat)} {ti : TE} {g : TG} {tt : TT} {te : TE} {x1 : Addr} {o1 : Obj} (hc : HotB X x1 o1) (hN : X.N.Nodup) (hi : PE X iter ti) (ok : BlkOk X.N X.env.scope scope own)
    (hg : ∀ (s : Shared) (H : Hp) (C : Addr) (cl : List (Str × Addr)) (fp : List Addr), HotB (X.blk s H scope (compEnvC scope cl C X.env) fp) x1 o1 → PG (X.blk s H scope (compEnvC scope cl C X.env) fp) tg g)
    (ht : ∀ (s : Shared) (H : Hp) (C : Addr) (cl : List (Str × Addr)) (fp : List Addr), PTs (X.blk s H scope (compEnvC scope cl C X.env) fp) [tst] tt)
    (he : ∀ (s : Shared) (H : Hp) (C : Addr) (cl : List (Str × Addr)) (fp : List Addr), PE (X.blk s H scope (compEnvC scope cl C X.env) fp) elt te) (hs : ∀ x, foldedSetIterable iter X.env x = pure x := by intro _; rfl) :
    PE X (.ListComp elt [⟨tg, iter, [tst], 0⟩] scope pos) (tHot X.K ti g tt te (own.map (·.2))) := by
  refine ⟨fun pins s σ H Q I h => ?_⟩
  rw [eval_ListComp]
  refine lc_coreHot hc hN I hi ok hg ht he hs h fun D C s' m H' I' q hn f => ⟨m, hn, fun h'' sb => ?_⟩
  obtain ⟨f0, f1, f2, f3, f4, f5⟩ := f
  exact ⟨.ref D, H', I'.turned (t' := s'.toks) (fun b o hb e => (sb.2 b hb).trans e) f0 f1 f3 f4 f5, rfl, q⟩
theorem ps_setLcHot {i : Nat} {y : Str} {py spos : Pos} {tg elt iter tst : Expr} {pos : Pos} {scope : Scope} {own : List (Str × Nat)} {ti : TE} {g : TG} {tt : TT} {te : TE} {x1 : Addr} {o1 : Obj} (hc : HotB X x1 o1) (hN : X.N.Nodup) (hy : X.N[i]? = some y) (hyl : X.env.scope.names.lookup y = some .local)
    (hsw : swapsWith (.ListComp elt [⟨tg, iter, [tst], 0⟩] scope pos) (some (.Name y py)) spos.line X.env = pure true) (hi : PE X iter ti) (ok : BlkOk X.N X.env.scope scope own)
    (hg : ∀ (s : Shared) (H : Hp) (C : Addr) (cl : List (Str × Addr)) (fp : List Addr), HotB (X.blk s H scope (compEnvC scope cl C X.env) fp) x1 o1 → PG (X.blk s H scope (compEnvC scope cl C X.env) fp) tg g)
    (ht : ∀ (s : Shared) (H : Hp) (C : Addr) (cl : List (Str × Addr)) (fp : List Addr), PTs (X.blk s H scope (compEnvC scope cl C X.env) fp) [tst] tt)
    (he : ∀ (s : Shared) (H : Hp) (C : Addr) (cl : List (Str × Addr)) (fp : List Addr), PE (X.blk s H scope (compEnvC scope cl C X.env) fp) elt te) (hs : ∀ x, foldedSetIterable iter X.env x = pure x := by intro _; rfl) :
    PS X (.Assign [.Name y py] (.ListComp elt [⟨tg, iter, [tst], 0⟩] scope pos) spos) (tAsg (tHot X.K ti g tt te (own.map (·.2))) (gName i)) := by
  refine ⟨fun pins s σ H D I h => ?_⟩
  rw [exec_Assign_Name_used _ _ _ _ hsw]
  refine wpAny_bind (wpAny_standAt (wpAny_bind ?_))
  show wpAny _ X.A (do let _ ← comprehension (.ListComp elt [⟨tg, iter, [tst], 0⟩] scope pos) scope X.env (firstIterPos [⟨tg, iter, [tst], 0⟩] pos) (newList []) false (eval iter X.env) (some (assign (.Name y py) X.env))) _ _ s
  have h : tHot X.K ti g tt te (own.map (·.2)) σ H (fun x H1 => gName i x σ H1 D.nx) := h
  refine wpAny_bind (thn (lc_coreHot (Qf := fun _ s' => SP X pins D .next s') hc hN I hi ok hg ht he hs h fun L C s' m H' I' q hn f => ?_) fun _ s' hq => wpAny_pure (wpAny_pure hq))
  show wpAny _ _ (assign (.Name y py) X.env (.ref L)) _ _ _
  refine wpAny_assign_Name (store_ok2 (v := V.ref L) I' hN hy (.inl hyl) rfl (fun s2 I2 ⟨a, sb, ha⟩ => ?_) (.inr hyl))
  obtain ⟨f0, f1, f2, f3, f4, f5⟩ := f
  have haC : C ≠ a := by
    rcases ha with z | z
    · rw [z]; exact f1
    · exact fun e => f4 y a z e.symm
  refine ⟨m, hn.sameBut sb haC, fun h3 sb3 => ?_⟩
  exact ⟨_, H', I2.turned (t' := s2.toks) (fun b o hb e => (sb3.2 b hb).trans e) f0 f1 f3 f4 f5, q⟩
theorem pss_either {l : List Stmt} {p1 p2 : Prop} {t1 t2 : TS} (h1 : p1 → PSs X l t1) (h2 : p2 → PSs X l t2) : PSs X l (fun D σ H => (p1 ∧ t1 D σ H) ∨ (p2 ∧ t2 D σ H)) :=
  ⟨fun pins s σ H D I q => q.elim (fun q => (h1 q.1).run pins s σ H D I q.2) fun q => (h2 q.1).run pins s σ H D I q.2⟩
end
end GE

set_option Elab.async false
set_option linter.all false
set_option maxRecDepth 100000
set_option maxHeartbeats 4000000
/-! tuple * int, any int -/
namespace GT
open PySem PySem.Spec PyProof.Rows L2
theorem tuple_mul1 (l : Addr) (items : Array Value) (n : Nat) (dd : Option Addr) (sl : Array (Option Value)) (u : Tok) :
    Meets (Builtin.«tuple.__mul__» ⟨[.ref l, .int 1 u], []⟩) (fun _ R s => s.heap.get? l = some { cls := .type "tuple", dict := dd, data := .seq items n, slots := sl } ∧ R (.ok (.ret (Value.ref l))) s) :=
  .of_wp fun prog w A R s h => by
    obtain ⟨hp, g, d, tk, os⟩ := s
    obtain ⟨hl, h⟩ := h
    have f1 := AutoSeq1.idx_int
    have c0 : (decide ((1 : Int) < -(2 ^ 63)) || decide ((1 : Int) ≥ 2 ^ 63)) = false := by decide
    have c1 : (items.isEmpty || (1 : Int) == 1) = true := by
      rw [show ((1 : Int) == 1) = true from rfl, Bool.or_true]
    wp_walk using wpAny_loadPart' hl
    repeat (first
      | (refine wpAny_ite_false (decide_eq_false (by rw [c0]; exact Bool.false_ne_true)) ?_; wp_walk using wpAny_loadPart' hl)
      | (refine wpAny_ite_true (decide_eq_true c1) ?_; wp_walk using wpAny_loadPart' hl))
    exact ⟨_, rfl, h⟩
theorem tuple_mul0 (l : Addr) (items : Array Value) (n : Nat) (dd : Option Addr) (sl : Array (Option Value)) (x : Int) (u : Tok) (c0 : (decide (x < -(2 ^ 63)) || decide (x ≥ 2 ^ 63)) = false) (c1 : (items.isEmpty || x == 1) = false) (c2 : (decide (x ≤ 0) || items.isEmpty) = true) :
    Meets (Builtin.«tuple.__mul__» ⟨[.ref l, .int x u], []⟩) (fun _ R s => s.heap.get? l = some { cls := .type "tuple", dict := dd, data := .seq items n, slots := sl } ∧
      R (.ok (.ret (Value.ref s.heap.objs.size))) { s with heap := s.heap.push { cls := Value.type "tuple", data := Data.seq #[] }, toks := s.toks }) :=
  .of_wp fun prog w A R s h => by
    obtain ⟨hp, g, d, tk, os⟩ := s
    obtain ⟨hl, h⟩ := h
    have f1 := AutoSeq1.idx_int
    wp_walk using wpAny_loadPart' hl
    repeat (first
      | (refine wpAny_ite_false (decide_eq_false (by rw [c0]; exact Bool.false_ne_true)) ?_; wp_walk using wpAny_loadPart' hl)
      | (refine wpAny_ite_false (decide_eq_false (by rw [c1]; exact Bool.false_ne_true)) ?_; wp_walk using wpAny_loadPart' hl)
      | (refine wpAny_ite_true (decide_eq_true c2) ?_; wp_walk using wpAny_loadPart' hl)
      | (refine wpAny_ite_false (decide_eq_false (Nat.not_lt.mpr (Nat.zero_le _))) ?_; wp_walk using wpAny_loadPart' hl))
    exact ⟨_, rfl, h⟩
/-- t * k, t not empty -/
def rRepA (K : PySem.W.Frag) : R2 := fun x y H Q => ∃ l k xs, x = .ref l ∧ y = .int k ∧ SqT K H l xs ∧ xs ≠ [] ∧ -1000 ≤ k ∧ k ≤ 10000 ∧ xs.length ≤ 1000 ∧ (k ≤ 0 → ∀ p, H p = none → Q (.ref p) (upd H p (.tup []))) ∧ (k = 1 → Q (.ref l) H) ∧
  (2 ≤ k → ∀ p, H p = none → Q (.ref p) (upd H p (.tup (List.replicate k.toNat xs).flatten)))
section
variable {X : Cx}
theorem op_repTA : OpR X (binaryOp .Mult) (rRepA X.K) := by
  intro pins s σ H x y v u Q I rx ry h
  obtain ⟨l, k, xs, rfl, rfl, hT, hne, h1, h2, hz, q0, q1, q2⟩ := h
  cases rx
  obtain ⟨t, rfl⟩ := ry
  obtain ⟨its, r, ⟨⟨cls, dd, data, sl⟩, ho, hc, n, hd⟩, hs⟩ := I.tuple hT
  simp only at hc hd
  subst hc hd
  have hle : its.length = xs.length := r.length.symm
  have hn : its ≠ [] := fun e => hne (by
    rw [e] at hle
    exact List.eq_nil_of_length_eq_zero hle.symm)
  have hi : its.toArray.isEmpty = false := by
    cases its with
    | nil => exact absurd rfl hn
    | cons a b => rfl
  have hsz0 : its.toArray.size = xs.length := by rw [List.size_toArray, hle]
  have c0 : (decide (k < -(2 ^ 63)) || decide (k ≥ 2 ^ 63)) = false := by
    rw [decide_eq_false (by omega), decide_eq_false (by omega)] <;> rfl
  rcases (by omega : k ≤ 0 ∨ k = 1 ∨ 2 ≤ k) with hk | hk | hk
  · have c1 : (its.toArray.isEmpty || k == 1) = false := by
      rw [hi, Bool.false_or]
      exact beq_eq_false_iff_ne.mpr (by omega)
    have c2 : (decide (k ≤ 0) || its.toArray.isEmpty) = true := by
      rw [decide_eq_true hk, Bool.true_or]
    refine wpAny_binaryOp_repeat_ref (T := "tuple") (U := "int") (by decide) ⟨_, ho, rfl⟩ (fun s' => typeIs_int s' k t) noFill_tuple_mul F.fills_int_mul F.slot_int_rmul repeat_tuple F.slot_int_index.lookup
      (call_meets F.slot_int_rmul (typeIs_int s k t) F.entry_int_rmul (F.args_int_rmul_2 _ _) (int_rmul_tuple k t l its.toArray n dd sl)
        ⟨ho, rfl, ⟨_, ho, rfl⟩, call_meets F.slot_tuple_mul ⟨_, ho, rfl⟩ F.entry_tuple_mul (F.args_tuple_mul_2 _ _) (tuple_mul0 l its.toArray n dd sl k t c0 c1 c2) ⟨ho, ?_⟩⟩)
    refine ⟨.ref s.heap.objs.size, _, I.laid (t' := s.toks) (o := .tup []) (fun b ob q => Heap.get?_push_of_some _ q) (Nat.le_refl _) ?_, rfl, q0 hk _ (I.hok.fresh (Nat.le_refl _))⟩
    exact ⟨Nat.zero_le _, _, .nil, IsTup.new _ _⟩
  · subst hk
    exact wpAny_binaryOp_repeat_ref (T := "tuple") (U := "int") (by decide) ⟨_, ho, rfl⟩ (fun s' => typeIs_int s' 1 t) noFill_tuple_mul F.fills_int_mul F.slot_int_rmul repeat_tuple F.slot_int_index.lookup
      (call_meets F.slot_int_rmul (typeIs_int s 1 t) F.entry_int_rmul (F.args_int_rmul_2 _ _) (int_rmul_tuple 1 t l its.toArray n dd sl)
        ⟨ho, rfl, ⟨_, ho, rfl⟩, call_meets F.slot_tuple_mul ⟨_, ho, rfl⟩ F.entry_tuple_mul (F.args_tuple_mul_2 _ _) (tuple_mul1 l its.toArray n dd sl t) ⟨ho, .ref l, H, I, rfl, q1 rfl⟩⟩)
  · have hm : ((its.toArray.size : Nat) : Int) * k ≤ 10000000 := by
      rw [hsz0]
      have a1 : ((xs.length : Nat) : Int) * k ≤ 1000 * k := Int.mul_le_mul_of_nonneg_right (by omega) (by omega)
      omega
    have flen : (List.replicate k.toNat its).flatten.length ≤ sizeLine := by
      rw [PyProof.Rows.lm_len_rep_flat, hle, sizeLine_eq]
      have a1 : k.toNat * xs.length ≤ 10000 * 1000 := Nat.mul_le_mul (by omega) hz
      omega
    have c1 : (its.toArray.isEmpty || k == 1) = false := by
      rw [hi, Bool.false_or]
      exact beq_eq_false_iff_ne.mpr (by omega)
    have c2 : (decide (k ≤ 0) || its.toArray.isEmpty) = false := by
      rw [hi, Bool.or_false]
      exact decide_eq_false (by omega)
    have c4 : Builtin.Tuple.tupleTooMany (((its.toArray.size : Nat) : Int) * k) = false := by
      unfold Builtin.Tuple.tupleTooMany
      rw [sizeLine_eq]
      exact decide_eq_false (by omega)
    refine wpAny_binaryOp_repeat_ref (T := "tuple") (U := "int") (by decide) ⟨_, ho, rfl⟩ (fun s' => typeIs_int s' k t) noFill_tuple_mul F.fills_int_mul F.slot_int_rmul repeat_tuple F.slot_int_index.lookup
      (call_meets F.slot_int_rmul (typeIs_int s k t) F.entry_int_rmul (F.args_int_rmul_2 _ _) (int_rmul_tuple k t l its.toArray n dd sl)
        ⟨ho, rfl, ⟨_, ho, rfl⟩, call_meets F.slot_tuple_mul ⟨_, ho, rfl⟩ F.entry_tuple_mul (F.args_tuple_mul_2 _ _) (tuple_mulW l its.toArray n dd sl k t c0 c1 c2 (by omega) c4 (by rw [size_rep, List.size_toArray]; exact flen)) ⟨ho, ?_⟩⟩)
    rw [size_rep]
    refine ⟨.ref s.heap.objs.size, _, I.laid (t' := s.toks) (o := .tup (List.replicate k.toNat xs).flatten) (fun b ob q => Heap.get?_push_of_some _ q) (Nat.le_refl _) ?_, rfl, q2 hk _ (I.hok.fresh (Nat.le_refl _))⟩
    exact ⟨by rw [PyProof.Rows.lm_len_rep_flat, sizeLine_eq]; have a1 : k.toNat * xs.length ≤ 10000 * 1000 := Nat.mul_le_mul (by omega) hz; omega, _, r.rep k.toNat, IsTup.new _ _⟩
end
end GT

set_option Elab.async false
set_option maxRecDepth 100000
set_option maxHeartbeats 4000000
namespace K48
open PySem L2
def top (i : Nat) : Stmt := PySem.Challenge.pw_equalsgrown_k48_whole_code_for_a_stack.main.body.getD i (.Pass ⟨0, 0, 0, 0⟩)
abbrev s_is_number : Stmt := top 8
abbrev s_numeral_of : Stmt := top 13
abbrev s_number_of : Stmt := top 14
abbrev s_kind_of : Stmt := top 15
abbrev s_is_world : Stmt := top 22
abbrev s_worked : Stmt := top 23
abbrev s_made : Stmt := top 25
abbrev s_is_instruction : Stmt := top 31
abbrev s_is_code : Stmt := top 32
abbrev s_Machine___init__ : Stmt := inClass (top 33) 0
abbrev s_Machine_take : Stmt := inClass (top 33) 1
abbrev s_Machine_put : Stmt := inClass (top 33) 2
abbrev s_Machine_move : Stmt := inClass (top 33) 3
abbrev s_sorts_left : Stmt := top 34
abbrev s_height_of : Stmt := top 35
abbrev s_slots_of : Stmt := top 36
abbrev s_tried : Stmt := top 37
abbrev s_run_code : Stmt := top 38
abbrev s__law_open : Stmt := top 40
abbrev s__law_mixed : Stmt := top 41
abbrev s__law_draw : Stmt := top 42
abbrev s__law_told : Stmt := top 43
abbrev s__law_int : Stmt := top 44
abbrev s__law_kind : Stmt := top 45
abbrev s__law_work : Stmt := top 46
abbrev s__law_run : Stmt := top 47
abbrev s__law_asked : Stmt := top 48
abbrev s__law_one : Stmt := top 49
abbrev s_law : Stmt := top 50

/-- the built-in names that the module does not bind, the numbers and texts that it binds -/
structure Bi (mg : Str → Option Value) : Prop where
  abs : mg "abs" = none
  int : mg "int" = none
  range : mg "range" = none
  len : mg "len" = none
  list : mg "list" = none
  isinstance : mg "isinstance" = none
  bool : mg "bool" = none
  str : mg "str" = none
  tuple : mg "tuple" = none
  min : mg "min" = none
  max : mg "max" = none
  all : mg "all" = none
  g_MOST_NUMERAL : ∃ t, mg "MOST_NUMERAL" = some (.int 999 t)
  g_MOST_INPUT : ∃ t, mg "MOST_INPUT" = some (.int 1000000 t)
  g_MOST_CODE : ∃ t, mg "MOST_CODE" = some (.int 2000 t)
  g_MOST_SLOTS : ∃ t, mg "MOST_SLOTS" = some (.int 20 t)
  g_NUMBERS : ∃ t, mg "NUMBERS" = some (.str "num" t)
  g_FIGURES : ∃ t, mg "FIGURES" = some (.str "0123456789" t)
section
variable {X : Cx}
theorem pe_gint {x : Str} {i : Int} {pos : Pos} (hg : Gl X x) (h : ∃ t, X.mg x = some (.int i t)) (hd : (x == ("__debug__" : Str)) = false := by decide) : PE X (.Name x pos) (tC (.int i)) :=
  let ⟨t, e⟩ := h
  pe_glob hg e ⟨t, rfl⟩ hd
theorem pe_gstr {x z : Str} {pos : Pos} (hg : Gl X x) (h : ∃ t, X.mg x = some (.str z t)) (hd : (x == ("__debug__" : Str)) = false := by decide) : PE X (.Name x pos) (tC (.str z)) :=
  let ⟨t, e⟩ := h
  pe_glob hg e ⟨t, rfl⟩ hd
theorem pe_gref {x : Str} {a : Addr} {pos : Pos} (hg : Gl X x) (h : X.mg x = some (.ref a)) (hd : (x == ("__debug__" : Str)) = false := by decide) : PE X (.Name x pos) (tC (.ref a)) := pe_glob hg h rfl hd
/-- any two ints whose product is laid -/
theorem op_mulB : OpR X (binaryOp .Mult) (rI IntMulOk fun i j => .int (i * j)) := opI fun _ _ _ _ _ _ _ hc q => PyProof.Rows.mul_int q hc
end
/-! ### frames -/
theorem updId {H : Hp} {a : Addr} {o : HO} (h : H a = some o) : upd H a o = H := by
  funext c
  by_cases q : c = a
  · rw [q, upd_same, h]
  · rw [upd_ne q]
/-- all is kept but what stands at M (lists and dicts, objects); tables grow -/
structure Kp (H H' : Hp) (M : List Addr) : Prop where
  keep : ∀ c o, H c = some o → (∀ q, o ≠ .tbl q) → c ∉ M → H' c = some o
  tab : ∀ c ps, H c = some (.tbl ps) → ∃ ps', H' c = some (.tbl ps') ∧ (TriplesOk ps.toList → TriplesOk ps'.toList)
  kind : ∀ m ∈ M, ∀ ps, H m ≠ some (.tbl ps)
theorem Kp.refl (H : Hp) : Kp H H [] := ⟨fun _ _ e _ _ => e, fun _ ps e => ⟨ps, e, fun h => h⟩, fun _ h => nomatch h⟩
theorem Kp.tup {H H' : Hp} {M : List Addr} (k : Kp H H' M) {t : Addr} {xs : List V} (h : H t = some (.tup xs)) (n : t ∉ M) : H' t = some (.tup xs) := k.keep t _ h (fun _ e => nomatch e) n
theorem Kp.lst {H H' : Hp} {M : List Addr} (k : Kp H H' M) {t : Addr} {xs : List V} (h : H t = some (.lst xs)) (n : t ∉ M) : H' t = some (.lst xs) := k.keep t _ h (fun _ e => nomatch e) n
theorem Kp.dic {H H' : Hp} {M : List Addr} (k : Kp H H' M) {t : Addr} {xs : List (Key × V)} (h : H t = some (.dK xs)) (n : t ∉ M) : H' t = some (.dK xs) := k.keep t _ h (fun _ e => nomatch e) n
theorem Kp.tup0 {H H' : Hp} (k : Kp H H' []) {t : Addr} {xs : List V} (h : H t = some (.tup xs)) : H' t = some (.tup xs) := k.tup h (by simp)
theorem Kp.lst0 {H H' : Hp} (k : Kp H H' []) {t : Addr} {xs : List V} (h : H t = some (.lst xs)) : H' t = some (.lst xs) := k.lst h (by simp)
theorem Kp.tabG {H H' : Hp} {M : List Addr} (k : Kp H H' M) {P : Addr} (h : GxR.TabG H P) : GxR.TabG H' P := by
  obtain ⟨ps, e, t⟩ := h
  obtain ⟨ps', e', t'⟩ := k.tab P ps e
  exact ⟨ps', e', t' t⟩
theorem Kp.has {H H' : Hp} {M : List Addr} (k : Kp H H' M) {c : Addr} {o : HO} (h : H c = some o) (n : c ∉ M) : ∃ o', H' c = some o' := by
  by_cases z : ∃ q, o = .tbl q
  · obtain ⟨q, rfl⟩ := z
    obtain ⟨p, e, _⟩ := k.tab c q h
    exact ⟨_, e⟩
  · exact ⟨o, k.keep c o h (fun q e => z ⟨q, e⟩) n⟩
theorem Kp.free {H H' : Hp} {M : List Addr} (k : Kp H H' M) {q : Addr} (h : H' q = none) (hm : q ∉ M) : H q = none := by
  cases e : H q with
  | none => rfl
  | some o =>
    obtain ⟨o', e'⟩ := k.has e hm
    rw [h] at e'
    cases e'
theorem Kp.free0 {H H' : Hp} (k : Kp H H' []) {q : Addr} (h : H' q = none) : H q = none := k.free h (by simp)
theorem Kp.wr {H : Hp} {a : Addr} {o u : HO} (h : H a = some u) (n : ∀ q, u ≠ .tbl q) : Kp H (upd H a o) [a] :=
  ⟨fun c v e _ m => by rw [upd_ne (fun q => m (by rw [q]; exact List.mem_singleton.mpr rfl))]; exact e,
   fun c ps e => ⟨ps, by rw [upd_ne (fun q => n ps (by rw [q, h] at e; exact Option.some.inj e))]; exact e, fun h => h⟩,
   fun m hm ps e => n ps (by rw [List.mem_singleton.mp hm, h] at e; exact Option.some.inj e)⟩
theorem Kp.wl {H : Hp} {a : Addr} {xs : List V} {o : HO} (h : H a = some (.lst xs)) : Kp H (upd H a o) [a] := Kp.wr h fun _ e => nomatch e
theorem Kp.wd {H : Hp} {a : Addr} {xs : List (Key × V)} {o : HO} (h : H a = some (.dK xs)) : Kp H (upd H a o) [a] := Kp.wr h fun _ e => nomatch e
theorem Kp.wi {H : Hp} {a C dx : Addr} {fs : List (Str × V)} {o : HO} (h : H a = some (.ins C dx fs)) : Kp H (upd H a o) [a] := Kp.wr h fun _ e => nomatch e
theorem Kp.new {H : Hp} {a : Addr} {o : HO} (h : H a = none) : Kp H (upd H a o) [] :=
  ⟨fun c u e _ _ => by rw [upd_ne (ne_of_none e h)]; exact e, fun c ps e => ⟨ps, by rw [upd_ne (ne_of_none e h)]; exact e, fun h => h⟩, fun _ h => nomatch h⟩
theorem Kp.tabbed {H H' : Hp} {P : Addr} (g : GxR.TabG H P) (t : GxR.Tabbed P H H') : Kp H H' [] := by
  obtain ⟨ps, e, _⟩ := g
  obtain ⟨⟨ps', e', t'⟩, k⟩ := t
  refine ⟨fun c o h n _ => ?_, fun c qs h => ?_, fun _ h => nomatch h⟩
  · rw [k c fun z => n ps (by rw [z, e] at h; exact (Option.some.inj h).symm)]
    exact h
  · by_cases z : c = P
    · rw [z]
      exact ⟨ps', e', fun _ => t'⟩
    · exact ⟨qs, by rw [k c z]; exact h, fun h => h⟩
/-- one after the other; what the second one changes is new or stands in L -/
theorem Kp.trans {H H1 H2 : Hp} {M N L : List Addr} (a : Kp H H1 M) (b : Kp H1 H2 N) (hM : ∀ x ∈ M, x ∈ L) (hN : ∀ x ∈ N, x ∈ L ∨ H x = none) (hL : ∀ m ∈ L, ∀ ps, H m ≠ some (.tbl ps)) : Kp H H2 L :=
  ⟨fun c o e t n => b.keep c o (a.keep c o e t fun q => n (hM c q)) t fun q => (hN c q).elim n fun z => (nomatch (z.symm.trans e)),
   fun c ps e => let ⟨p1, e1, t1⟩ := a.tab c ps e; let ⟨p2, e2, t2⟩ := b.tab c p1 e1; ⟨p2, e2, fun h => t2 (t1 h)⟩, hL⟩
theorem Kp.then {H H1 H2 : Hp} {M : List Addr} (a : Kp H H1 M) (b : Kp H1 H2 []) : Kp H H2 M := a.trans b (fun _ h => h) (fun _ h => nomatch h) a.kind
theorem Kp.nt {H H1 : Hp} (a : Kp H H1 []) {L : List Addr} (b : ∀ m ∈ L, ∀ ps, H1 m ≠ some (.tbl ps)) : ∀ m ∈ L, ∀ ps, H m ≠ some (.tbl ps) := fun m hm ps e =>
  let ⟨p1, e1, _⟩ := a.tab m ps e
  b m hm p1 e1
theorem Kp.pre {H H1 H2 : Hp} {M : List Addr} (a : Kp H H1 []) (b : Kp H1 H2 M) : Kp H H2 M := a.trans b (fun _ h => nomatch h) (fun _ h => .inl h) (a.nt b.kind)
theorem Kp.up {H H1 : Hp} {M L : List Addr} (a : Kp H H1 M) (h : ∀ x ∈ M, x ∈ L) (hL : ∀ m ∈ L, ∀ ps, H m ≠ some (.tbl ps)) : Kp H H1 L := ⟨fun c o e t n => a.keep c o e t fun q => n (h c q), a.tab, hL⟩
/-- what is new, and then written, is as new -/
theorem Kp.fresh {H H1 H2 : Hp} {M : List Addr} (a : Kp H H1 []) (b : Kp H1 H2 M) (hN : ∀ x ∈ M, H x = none) : Kp H H2 [] := a.trans b (fun _ h => nomatch h) (fun x h => .inr (hN x h)) fun _ h => nomatch h
/-- both write at M -/
theorem Kp.both {H H1 H2 : Hp} {M : List Addr} (a : Kp H H1 M) (b : Kp H1 H2 M) : Kp H H2 M := a.trans b (fun _ h => h) (fun _ h => .inl h) a.kind
theorem nw {G : Hp} {a x : Addr} {o : HO} (e : G x = some o) (f : G a = none) : a ≠ x := fun z => by
  rw [← z, f] at e
  cases e
theorem nm1 {a b : Addr} (h : a ≠ b) : a ∉ [b] := by simpa using h
theorem nm2 {a b c : Addr} (h : a ≠ b) (h2 : a ≠ c) : a ∉ [b, c] := by simp [h, h2]
theorem nm3 {a b c d : Addr} (h : a ≠ b) (h2 : a ≠ c) (h3 : a ≠ d) : a ∉ [b, c, d] := by simp [h, h2, h3]
/-! ### the draws, numbers -/
def DrawsAt (H : Hp) (d c : Addr) : Prop := ∃ (t l : Int) (cs : List Int), H d = some (.lst [.int t, .int l, .ref c]) ∧ H c = some (.lst (cs.map V.int)) ∧ cs ≠ [] ∧ cs.length ≤ 64 ∧ c ≠ d
theorem DrawsAt.kp {H H' : Hp} {M : List Addr} {d c : Addr} (h : DrawsAt H d c) (k : Kp H H' M) (n : d ∉ M) (n2 : c ∉ M) : DrawsAt H' d c := by
  obtain ⟨t, l, cs, a, b, e, f, g⟩ := h
  exact ⟨t, l, cs, k.lst a n, k.lst b n2, e, f, g⟩
theorem DrawsAt.kp0 {H H' : Hp} {d c : Addr} (h : DrawsAt H d c) (k : Kp H H' []) : DrawsAt H' d c := h.kp k (by simp) (by simp)
theorem DrawsAt.isL {H : Hp} {d c : Addr} (h : DrawsAt H d c) : ∃ xs, H d = some (.lst xs) := let ⟨_, _, _, a, _⟩ := h; ⟨_, a⟩
theorem DrawsAt.nc {H : Hp} {d c x : Addr} (h : DrawsAt H d c) (hx : H x = none) : x ≠ d ∧ x ≠ c := by
  obtain ⟨_, _, _, a, b, _⟩ := h
  exact ⟨nw a hx, nw b hx⟩
theorem DrawsAt.nt {H : Hp} {d c : Addr} (h : DrawsAt H d c) : ∀ m ∈ [d], ∀ ps, H m ≠ some (.tbl ps) := fun m hm ps e => by
  obtain ⟨xs, z⟩ := h.isL
  rw [List.mem_singleton.mp hm, z] at e
  cases e
/-- what is known of the text -/
structure Txt0 (mg : Str → Option Value) : Prop where
  B : Bi mg
def spOpen (K : PySem.W.Frag) : Sp := fun vs H Q _ => ∃ (a : Addr) (ns : List Int), vs = [.ref a] ∧ SqL K H a (ns.map V.int) ∧ ns.length ≤ 63 ∧ (∀ H', Kp H H' [] → SqL K H' a (ns.map V.int)) ∧
  ∀ H' d c, Kp H H' [] → H d = none → H c = none → DrawsAt H' d c → Q (.ref d) H'
def spMixed : Sp := fun vs H Q _ => ∃ a b : Int, vs = [.int a, .int b] ∧ ∀ z : Int, Q (.int z) H
def spDraw : Sp := fun vs H Q _ => ∃ (d c : Addr) (b : Int), vs = [.ref d, .int b] ∧ DrawsAt H d c ∧ 0 < b ∧ b < 1073741824 ∧ ∀ (z : Int) (H' : Hp), 0 ≤ z → z < b → Kp H H' [d] → DrawsAt H' d c → Q (.int z) H'
def inR (v : V) (l m : Int) : Bool := match v with
  | .int i => decide (l ≤ i) && decide (i ≤ m)
  | _ => false
def Numb (v : V) : Prop := (∃ i, v = .int i) ∨ (∃ b, v = .bl b) ∨ v = .non ∨ ∃ x, v = .str x
def spNum : Sp := fun vs H Q _ => ∃ (v : V) (l m : Int), vs = [v, .int l, .int m] ∧ Numb v ∧ Q (.bl (inR v l m)) H
def spInt : Sp := fun vs H Q _ => ∃ (i : Int), vs = [.int i] ∧ Q (.bl true) H
section
variable {P : Program} {w : World} {K : PySem.W.Frag} {mg : Str → Option Value} {base : Heap}
theorem sc_is_number : FnScope ["value", "least", "most"] ["value", "least", "most"] (defScope s_is_number) := ⟨rfl, rfl, rfl, by decide +kernel, rfl, by decide +kernel, by decide +kernel⟩
theorem ok_is_number {f : Addr} {fd : FuncData} (F : Fun K "is_number" "is_number" s_is_number f fd) (T : Txt0 mg) : FnOk P w K mg base CX0 1 f fd ["value", "least", "most"] spNum := by
  refine F.ok sc_is_number (fun vs H Q E h => ?_) (fun cdv A outer s H vs Q E hr h => ?_)
  · obtain ⟨v, l, m, rfl, _⟩ := h
    rfl
  obtain ⟨v, l, m, rfl, hv, k⟩ := h
  refine ⟨_, (pss_one (ps_ret (pe_and (pe_callB call_isi (by rfl) T.B.isinstance (by decide +kernel) (pa_cons (pv 0) (pa_cons (pe_bltn (v := .ty "int") (by rfl) T.B.int (by decide +kernel) rfl) pa_nil))) (pe_and (pe_not (pe_callB call_isi (by rfl) T.B.isinstance (by decide +kernel) (pa_cons (pv 0) (pa_cons (pe_bltn (v := .ty "bool") (by rfl) T.B.bool (by decide +kernel) rfl) pa_nil)))) (pe_one (pe_chain op_le op_le (pv 1) (pv 0) (pv 2))))))), ?_⟩
  rcases hv with ⟨i, rfl⟩ | ⟨b, rfl⟩ | rfl | ⟨x, rfl⟩
  · refine ⟨_, rfl, _, .ty "int", _, _, true, rfl, .ty _, .base (.int _), kit_ty (by decide +kernel), true, rfl, ?_⟩
    refine ⟨_, rfl, _, .ty "bool", _, _, false, rfl, .ty _, .base (.int _), kit_ty (by decide +kernel), false, rfl, true, rfl, ?_⟩
    refine ⟨_, rfl, _, rfl, _, _, rfl, rfl, _, rfl, ite2 (fun a => ?_) (fun a => ?_)⟩
    · refine ⟨_, rfl, _, _, rfl, rfl, ?_⟩
      have e : inR (.int i) l m = decide (i ≤ m) := by
        show (decide (l ≤ i) && decide (i ≤ m)) = _
        rw [a, Bool.true_and]
      rw [e] at k
      exact k
    · have e : inR (.int i) l m = false := by
        show (decide (l ≤ i) && decide (i ≤ m)) = _
        rw [Bool.eq_false_iff.mpr a, Bool.false_and]
      rw [e] at k
      exact k
  · refine ⟨_, rfl, _, .ty "int", _, _, true, rfl, .ty _, .base (.bl _), kit_ty (by decide +kernel), true, rfl, ?_⟩
    refine ⟨_, rfl, _, .ty "bool", _, _, true, rfl, .ty _, .base (.bl _), kit_ty (by decide +kernel), true, rfl, false, rfl, ?_⟩
    exact k
  · refine ⟨_, rfl, _, .ty "int", _, _, false, rfl, .ty _, .base .non, kit_ty (by decide +kernel), false, rfl, ?_⟩
    exact k
  · refine ⟨_, rfl, _, .ty "int", _, _, false, rfl, .ty _, .base (.str _), kit_ty (by decide +kernel), false, rfl, ?_⟩
    exact k
theorem sc__law_int : FnScope ["value"] ["value"] (defScope s__law_int) := ⟨rfl, rfl, rfl, by decide +kernel, rfl, by decide +kernel, by decide +kernel⟩
theorem ok_int {f : Addr} {fd : FuncData} (F : Fun K "_law_int" "_law_int" s__law_int f fd) (T : Txt0 mg) : FnOk P w K mg base CX0 1 f fd ["value"] spInt := by
  refine F.ok sc__law_int (fun vs H Q E h => ?_) (fun cdv A outer s H vs Q E hr h => ?_)
  · obtain ⟨v, rfl, _⟩ := h
    rfl
  obtain ⟨i, rfl, k⟩ := h
  refine ⟨_, (pss_one (ps_ret (pe_and (pe_callB call_isi (by rfl) T.B.isinstance (by decide +kernel) (pa_cons (pv 0) (pa_cons (pe_bltn (v := .ty "int") (by rfl) T.B.int (by decide +kernel) rfl) pa_nil))) (pe_one (pe_not (pe_callB call_isi (by rfl) T.B.isinstance (by decide +kernel) (pa_cons (pv 0) (pa_cons (pe_bltn (v := .ty "bool") (by rfl) T.B.bool (by decide +kernel) rfl) pa_nil)))))))), ?_⟩
  refine ⟨_, rfl, _, .ty "int", _, _, true, rfl, .ty _, .base (.int _), kit_ty (by decide +kernel), true, rfl, ?_⟩
  exact ⟨_, rfl, _, .ty "bool", _, _, false, rfl, .ty _, .base (.int _), kit_ty (by decide +kernel), false, rfl, k⟩
theorem sc__law_open : FnScope ["script", "cells", "cell"] ["script"] (defScope s__law_open) := ⟨rfl, rfl, rfl, by decide +kernel, rfl, by decide +kernel, by decide +kernel⟩
theorem cut_ints (ns : List Int) : ∃ ms : List Int, cutV (ns.map V.int) none (some 63) = ms.map V.int ∧ ms.length ≤ 63 := by
  refine ⟨ns.take (min 63 ns.length), ?_, by rw [List.length_take]; omega⟩
  unfold cutV
  rw [List.length_map, HT.sIx_none, show (some (63 : Int)) = some ((63 : Nat) : Int) from rfl, HT.sIx_nat, List.drop_zero, Nat.sub_zero, List.map_take]
theorem ok_open {f : Addr} {fd : FuncData} (F : Fun K "_law_open" "_law_open" s__law_open f fd) (T : Txt0 mg) : FnOk P w K mg base CX0 1 f fd ["script"] (spOpen K) := by
  refine F.ok sc__law_open (fun vs H Q E h => ?_) (fun cdv A outer s H vs Q E hr h => ?_)
  · obtain ⟨a, ns, rfl, _⟩ := h
    rfl
  obtain ⟨a, ns, rfl, hS, hlen, hk, k⟩ := h
  have nd := sc__law_open.nd
  refine ⟨_, (pss_cons (ps_setLc (i := 1) (own := [("cell", 2)]) (g := gName 2) (tt := tYes) rfl nd rfl rfl (sw_true rfl rfl rfl (by decide +kernel)) (pi_list (pe_slice sl_list (pv 0) po_none (po_some pe_int))) (blkOk_by (N := ["script", "cells", "cell"]) (sc := defScope s__law_open) (by decide +kernel)) (fun _ _ _ _ _ => (pg_name (i := 2) nd rfl (.inl rfl))) (fun _ _ _ _ _ => pts_nil) (fun _ _ _ _ _ => (pe_callB call_abs (by rfl) T.B.abs (by decide +kernel) (pa_cons (pe_callTy call_int1 (by rfl) T.B.int (by decide +kernel) (pa_cons (pv 2) pa_nil)) pa_nil))))
    (pss_one (ps_ret (pe_lst (pa_cons pe_int (pa_cons pe_int (pa_cons (pe_op op_cat (pv 1) (pe_lst (pa_cons pe_int pa_nil))) pa_nil))))))), ?_⟩
  obtain ⟨ms, e, lm⟩ := cut_ints ns
  refine ⟨_, rfl, _, rfl, a, _, rfl, hS, fun p hp => ?_⟩
  rw [e]
  have k1 : Kp H (upd H p (.lst (ms.map V.int))) [] := Kp.new hp
  have hp1 : upd H p (.lst (ms.map V.int)) p = some (.lst (ms.map V.int)) := upd_same
  generalize upd H p (.lst (ms.map V.int)) = H1 at k1 hp1 ⊢
  refine ⟨p, rfl, ⟨_, SqL.of hp1⟩, fun D hD => ?_⟩
  refine lc_list (K := K) (a := p) (xs := ms.map V.int) (fun i H' => Kp H1 H' [] ∧ ∃ cs : List Int, H' D = some (.lst (cs.map V.int)) ∧ cs.length = i) ⟨Kp.new hD, [], upd_same, rfl⟩ (fun i H' _ ⟨k, _⟩ => SqL.of (k.lst0 hp1)) (fun i x H' hx ⟨kp, cs, hD', hc⟩ => ?_) (fun H2 ⟨k2, cs, hD2, hc⟩ => ?_)
  · rw [List.getElem?_map] at hx
    cases hm : ms[i]? with
    | none => rw [hm] at hx; cases hx
    | some z =>
      rw [hm] at hx
      cases hx
      have hi : i < ms.length := (List.getElem?_eq_some_iff.mp hm).1
      refine ⟨rfl, _, rfl, .inl ⟨_, rfl, _, rfl, _, hD', ?_, kp.fresh (Kp.wl hD') fun x hx => by rw [List.mem_singleton.mp hx]; exact hD, cs ++ [if z < 0 then -z else z], ?_, ?_⟩⟩
      · rw [List.length_map, hc]
        exact Nat.lt_of_lt_of_le hi (Nat.le_trans lm (by decide))
      · rw [upd_same, List.map_append]
        rfl
      · rw [List.length_append, hc]
        rfl
  · rw [List.length_map] at hc
    refine ⟨_, rfl, (by show 1 ≤ sizeLine; decide), fun l hl => ?_⟩
    have k3 := k2.then (Kp.new (o := .lst [.int 0]) hl)
    have hD3 := (Kp.new (o := .lst [.int 0]) hl).lst0 hD2
    have hl3 : upd H2 l (.lst [.int 0]) l = some (.lst [.int 0]) := upd_same
    generalize upd H2 l (.lst [.int 0]) = H3 at k3 hD3 hl3 ⊢
    refine ⟨_, _, _, _, rfl, rfl, hD3, hl3, ?_, fun q hq => ?_⟩
    · rw [List.length_map, hc]
      exact Nat.le_trans (Nat.add_le_add_right lm 1) (by decide)
    have k4 := k3.then (Kp.new (o := .lst (cs.map V.int ++ [.int 0])) hq)
    have hq4 : upd H3 q (.lst (cs.map V.int ++ [.int 0])) q = some (.lst ((cs ++ [0]).map V.int)) := by
      rw [upd_same, List.map_append]
      rfl
    generalize upd H3 q (.lst (cs.map V.int ++ [.int 0])) = H4 at k4 hq4 ⊢
    refine ⟨(by show 3 ≤ sizeLine; decide), fun d hd => ?_⟩
    have k5 := k4.then (Kp.new (o := .lst [.int 0, .int 0, .ref q]) hd)
    have hqd : q ≠ d := (nw hq4 hd).symm
    refine k _ d q (k1.then k5) (k1.free0 (k4.free0 hd)) (k1.free0 (k3.free0 hq)) ⟨0, 0, cs ++ [0], upd_same, ?_, by simp, by rw [List.length_append, hc]; exact Nat.add_le_add_right lm 1, hqd⟩
    rw [upd_ne hqd]
    exact hq4
theorem sc__law_mixed : FnScope ["cell", "turn", "number"] ["cell", "turn"] (defScope s__law_mixed) := ⟨rfl, rfl, rfl, by decide +kernel, rfl, by decide +kernel, by decide +kernel⟩
theorem ok_mixed {f : Addr} {fd : FuncData} (F : Fun K "_law_mixed" "_law_mixed" s__law_mixed f fd) (T : Txt0 mg) : FnOk P w K mg base CX0 1 f fd ["cell", "turn"] spMixed := by
  refine F.ok sc__law_mixed (fun vs H Q E h => ?_) (fun cdv A outer s H vs Q E hr h => ?_)
  · obtain ⟨a, b, rfl, _⟩ := h
    rfl
  obtain ⟨a, b, rfl, k⟩ := h
  have nd := sc__law_mixed.nd
  refine ⟨_, (pss_cons (ps_set (i := 2) nd rfl (.inl rfl) (pe_op op_mod (pe_op op_add (pe_op op_add (pe_op op_mul (pe_op op_mod (pv 0) (pe_op op_sub (pe_op op_pow pe_int pe_int) pe_int)) pe_int) (pe_op op_mul (pv 1) pe_int)) pe_int) (pe_op op_pow pe_int pe_int)))
    (pss_cons (ps_set (i := 2) nd rfl (.inl rfl) (pe_op op_mod (pe_op op_mul (pe_op op_xor (pv 2) (pe_op op_shr (pv 2) pe_int)) pe_int) (pe_op op_pow pe_int pe_int)))
    (pss_one (ps_ret (pe_op op_mod (pe_op op_mul (pe_op op_xor (pv 2) (pe_op op_shr (pv 2) pe_int)) pe_int) (pe_op op_pow pe_int pe_int)))))), ?_⟩
  have h1 : (0 : Int) < 2 ^ (61 : Int).toNat := by decide
  have h2 : (0 : Int) < 2 ^ (61 : Int).toNat - 1 := by decide
  have pw : CPow 2 61 := ⟨by decide, by decide, by decide⟩
  have cm : ∀ {x y : Int}, -(2 ^ 64) < y → y < 2 ^ 64 → CMul x y := fun h1 h2 => .inr ⟨h1, h2⟩
  refine ⟨_, rfl, _, _, rfl, rfl, pw, _, _, rfl, rfl, _, _, rfl, rfl, h2, _, _, rfl, rfl, cm (by decide) (by decide), ?_⟩
  refine ⟨_, rfl, _, _, rfl, rfl, cm (by decide) (by decide), _, _, rfl, rfl, _, _, rfl, rfl, _, _, rfl, rfl, pw, _, _, rfl, rfl, h1, ?_⟩
  refine ⟨_, rfl, _, rfl, _, _, rfl, rfl, (by show (0 : Int) ≤ 29; decide), _, _, rfl, rfl, _, _, rfl, rfl, cm (by decide) (by decide), _, _, rfl, rfl, pw, _, _, rfl, rfl, h1, ?_⟩
  refine ⟨_, rfl, _, rfl, _, _, rfl, rfl, (by show (0 : Int) ≤ 31; decide), _, _, rfl, rfl, _, _, rfl, rfl, cm (by decide) (by decide), _, _, rfl, rfl, pw, ?_⟩
  exact ⟨_, _, rfl, rfl, h1, k _⟩
theorem sc__law_draw : FnScope ["draws", "size", "turn", "left", "cells", "cell"] ["draws", "size"] (defScope s__law_draw) := ⟨rfl, rfl, rfl, by decide +kernel, rfl, by decide +kernel, by decide +kernel⟩
theorem ok_draw {f f1 : Addr} {fd fd1 : FuncData} (F : Fun K "_law_draw" "_law_draw" s__law_draw f fd) (T : Txt0 mg) (G__law_mixed : FnOk P w K mg base CX0 1 f1 fd1 ["cell", "turn"] spMixed) (F__law_mixed : Fun K "_law_mixed" "_law_mixed" s__law_mixed f1 fd1) (b__law_mixed : Binds K fd1 ["cell", "turn"] []) (g__law_mixed : mg "_law_mixed" = some (.ref f1)) :
    FnOk P w K mg base CX0 2 f fd ["draws", "size"] spDraw := by
  refine F.ok sc__law_draw (fun vs H Q E h => ?_) (fun cdv A outer s H vs Q E hr1 h => ?_)
  · obtain ⟨d, c, b, rfl, _⟩ := h
    rfl
  obtain ⟨d, c, b, rfl, ⟨t, l, cs, hd, hc, ne, lc, cd⟩, b0, b1, k⟩ := h
  have nd := sc__law_draw.nd
  refine ⟨_, (pss_cons (ps_asg (pv 0) (pg_lst rfl (pgs_cons (pg_name (i := 2) nd rfl (.inl rfl)) (pgs_cons (pg_name (i := 3) nd rfl (.inl rfl)) (pgs_cons (pg_name (i := 4) nd rfl (.inl rfl)) pgs_nil)))))
    (Evl.pss_cut (ps_if (pt_cmpR op_lt (pv 3) (pv 1) (nomark _)) 
      (pss_cons (ps_set (i := 5) nd rfl (.inl rfl) (pe_ix ix_list (pv 4) (pe_op op_mod (pv 2) (pe_callB call_len_seq (by rfl) T.B.len (by decide +kernel) (pa_cons (pv 4) pa_nil))) (fun _ _ => rfl)))
      (pss_cons (ps_set (i := 3) nd rfl (.inl rfl) (pe_ifExp (PW.pt (pw_and (pt_cmpR op_lt (pv 2) (pe_callB call_len_seq (by rfl) T.B.len (by decide +kernel) (pa_cons (pv 4) pa_nil)) (nomark _)) (pw_and1 (pt_cmpR op_ge (pv 5) (pe_op op_pow pe_int pe_int) (nomark _))))) (pv 5) (pe_call G__law_mixed hr1 (by rfl) g__law_mixed F__law_mixed.kp b__law_mixed .nil pass0 (pa_cons (pv 5) (pa_cons (pv 2) pa_nil)))))
      (pss_one (ps_set (i := 2) nd rfl (.inl rfl) (pe_op op_add (pv 2) pe_int))))) pss_nil)
    (pss_cons (ps_asg (pv 2) (pg_sub (pv 0) pe_int set_list))
    (pss_cons (ps_asg (pe_op op_fdiv (pv 3) (pv 1)) (pg_sub (pv 0) pe_int set_list))
    (pss_one (ps_ret (pe_op op_mod (pv 3) (pv 1)))))))), ?_⟩
  have lpos : 0 < cs.length := by
    cases cs with
    | nil => exact absurd rfl ne
    | cons x r => exact Nat.succ_pos _
  refine ⟨_, rfl, d, _, rfl, SqL.of hd, rfl, _, _, rfl, _, _, rfl, _, _, rfl, rfl, ?_⟩
  refine ⟨fun σ' H1 => H1 = H ∧ ∃ (t2 l2 : Int) (u5 : Option V), σ' = [some (.ref d), some (.int b), some (.int t2), some (.int l2), some (.ref c), u5], ?_, ?_⟩
  · refine ⟨_, rfl, _, rfl, _, _, rfl, rfl, _, rfl, ite2 (fun _ => ?_) (fun _ => ⟨rfl, _, _, _, rfl⟩)⟩
    have z0 := Int.emod_nonneg t (b := (cs.length : Int)) (by omega)
    have z1 := Int.emod_lt_of_pos t (b := (cs.length : Int)) (by omega)
    have ex : (t % (cs.length : Int)).toNat < cs.length := by omega
    have hl : (cs.map V.int).length = cs.length := List.length_map _
    refine ⟨_, rfl, _, rfl, _, rfl, c, _, rfl, .inl (SqL.of hc), _, _, rfl, rfl, (by rw [hl]; omega), c, _, _, V.int (cs[(t % (cs.length : Int)).toNat]'ex), rfl, rfl, SqL.of hc, at_of (j := (t % (cs.length : Int)).toNat) (by rw [hl]; omega) (by rw [List.getElem?_map, List.getElem?_eq_getElem ex]; rfl), ?_⟩
    generalize cs[(t % (cs.length : Int)).toNat]'ex = ce
    refine ⟨_, rfl, _, rfl, c, _, rfl, .inl (SqL.of hc), _, _, rfl, rfl, _, rfl, ite2 (fun _ => ?_) (fun _ => ?_)⟩
    · refine ⟨_, rfl, _, _, rfl, rfl, ⟨by decide, by decide, by decide⟩, _, _, rfl, rfl, _, rfl, ite2 (fun _ => ?_) (fun _ => ?_)⟩
      · exact ⟨_, rfl, _, rfl, _, _, rfl, rfl, rfl, _, _, _, rfl⟩
      · exact ⟨_, rfl, _, rfl, _, _, rfl, fun z => ⟨_, rfl, _, _, rfl, rfl, rfl, _, _, _, rfl⟩⟩
    · exact ⟨_, rfl, _, rfl, _, _, rfl, fun z => ⟨_, rfl, _, _, rfl, rfl, rfl, _, _, _, rfl⟩⟩
  · rintro σ' H1 ⟨rfl, t2, l2, u5, rfl⟩
    refine ⟨_, rfl, _, rfl, d, _, _, 0, rfl, rfl, hd, rfl, ?_⟩
    refine ⟨_, rfl, _, rfl, _, _, rfl, rfl, ⟨b0, b1⟩, _, rfl, d, _, _, 1, rfl, rfl, upd_same, rfl, _, rfl, _, rfl, _, _, rfl, rfl, b0, ?_⟩
    rw [upd_upd]
    refine k _ _ (Int.emod_nonneg _ (by omega)) (Int.emod_lt_of_pos _ b0) (Kp.wl hd) ⟨_, _, cs, upd_same, ?_, ne, lc, cd⟩
    rw [upd_ne cd]
    exact hc
end
end K48

set_option Elab.async false
set_option maxRecDepth 100000
set_option maxHeartbeats 4000000
namespace K48
open PySem L2
/-! ### a def whose code object's table is tracked -/
structure FunC (K : PySem.W.Frag) (x qual : Str) (st : Stmt) (f : Addr) (fd : FuncData) (c : Addr) : Prop where
  ex : ∃ (oc : Value) (od : Option Addr) (kV doc pm : Value) (an : Option Addr) (ct : Value) (osl : Array (Option Value)),
    fd = PySem.W.fnOf x qual (defArgs st) (defBody st) (defScope st) .none kV doc pm an (.ref c) ct ∧ K.lookup f = some ⟨oc, od, .func fd, osl⟩ ∧ PySem.W.codeIn K (.ref c) qual = true
  kp : PySem.W.keepIn K (.ref f) = true
theorem FunC.fun {K : PySem.W.Frag} {x qual : Str} {st : Stmt} {f : Addr} {fd : FuncData} {c : Addr} (F : FunC K x qual st f fd c) : Fun K x qual st f fd := by
  obtain ⟨⟨oc, od, kV, doc, pm, an, ct, osl, e, l, h⟩, kp⟩ := F
  exact ⟨⟨oc, od, kV, doc, pm, an, .ref c, ct, osl, e, l, h⟩, kp⟩
section
variable {P : Program} {w : World} {K : PySem.W.Frag} {mg : Str → Option Value} {base : Heap}
theorem FunC.ok {x qual : Str} {st : Stmt} {f c : Addr} {fd : FuncData} {N ps : List Str} {k : Nat} {sp : Sp} (F : FunC K x qual st f fd c) (S : FnScope N ps (defScope st)) (len : ∀ vs H Q E, sp vs H Q E → vs.length = ps.length)
    (hbody : ∀ (A : Around) (outer : List Env) (s : Shared) (H : Hp) (vs : List V) (Q : VK) (E : XK), Room k (A.deeper (PyProof.Rows.envOfC qual (defScope st) s.heap.objs.size f (.ref c))) → sp vs H Q E →
      ∃ t, PSs (cxOf CX0 P w K mg base N qual (defScope st) f (.ref c) A outer s H E).nox (defBody st) t ∧ t { nx := fun _ H' => Q .non H', rt := Q } (start N vs) H) : FnOk P w K mg base CX0 (k + 1) f fd ps sp := by
  obtain ⟨oc, od, kV, doc, pm, an, ct, osl, rfl, lk, hcd⟩ := F.ex
  refine fn_of lk hcd S len fun A outer s H vs Q E hr hsp => ?_
  obtain ⟨t, h, q⟩ := hbody A outer s H vs Q E hr hsp
  exact ⟨t, h.nox, q⟩
end
/-! ### numerals -/
def neg1 (n : Str) : Bool := match n.cps.toList with
  | c :: _ => decide (V.str ⟨#[c]⟩ = V.str "-")
  | [] => false
def figs (n : Str) : Str := if neg1 n = true then cutS n (some 1) none else n
def isDig (s : Str) : Bool := s.cps.toList.all fun c => decide (c ∈ ("0123456789" : Str).cps.toList)
def figV (n : Str) : Int := if neg1 n = true then 0 - ((PySem.intText? (figs n)).getD 0) else (PySem.intText? (figs n)).getD 0
def numOf (n : Str) : Option Int :=
  if (decide (1 ≤ n.length) && decide (n.length ≤ 4)) = true then
    if figs n = "" ∨ isDig (figs n) = false then none
    else if inR (.int (figV n)) (-999) 999 = true ∧ (toString (figV n) : Str) = n then some (figV n) else none
  else none
def optV : Option Int → V
  | some i => .int i
  | none => .non
def nms : List Str := ["x", "y", "z", "7", "-2", "0", "yes", "no", "add", "sub", "mul", "min", "less", "alike", "both", "not", "neg", "pick", "plus", "1000", "?a"]
def okN (n : Str) : Bool := decide (1 ≤ n.length) && decide (n.length ≤ 600) && (!(decide (n.length ≤ 4)) || decide (figs n = "") || !(isDig (figs n)) || (PySem.intText? (figs n)).isSome)
theorem nms_ok : ∀ n ∈ nms, okN n = true := by decide +kernel
def spNumeral : Sp := fun vs H Q _ => ∃ (i : Int), vs = [.int i] ∧ Q (if inR (.int i) (-999) 999 = true then .str (toString i) else .non) H
def spNumber (Pn : Addr) : Sp := fun vs H Q _ => ∃ (n : Str), vs = [.str n] ∧ okN n = true ∧ GxR.TabG H Pn ∧ ∀ H', Kp H H' [] → Q (optV (numOf n)) H'
section
variable {P : Program} {w : World} {K : PySem.W.Frag} {mg : Str → Option Value} {base : Heap}
theorem sc_numeral_of : FnScope ["number"] ["number"] (defScope s_numeral_of) := ⟨rfl, rfl, rfl, by decide +kernel, rfl, by decide +kernel, by decide +kernel⟩
theorem ok_numeral {f f1 : Addr} {fd fd1 : FuncData} (F : Fun K "numeral_of" "numeral_of" s_numeral_of f fd) (T : Txt0 mg) (G_is_number : FnOk P w K mg base CX0 1 f1 fd1 ["value", "least", "most"] spNum) (F_is_number : Fun K "is_number" "is_number" s_is_number f1 fd1) (b_is_number : Binds K fd1 ["value", "least", "most"] []) (g_is_number : mg "is_number" = some (.ref f1)) :
    FnOk P w K mg base CX0 2 f fd ["number"] spNumeral := by
  refine F.ok sc_numeral_of (fun vs H Q E h => ?_) (fun cdv A outer s H vs Q E hr1 h => ?_)
  · obtain ⟨i, rfl, _⟩ := h
    rfl
  obtain ⟨i, rfl, k⟩ := h
  refine ⟨_, (pss_cons (ps_if (pt_not (pt_val (pe_call G_is_number hr1 (by rfl) g_is_number F_is_number.kp b_is_number .nil pass0 (pa_cons (pv 0) (pa_cons (pe_un un_neg (pe_gint (by rfl) T.B.g_MOST_NUMERAL)) (pa_cons (pe_gint (by rfl) T.B.g_MOST_NUMERAL) pa_nil)))))) 
      (pss_one (ps_ret pe_non)) pss_nil)
    (pss_one (ps_ret (pe_callTy call_str_int (by rfl) T.B.str (by decide +kernel) (pa_cons (pv 0) pa_nil))))), ?_⟩
  refine ⟨_, rfl, _, rfl, .int i, -999, 999, rfl, .inl ⟨i, rfl⟩, ?_⟩
  cases hb : inR (.int i) (-999) 999 with
  | false =>
    rw [hb] at k
    exact ⟨_, rfl, k⟩
  | true =>
    rw [hb] at k
    have hb : (decide (-999 ≤ i) && decide (i ≤ 999)) = true := hb
    rw [Bool.and_eq_true, decide_eq_true_eq, decide_eq_true_eq] at hb
    refine ⟨_, rfl, _, rfl, _, rfl, ?_, k⟩
    exact Nat.lt_of_le_of_lt (Nat.log2_le_self _) (by omega)
theorem sc_number_of : FnScope ["name", "figures", "number", "sign"] ["name"] (defScope s_number_of) := ⟨rfl, rfl, rfl, by decide +kernel, rfl, by decide +kernel, by decide +kernel⟩
theorem ok_number {f c Pn f1 : Addr} {fd fd1 : FuncData} (F : FunC K "number_of" "number_of" s_number_of f fd c) (tb_number_of : GxR.TabB base mg c Pn) (T : Txt0 mg) (G_numeral_of : FnOk P w K mg base CX0 2 f1 fd1 ["number"] spNumeral) (F_numeral_of : Fun K "numeral_of" "numeral_of" s_numeral_of f1 fd1) (b_numeral_of : Binds K fd1 ["number"] []) (g_numeral_of : mg "numeral_of" = some (.ref f1)) :
    FnOk P w K mg base CX0 3 f fd ["name"] (spNumber Pn) := by
  refine F.ok sc_number_of (fun vs H Q E h => ?_) (fun A outer s H vs Q E hr2 h => ?_)
  · obtain ⟨i, rfl, _⟩ := h
    rfl
  obtain ⟨n, rfl, ok, hT, k⟩ := h
  have nd := sc_number_of.nd
  have hr1 := hr2
  refine ⟨_, (pss_cons (ps_if (PW.pt (pw_or (pt_not (pt_val (pe_callB call_isi (by rfl) T.B.isinstance (by decide +kernel) (pa_cons (pv 0) (pa_cons (pe_bltn (v := .ty "str") (by rfl) T.B.str (by decide +kernel) rfl) pa_nil))))) (pw_or1 (pt_not (pt_chain op_le op_le pe_int (pe_callB call_len_str (by rfl) T.B.len (by decide +kernel) (pa_cons (pv 0) pa_nil)) (pe_callB call_len_str (by rfl) T.B.len (by decide +kernel) (pa_cons (pe_callTy call_str_int (by rfl) T.B.str (by decide +kernel) (pa_cons (pe_un un_neg (pe_gint (by rfl) T.B.g_MOST_NUMERAL)) pa_nil)) pa_nil))))))) 
      (pss_one (ps_ret pe_non)) pss_nil)
    (Evl.pss_cut (ps_set (i := 1) nd rfl (.inl rfl) (pe_ifExp (pt_cmpR op_eq (pe_ix ix_str (pv 0) pe_int (fun _ _ => rfl)) pe_str (nomark _)) (pe_slice sl_str (pv 0) (po_some pe_int) po_none) (pv 0)))
    (Evl.pss_cut (ps_if (PW.pt (pw_or (pt_cmpR op_eq (pv 1) pe_str (nomark _)) (pw_or1 (pt_not (pt_val (GG.pe_allG (own := [("sign", 3)]) (g := gName 3) (tt := tYes) rfl nd hr1 (by rfl) T.B.all (by rfl) tb_number_of rfl (blkOk_by (N := ["name", "figures", "number", "sign"]) (sc := defScope s_number_of) (by decide +kernel)) (by decide +kernel) rfl rfl (pi_str (pv 1)) (fun _ _ _ _ _ _ _ => (pg_name (i := 3) nd rfl (.inl rfl))) (fun _ _ _ _ _ _ _ => pts_nil) (fun _ _ _ _ _ _ _ => (pe_cmpR op_in_sign (pv 3) (pe_gstr (by rfl) T.B.g_FIGURES) rfl)) (by intro _; rfl))))))) 
      (pss_one (ps_ret pe_non)) pss_nil)
    (Evl.pss_cut (ps_set (i := 2) nd rfl (.inl rfl) (pe_ifExp (pt_cmpR op_ne (pe_ix ix_str (pv 0) pe_int (fun _ _ => rfl)) pe_str (nomark _)) (pe_callTy call_int_str (by rfl) T.B.int (by decide +kernel) (pa_cons (pv 1) pa_nil)) (pe_op op_sub pe_int (pe_callTy call_int_str (by rfl) T.B.int (by decide +kernel) (pa_cons (pv 1) pa_nil)))))
    (pss_one (ps_ret (pe_ifExp (pt_cmpR op_eq (pe_call G_numeral_of hr2 (by rfl) g_numeral_of F_numeral_of.kp b_numeral_of .nil pass0 (pa_cons (pv 2) pa_nil)) (pv 0) (nomark _)) (pv 2) pe_non))))))), ?_⟩
  have ok : (decide (1 ≤ n.length) && decide (n.length ≤ 600) && (!(decide (n.length ≤ 4)) || decide (figs n = "") || !(isDig (figs n)) || (PySem.intText? (figs n)).isSome)) = true := ok
  rw [Bool.and_eq_true, Bool.and_eq_true, decide_eq_true_eq, decide_eq_true_eq] at ok
  obtain ⟨⟨n1, n2⟩, ok⟩ := ok
  refine ⟨_, rfl, _, .ty "str", _, _, true, rfl, .ty _, .base (.str _), kit_ty (by decide +kernel), true, rfl, ?_⟩
  have e1 : decide ((1 : Int) ≤ (n.length : Int)) = true := decide_eq_true (by omega)
  have e4 : ((Str.ofString (toString (-999 : Int))).length : Int) = 4 := by decide +kernel
  refine iteF ⟨_, rfl, n, rfl, Nat.le_trans n2 (by decide), _, _, rfl, rfl, _, rfl, ?_⟩
  rw [e1]
  refine iteT ⟨_, rfl, _, rfl, (by show (-999 : Int).natAbs.log2 < 1920; decide), _, rfl, (by decide +kernel), _, _, rfl, rfl, _, rfl, ?_⟩
  rw [e4]
  have h1 : decide (1 ≤ n.length) = true := decide_eq_true n1
  by_cases h4 : n.length ≤ 4
  · rw [decide_eq_true (show (n.length : Int) ≤ 4 by omega)]
    obtain ⟨c0, r, hcr⟩ : ∃ c r, n.cps.toList = c :: r := by
      cases e : n.cps.toList with
      | nil =>
        have : n.cps.toList.length = 0 := by rw [e]; rfl
        have : n.length = 0 := this
        omega
      | cons c r => exact ⟨c, r, rfl⟩
    have at0 : atI n.cps.toList (0 : Int) = some c0 := by
      rw [hcr]
      exact atI_nat (j := 0) rfl
    have en : neg1 n = decide (V.str ⟨#[c0]⟩ = V.str "-") := by
      unfold neg1
      rw [hcr]
    have fl : (figs n).length ≤ 600 := by
      unfold figs
      split
      · refine Nat.le_trans ?_ n2
        show ((n.cps.toList.drop _).take _).toArray.size ≤ _
        rw [List.size_toArray, List.length_take, List.length_drop]
        exact Nat.le_trans (Nat.min_le_right _ _) (Nat.sub_le _ _)
      · exact n2
    refine iteF ⟨fun σ' H1 => H1 = H ∧ σ' = [some (.str n), some (.str (figs n)), none, none], ?_, ?_⟩
    · refine ⟨_, rfl, n, _, c0, rfl, rfl, Nat.le_trans n2 (by decide), at0, rfl, _, rfl, ?_⟩
      cases hb : decide (V.str ⟨#[c0]⟩ = V.str "-") with
      | true =>
        refine ite2 (fun _ => ?_) (fun z => absurd rfl z)
        rw [hb] at en
        refine ⟨_, rfl, _, rfl, n, rfl, Nat.le_trans n2 (by decide), rfl, ?_⟩
        unfold figs
        rw [if_pos en]
        rfl
      | false =>
        refine ite2 (fun z => absurd z (by decide)) (fun _ => ?_)
        rw [hb] at en
        refine ⟨_, rfl, rfl, ?_⟩
        unfold figs
        rw [en, if_neg (by decide)]
        rfl
    rintro σ' H1 ⟨rfl, rfl⟩
    -- the figures
    refine ⟨fun σ' H2 => Kp H1 H2 [] ∧ σ' = [some (.str n), some (.str (figs n)), none, none] ∧ ¬ (figs n = "" ∨ isDig (figs n) = false), ?_, ?_⟩
    · have none_of : (figs n = "" ∨ isDig (figs n) = false) → numOf n = none := fun z => by
        unfold numOf
        rw [h1, decide_eq_true h4, if_pos (by decide), if_pos z]
      refine ⟨_, rfl, rfl, _, rfl, ?_⟩
      by_cases e0 : figs n = ""
      · rw [decide_eq_true (show V.str (figs n) = V.str "" by rw [e0])]
        have := none_of (.inl e0)
        rw [this] at k
        exact iteT (k _ (Kp.refl _))
      · rw [decide_eq_false (show ¬ V.str (figs n) = V.str "" from fun z => e0 (V.str.inj z))]
        refine iteF ⟨_, rfl, _, rfl, hT, fun H2 tb => ?_⟩
        have k2 : Kp H1 H2 [] := Kp.tabbed hT tb
        refine GG.gt_str (fun i H' => H' = H2 ∧ ∀ j c, j < i → (figs n).cps[j]? = some c → c ∈ ("0123456789" : Str).cps.toList) ⟨rfl, fun _ _ h => absurd h (Nat.not_lt_zero _)⟩ (fun i c0 H' hc ⟨e, all⟩ => ?_) (fun H' ⟨e, all⟩ => ?_)
        · subst e
          refine ⟨rfl, _, rfl, c0, _, rfl, rfl, ?_⟩
          by_cases hm : c0 ∈ ("0123456789" : Str).cps.toList
          · rw [decide_eq_true hm]
            refine .inl ⟨rfl, rfl, fun j c1 hj e1 => ?_⟩
            by_cases ej : j = i
            · rw [ej, hc] at e1
              cases e1
              exact hm
            · exact all j c1 (by omega) e1
          · rw [decide_eq_false hm]
            refine .inr ⟨rfl, false, rfl, ?_⟩
            have hf : isDig (figs n) = false := by
              unfold isDig
              rw [List.all_eq_false]
              refine ⟨c0, ?_, by rw [decide_eq_false hm]; decide⟩
              rw [← Array.getElem?_toList] at hc
              exact List.mem_of_getElem? hc
            rw [none_of (.inr hf)] at k
            exact iteT (k _ k2)
        · subst e
          refine ⟨true, rfl, iteF ⟨k2, rfl, fun z => z.elim e0 fun z => ?_⟩⟩
          unfold isDig at z
          rw [List.all_eq_false] at z
          obtain ⟨c1, hm, hn⟩ := z
          obtain ⟨j, hj, e1⟩ := List.mem_iff_getElem.mp hm
          refine hn (decide_eq_true (all j c1 ?_ ?_))
          · simpa using hj
          · rw [← Array.getElem?_toList, List.getElem?_eq_getElem hj, e1]
    rintro σ' H2 ⟨k2, rfl, good⟩
    -- the number
    have hv : (PySem.intText? (figs n)).isSome = true := by
      rw [decide_eq_true h4] at ok
      rw [decide_eq_false (fun z => good (.inl z))] at ok
      cases hd : isDig (figs n) with
      | false => exact absurd (.inr hd) good
      | true =>
        rw [hd] at ok
        simpa using ok
    obtain ⟨v, hv⟩ := Option.isSome_iff_exists.mp hv
    refine ⟨fun σ' H3 => H3 = H2 ∧ σ' = [some (.str n), some (.str (figs n)), some (.int (figV n)), none], ?_, ?_⟩
    · refine ⟨_, rfl, n, _, c0, rfl, rfl, Nat.le_trans n2 (by decide), at0, rfl, _, rfl, ?_⟩
      cases hb : decide (V.str ⟨#[c0]⟩ = V.str "-") with
      | true =>
        rw [hb] at en
        refine iteF ⟨_, rfl, _, v, rfl, hv, Nat.le_trans fl (by decide), _, _, rfl, rfl, rfl, ?_⟩
        unfold figV
        rw [if_pos en, hv]
        rfl
      | false =>
        rw [hb] at en
        refine iteT ⟨_, rfl, _, v, rfl, hv, Nat.le_trans fl (by decide), rfl, ?_⟩
        unfold figV
        rw [en, if_neg (by decide), hv]
        rfl
    rintro σ' H3 ⟨rfl, rfl⟩
    have e : numOf n = if inR (.int (figV n)) (-999) 999 = true ∧ (toString (figV n) : Str) = n then some (figV n) else none := by
      show (if (decide (1 ≤ n.length) && decide (n.length ≤ 4)) = true then _ else _) = _
      rw [h1, decide_eq_true h4, if_pos (by decide), if_neg good]
    have k := k _ k2
    rw [e] at k
    refine ⟨_, rfl, _, rfl, ?_⟩
    cases hb : inR (.int (figV n)) (-999) 999 with
    | false =>
      rw [hb, if_neg (fun z => nomatch z.1)] at k
      exact ⟨_, rfl, rfl, false, rfl, iteF k⟩
    | true =>
      rw [hb] at k
      by_cases hn : (toString (figV n) : Str) = n
      · rw [if_pos ⟨rfl, hn⟩] at k
        refine ⟨_, rfl, rfl, true, ?_, iteT ⟨_, rfl, k⟩⟩
        show V.bl (decide (V.str _ = V.str n)) = _
        rw [decide_eq_true (by rw [hn])]
      · rw [if_neg (fun z => hn z.2)] at k
        refine ⟨_, rfl, rfl, false, ?_, iteF k⟩
        show V.bl (decide (V.str _ = V.str n)) = _
        rw [decide_eq_false (fun z => hn (V.str.inj z))]
  · rw [decide_eq_false (show ¬ (n.length : Int) ≤ 4 by omega)]
    have e : numOf n = none := by
      unfold numOf
      rw [h1, decide_eq_false h4, if_neg (by decide)]
    rw [e] at k
    exact iteT (k H (Kp.refl H))
end
/-! ### the operations -/
abbrev Op := Str × List Str × Str
def std : List Op := [("add", ["num", "num"], "num"), ("alike", ["num", "num"], "truth"), ("any", ["truth", "truth"], "truth"), ("both", ["truth", "truth"], "truth"), ("less", ["num", "num"], "truth"), ("max", ["num", "num"], "num"), ("min", ["num", "num"], "num"),
  ("mul", ["num", "num"], "num"), ("neg", ["num"], "num"), ("no", [], "truth"), ("not", ["truth"], "truth"), ("pick", ["truth", "num", "num"], "num"), ("sub", ["num", "num"], "num"), ("x", [], "num"), ("y", [], "num"), ("yes", [], "truth"), ("z", [], "num")]
def kindOf (n : Str) : Option (List Str × Str) := if (numOf n).isSome = true then some ([], "num") else (std.find? fun r => decide (r.1 = n)).map (·.2)
def TupK (K : PySem.W.Frag) (H : Hp) (q : Addr) (xs : List V) : Prop := (∀ G, SqT K G q xs) ∨ H q = some (.tup xs)
theorem TupK.sq {K : PySem.W.Frag} {H : Hp} {q : Addr} {xs : List V} (h : TupK K H q xs) : SqT K H q xs := h.elim (fun z => z H) SqT.of
theorem TupK.kp {K : PySem.W.Frag} {H H' : Hp} {M : List Addr} {q : Addr} {xs : List V} (h : TupK K H q xs) (k : Kp H H' M) (n : ∀ m ∈ M, ∀ ys, H m ≠ some (.tup ys)) : TupK K H' q xs := h.elim .inl fun z => .inr (k.tup z fun m => n _ m _ z)
theorem TupK.kp0 {K : PySem.W.Frag} {H H' : Hp} {q : Addr} {xs : List V} (h : TupK K H q xs) (k : Kp H H' []) : TupK K H' q xs := h.kp k fun _ h => nomatch h
structure Std (K : PySem.W.Frag) (mg : Str → Option Value) (S : Addr) : Prop where
  g : mg "STANDARD" = some (.ref S)
  t : ∃ os : List Addr, (∀ H, SqT K H S (os.map V.ref)) ∧ Paired (fun o (r : Op) => ∃ q, (∀ H, SqT K H o [.str r.1, .ref q, .str r.2.2]) ∧ ∀ H, SqT K H q (r.2.1.map V.str)) os std
def KindAt (K : PySem.W.Frag) (H : Hp) (v : V) (r : List Str × Str) : Prop := ∃ p q, v = .ref p ∧ H p = some (.tup [.ref q, .str r.2]) ∧ TupK K H q (r.1.map V.str)
def spKind (K : PySem.W.Frag) (Pn S : Addr) : Sp := fun vs H Q _ => ∃ (n : Str), vs = [.ref S, .str n] ∧ okN n = true ∧ GxR.TabG H Pn ∧ (kindOf n = none → ∀ H', Kp H H' [] → Q .non H') ∧ ∀ r v H', kindOf n = some r → Kp H H' [] → KindAt K H' v r → Q v H'
section
variable {P : Program} {w : World} {K : PySem.W.Frag} {mg : Str → Option Value} {base : Heap}
theorem sc_kind_of : FnScope ["signature", "name", "operation", "ins", "out"] ["signature", "name"] (defScope s_kind_of) := ⟨rfl, rfl, rfl, by decide +kernel, rfl, by decide +kernel, by decide +kernel⟩
theorem Paired.get {α β : Type} {R : α → β → Prop} : ∀ {xs : List α} {ys : List β}, Paired R xs ys → ∀ (i : Nat) (x : α), xs[i]? = some x → ∃ y, ys[i]? = some y ∧ R x y
  | _, _, .nil, i, x, h => by simp at h
  | _, _, .cons a b, 0, x, h => by
    cases h
    exact ⟨_, rfl, a⟩
  | _, _, .cons a b, i + 1, x, h => Paired.get b i x h
theorem Paired.len {α β : Type} {R : α → β → Prop} : ∀ {xs : List α} {ys : List β}, Paired R xs ys → xs.length = ys.length
  | _, _, .nil => rfl
  | _, _, .cons a b => congrArg Nat.succ (Paired.len b)
theorem find_at {α : Type} {p : α → Bool} : ∀ {l : List α} {i : Nat} {x : α}, l[i]? = some x → p x = true → (∀ j y, j < i → l[j]? = some y → p y = false) → l.find? p = some x
  | a :: l, 0, x, h, hp, _ => by
    cases h
    rw [List.find?_cons, hp]
  | a :: l, i + 1, x, h, hp, hn => by
    have := hn 0 a (Nat.succ_pos _) rfl
    rw [List.find?_cons, this]
    exact find_at (i := i) h hp fun j y hj e => hn (j + 1) y (Nat.succ_lt_succ hj) e
theorem ok_kind {f c Pn S f1 : Addr} {fd fd1 : FuncData} (F : Fun K "kind_of" "kind_of" s_kind_of f fd) (T : Txt0 mg) (TS : Std K mg S) (G_number_of : FnOk P w K mg base CX0 3 f1 fd1 ["name"] (spNumber Pn)) (F_number_of : Fun K "number_of" "number_of" s_number_of f1 fd1) (b_number_of : Binds K fd1 ["name"] []) (g_number_of : mg "number_of" = some (.ref f1)) :
    FnOk P w K mg base CX0 4 f fd ["signature", "name"] (spKind K Pn S) := by
  refine F.ok sc_kind_of (fun vs H Q E h => ?_) (fun cdv A outer s H vs Q E hr1 h => ?_)
  · obtain ⟨i, rfl, _⟩ := h
    rfl
  obtain ⟨n, rfl, ok, hT, kn, ks⟩ := h
  have nd := sc_kind_of.nd
  refine ⟨_, (pss_cons (ps_if (pt_cmpR op_notN (pe_call G_number_of hr1 (by rfl) g_number_of F_number_of.kp b_number_of .nil pass0 (pa_cons (pv 1) pa_nil)) pe_non (nomark _)) 
      (pss_one (ps_ret (pe_tup (pa_cons (pe_tup pa_nil) (pa_cons (pe_gstr (by rfl) T.B.g_NUMBERS) pa_nil))))) pss_nil)
    (pss_cons (ps_for PassesOwn.never rfl (pi_tup (pv 0)) (pg_tup rfl (pgs_cons (pg_name (i := 2) nd rfl (.inl rfl)) (pgs_cons (pg_name (i := 3) nd rfl (.inl rfl)) (pgs_cons (pg_name (i := 4) nd rfl (.inl rfl)) pgs_nil)))) 
      (pss_one (ps_if (pt_cmpR op_eq (pv 2) (pv 1) (nomark _)) 
        (pss_one (ps_ret (pe_tup (pa_cons (pv 3) (pa_cons (pv 4) pa_nil))))) pss_nil)))
    (pss_one (ps_ret pe_non)))), ?_⟩
  refine ⟨_, rfl, n, rfl, ok, hT, fun H1 k1 => ⟨rfl, _, rfl, ?_⟩⟩
  cases hn : numOf n with
  | some i =>
    have e : kindOf n = some (([], "num") : List Str × Str) := by
      unfold kindOf
      rw [hn]
      rfl
    refine iteT ⟨Nat.zero_le _, fun q hq => ?_⟩
    have k2 := k1.then (Kp.new (o := .tup []) hq)
    have hq2 : upd H1 q (.tup []) q = some (.tup []) := upd_same
    generalize upd H1 q (.tup []) = H2 at k2 hq2 ⊢
    refine ⟨(by show 2 ≤ sizeLine; decide), fun p hp => ?_⟩
    have k3 := Kp.new (o := .tup [.ref q, .str "num"]) hp
    exact ks _ _ _ e (k2.then k3) ⟨p, q, rfl, upd_same, .inr (k3.tup0 hq2)⟩
  | none =>
    obtain ⟨os, hS, hP⟩ := TS.t
    have ek : kindOf n = (std.find? fun r => decide (r.1 = n)).map (·.2) := by
      unfold kindOf
      rw [hn, if_neg (by decide)]
    refine iteF ⟨_, rfl, S, rfl, ⟨_, hS _⟩, for_tup (K := K) (a := S) (xs := os.map V.ref) (fun i σ H' => H' = H1 ∧ (∃ u2 u3 u4, σ = [some (.ref S), some (.str n), u2, u3, u4]) ∧ ∀ j y, j < i → std[j]? = some y → decide (y.1 = n) = false) ⟨rfl, ⟨_, _, _, rfl⟩, fun _ _ h => absurd h (Nat.not_lt_zero _)⟩ (fun i σ H' _ _ => hS _) ?_ ?_⟩
    · rintro i x σ H' hx ⟨rfl, ⟨u2, u3, u4, rfl⟩, all⟩
      rw [List.getElem?_map] at hx
      cases ho : os[i]? with
      | none => rw [ho] at hx; cases hx
      | some o =>
        rw [ho] at hx
        cases hx
        obtain ⟨r, hr, q, h1, h2⟩ := Paired.get hP i o ho
        refine ⟨o, _, rfl, h1 _, rfl, _, _, rfl, _, _, rfl, _, _, rfl, rfl, _, rfl, _, rfl, rfl, _, rfl, ?_⟩
        by_cases en : r.1 = n
        · rw [decide_eq_true (show V.str r.1 = V.str n by rw [en])]
          refine iteT ⟨_, rfl, _, rfl, (by show 2 ≤ sizeLine; decide), fun p hp => ?_⟩
          have k3 := Kp.new (o := .tup [.ref q, .str r.2.2]) hp
          refine ks r.2 _ _ ?_ (k1.then k3) ⟨p, q, rfl, upd_same, .inl h2⟩
          rw [ek, find_at hr (decide_eq_true en) all]
          rfl
        · rw [decide_eq_false (fun z => en (V.str.inj z))]
          refine iteF ⟨rfl, ⟨_, _, _, rfl⟩, fun j y hj e => ?_⟩
          by_cases ej : j = i
          · rw [ej, hr] at e
            cases e
            exact decide_eq_false en
          · exact all j y (by omega) e
    · rintro σ H' ⟨rfl, ⟨u2, u3, u4, rfl⟩, all⟩
      refine kn ?_ _ k1
      rw [ek, List.find?_eq_none.mpr]
      · rfl
      · intro y hy
        obtain ⟨j, hj, e⟩ := List.mem_iff_getElem.mp hy
        rw [all j y (by rw [List.length_map, Paired.len hP]; exact hj) (by rw [List.getElem?_eq_getElem hj, e])]
        decide
end
end K48

set_option Elab.async false
set_option maxRecDepth 100000
set_option maxHeartbeats 4000000
namespace K48
open PySem L2
/-! ### worlds -/
def WorldV (H : Hp) (v : V) (b : Bool) : Prop :=
  (v = .non ∧ b = false) ∨ (∃ a xs, v = .ref a ∧ H a = some (.lst xs) ∧ b = false) ∨
    ∃ a xs, v = .ref a ∧ H a = some (.tup xs) ∧ (∀ x ∈ xs, Numb x) ∧ b = (decide (xs.length = 3) && xs.all fun x => inR x (-1000000) 1000000)
def spWorld (Pw : Addr) : Sp := fun vs H Q _ => ∃ (v : V) (b : Bool), vs = [v] ∧ WorldV H v b ∧ GxR.TabG H Pw ∧ ∀ H', Kp H H' [] → Q (.bl b) H'
def ins3 : List V := [.str "x", .str "y", .str "z"]
structure Inp (K : PySem.W.Frag) (mg : Str → Option Value) (SI : Addr) : Prop where
  g : mg "INPUTS" = some (.ref SI)
  t : ∀ H, SqT K H SI ins3
  l : ∃ o, K.lookup SI = some o ∧ o.cls = .type "tuple" ∧ o.dict = none
/-- what an operation makes of values -/
inductive Ar : Str → List V → V → Prop
  | add (a b : Int) (h : IntMulOk a b) : Ar "add" [.int a, .int b] (.int (a + b))
  | sub (a b : Int) (h : IntMulOk a b) : Ar "sub" [.int a, .int b] (.int (a - b))
  | mul (a b : Int) (h : IntMulOk a b) : Ar "mul" [.int a, .int b] (.int (a * b))
  | min (a b : Int) : Ar "min" [.int a, .int b] (.int (if b < a then b else a))
  | less (a b : Int) : Ar "less" [.int a, .int b] (.bl (decide (a < b)))
  | alike (a b : Int) : Ar "alike" [.int a, .int b] (.bl (decide (a = b)))
  | both (a b : Bool) : Ar "both" [.bl a, .bl b] (.bl (a && b))
  | neg (a : Int) : Ar "neg" [.int a] (.int (-a))
  | not (a : Bool) : Ar "not" [.bl a] (.bl (!a))
  | pick (a : Bool) (b c : Int) : Ar "pick" [.bl a, .int b, .int c] (.int (if a = true then b else c))
  | yes : Ar "yes" [] (.bl true)
  | no : Ar "no" [] (.bl false)
def spWorked : Sp := fun vs H Q _ => ∃ (n : Str) (l : Addr) (xs : List V) (r : V), vs = [.str n, .ref l] ∧ H l = some (.lst xs) ∧ Ar n xs r ∧ ∀ H', Kp H H' [] → Q r H'
/-- what a name makes in a world -/
inductive Mkr (ws : List V) : Str → List V → V → Prop
  | x (v : V) (h : ws[0]? = some v) : Mkr ws "x" [] v
  | y (v : V) (h : ws[1]? = some v) : Mkr ws "y" [] v
  | z (v : V) (h : ws[2]? = some v) : Mkr ws "z" [] v
  | n7 : Mkr ws "7" [] (.int 7)
  | n2 : Mkr ws "-2" [] (.int (-2))
  | n0 : Mkr ws "0" [] (.int 0)
  | ar (n : Str) (xs : List V) (r : V) (h : Ar n xs r) : Mkr ws n xs r
theorem Ar.facts {n : Str} {xs : List V} {r : V} (h : Ar n xs r) : okN n = true ∧ numOf n = none ∧ inV (.str n) ins3 = false := by
  cases h <;> exact ⟨by decide +kernel, by decide +kernel, by decide +kernel⟩
def spMade (Pn : Addr) : Sp := fun vs H Q _ => ∃ (n : Str) (l wt : Addr) (xs ws : List V) (r : V), vs = [.str n, .ref l, .ref wt] ∧ H l = some (.lst xs) ∧ H wt = some (.tup ws) ∧ Mkr ws n xs r ∧ GxR.TabG H Pn ∧ ∀ H', Kp H H' [] → Q r H'
def spWork : Sp := fun vs H Q _ => ∃ (n : Str) (l wt : Addr) (xs ws : List V) (r : V), vs = [.str n, .ref l, .ref wt] ∧ H l = some (.lst xs) ∧ H wt = some (.tup ws) ∧ Mkr ws n xs r ∧ ∀ H', Kp H H' [] → Q r H'
theorem nb_of {ys : List V} {y : V} {j : Nat} (h : ((List.range j).all fun m => !(eqV (ys.getD m .non) y)) = true) : ∀ (m : Nat) (z' : V), m < j → ys[m]? = some z' → eqV z' y = false := fun m z' hm e => by
  have := List.all_eq_true.mp h m (List.mem_range.mpr hm)
  rw [List.getD_eq_getElem?_getD, e] at this
  simpa using this
theorem nn_of {ys : List Str} {y : Str} {j : Nat} (h : ((List.range j).all fun m => !(decide (ys[m]? = some y))) = true) : ∀ (m : Nat), m < j → ys[m]? ≠ some y := fun m hm e => by
  have := List.all_eq_true.mp h m (List.mem_range.mpr hm)
  rw [decide_eq_true e] at this
  cases this
theorem min_two {a b m : Int} (h1 : m ∈ [a, b]) (h2 : ∀ y, y ∈ [a, b] → m ≤ y) : m = (if b < a then b else a) := by
  have ha := h2 a (by simp)
  have hb := h2 b (by simp)
  simp only [List.mem_cons, List.not_mem_nil, or_false] at h1
  split <;> omega
theorem dec_ints {a b : Int} : decide (V.int a = V.int b) = decide (a = b) := by
  by_cases h : a = b
  · rw [decide_eq_true h, decide_eq_true (by rw [h])]
  · rw [decide_eq_false h, decide_eq_false fun z => h (V.int.inj z)]
section
variable {P : Program} {w : World} {K : PySem.W.Frag} {mg : Str → Option Value} {base : Heap}
theorem sc_is_world : FnScope ["value", "one"] ["value"] (defScope s_is_world) := ⟨rfl, rfl, rfl, by decide +kernel, rfl, by decide +kernel, by decide +kernel⟩
theorem ok_world {f c Pw SI f1 : Addr} {fd fd1 : FuncData} (F : FunC K "is_world" "is_world" s_is_world f fd c) (tb_is_world : GxR.TabB base mg c Pw) (T : Txt0 mg) (TI : Inp K mg SI) (G_is_number : FnOk P w K mg base CX0 1 f1 fd1 ["value", "least", "most"] spNum) (F_is_number : Fun K "is_number" "is_number" s_is_number f1 fd1) (b_is_number : Binds K fd1 ["value", "least", "most"] []) (g_is_number : mg "is_number" = some (.ref f1)) :
    FnOk P w K mg base CX0 3 f fd ["value"] (spWorld Pw) := by
  refine F.ok sc_is_world (fun vs H Q E h => ?_) (fun A outer s H vs Q E hr2 h => ?_)
  · obtain ⟨v, b, rfl, _⟩ := h
    rfl
  obtain ⟨v, b, rfl, hw, hT, k⟩ := h
  have nd := sc_is_world.nd
  have hr1 := hr2
  have g_INPUTS := TI.g
  refine ⟨_, (pss_cons (ps_if (PW.pt (pw_or (pt_not (pt_val (pe_callB call_isi (by rfl) T.B.isinstance (by decide +kernel) (pa_cons (pv 0) (pa_cons (pe_bltn (v := .ty "tuple") (by rfl) T.B.tuple (by decide +kernel) rfl) pa_nil))))) (pw_or1 (pt_cmpR op_ne (pe_callB call_len_seq (by rfl) T.B.len (by decide +kernel) (pa_cons (pv 0) pa_nil)) (pe_callB call_len_seq (by rfl) T.B.len (by decide +kernel) (pa_cons (pe_gref (by rfl) g_INPUTS) pa_nil)) (nomark _))))) 
      (pss_one (ps_ret pe_bl)) pss_nil)
    (pss_one (ps_ret (GG.pe_allG (own := [("one", 1)]) (g := gName 1) (tt := tYes) rfl nd hr1 (by rfl) T.B.all (by rfl) tb_is_world rfl (blkOk_by (N := ["value", "one"]) (sc := defScope s_is_world) (by decide +kernel)) (by decide +kernel) rfl rfl (pi_tup (pv 0)) (fun _ _ _ _ _ _ _ => (pg_name (i := 1) nd rfl (.inl rfl))) (fun _ _ _ _ _ _ _ => pts_nil) (fun _ _ _ _ _ _ _ => (pe_call G_is_number (GG.room_gA hr2 _) (by rfl) g_is_number F_is_number.kp b_is_number .nil pass0 (pa_cons (pv 1) (pa_cons (pe_un un_neg (pe_gint (by rfl) T.B.g_MOST_INPUT)) (pa_cons (pe_gint (by rfl) T.B.g_MOST_INPUT) pa_nil))))) (by intro _; rfl))))), ?_⟩
  rcases hw with ⟨rfl, rfl⟩ | ⟨a, xs, rfl, ha, rfl⟩ | ⟨a, xs, rfl, ha, hn, hb⟩
  · exact ⟨_, rfl, _, .ty "tuple", _, _, false, rfl, .ty _, .base .non, kit_ty (by decide +kernel), false, rfl, iteT (iteT (k H (Kp.refl H)))⟩
  · exact ⟨_, rfl, _, .ty "tuple", _, _, false, rfl, .ty _, .base (.lst ha), kit_ty (by decide +kernel), false, rfl, iteT (iteT (k H (Kp.refl H)))⟩
  refine ⟨_, rfl, _, .ty "tuple", _, _, true, rfl, .ty _, .base (.tup ha), kit_ty (by decide +kernel), true, rfl, iteF ⟨_, rfl, a, _, rfl, .inr (SqT.of ha), SI, _, rfl, .inr (TI.t _), rfl, _, rfl, ?_⟩⟩
  rw [show ((ins3.length : Nat) : Int) = 3 from rfl]
  by_cases h3 : xs.length = 3
  · rw [decide_eq_true (show V.int (xs.length : Int) = V.int 3 by rw [h3]; rfl)]
    refine iteF ⟨_, rfl, a, rfl, ⟨_, SqT.of ha⟩, hT, fun H1 tb => ?_⟩
    have k1 : Kp H H1 [] := Kp.tabbed hT tb
    have ha1 := k1.tup0 ha
    refine GG.gt_tup (K := K) (a := a) (xs := xs) (fun i H' => H' = H1 ∧ ∀ j x, j < i → xs[j]? = some x → inR x (-1000000) 1000000 = true) ⟨rfl, fun _ _ h => absurd h (Nat.not_lt_zero _)⟩ (fun i H' _ h => by rw [h.1]; exact SqT.of ha1) (fun i x H' hx ⟨e, all⟩ => ?_) (fun H' ⟨e, all⟩ => ?_)
    · subst e
      refine ⟨rfl, _, rfl, _, rfl, x, -1000000, 1000000, rfl, hn x (List.mem_of_getElem? hx), ?_⟩
      cases hi : inR x (-1000000) 1000000 with
      | true =>
        refine .inl ⟨rfl, rfl, fun j y hj e => ?_⟩
        by_cases ej : j = i
        · rw [ej, hx] at e
          cases e
          exact hi
        · exact all j y (by omega) e
      | false =>
        refine .inr ⟨rfl, ?_⟩
        have e2 : b = false := by
          rw [hb, h3, Bool.eq_false_iff]
          intro z
          rw [Bool.and_eq_true, List.all_eq_true] at z
          have := z.2 x (List.mem_of_getElem? hx)
          rw [hi] at this
          cases this
        rw [e2] at k
        exact k _ k1
    · subst e
      have e2 : b = true := by
        rw [hb, h3, Bool.and_eq_true, List.all_eq_true]
        refine ⟨by decide, fun x hx => ?_⟩
        obtain ⟨j, hj, e⟩ := List.mem_iff_getElem.mp hx
        exact all j x hj (by rw [List.getElem?_eq_getElem hj, e])
      rw [e2] at k
      exact k _ k1
  · rw [decide_eq_false (show ¬ V.int (xs.length : Int) = V.int 3 from fun z => h3 (by have := V.int.inj z; omega))]
    rw [decide_eq_false h3, Bool.false_and] at hb
    subst hb
    exact iteT (k H (Kp.refl H))
theorem sc_worked : FnScope ["name", "values", "one", "other"] ["name", "values"] (defScope s_worked) := ⟨rfl, rfl, rfl, by decide +kernel, rfl, by decide +kernel, by decide +kernel⟩
theorem ok_worked {f : Addr} {fd : FuncData} (F : Fun K "worked" "worked" s_worked f fd) (T : Txt0 mg) : FnOk P w K mg base CX0 1 f fd ["name", "values"] spWorked := by
  refine F.ok sc_worked (fun vs H Q E h => ?_) (fun cdv A outer s H vs Q E hr h => ?_)
  · obtain ⟨n, l, xs, r, rfl, _⟩ := h
    rfl
  obtain ⟨n, l, xs, r, rfl, l0, ar, q⟩ := h
  have nd := sc_worked.nd
  have k0 : Kp H H [] := Kp.refl H
  refine ⟨_, (pss_cons (ps_if (pt_cmpR op_in_seq (pv 0) (pe_tup (pa_cons pe_str (pa_cons pe_str (pa_cons pe_str pa_nil)))) rfl) 
      (pss_cons (ps_asg (pv 1) (pg_lst rfl (pgs_cons (pg_name (i := 2) nd rfl (.inl rfl)) (pgs_cons (pg_name (i := 3) nd rfl (.inl rfl)) pgs_nil))))
      (pss_one (ps_ret (pe_ifExp (pt_cmpR op_eq (pv 0) pe_str (nomark _)) (pe_op op_add (pv 2) (pv 3)) (pe_ifExp (pt_cmpR op_eq (pv 0) pe_str (nomark _)) (pe_op op_sub (pv 2) (pv 3)) (pe_op op_mulB (pv 2) (pv 3))))))) pss_nil)
    (pss_cons (ps_if (pt_cmpR op_in_seq (pv 0) (pe_tup (pa_cons pe_str (pa_cons pe_str pa_nil))) rfl) 
      (pss_one (ps_ret (pe_ifExp (pt_cmpR op_eq (pv 0) pe_str (nomark _)) (pe_callB (cr_min rfl) (by rfl) T.B.min (by decide +kernel) (pa_cons (pv 1) pa_nil)) (pe_callB (cr_max rfl) (by rfl) T.B.max (by decide +kernel) (pa_cons (pv 1) pa_nil))))) pss_nil)
    (pss_cons (ps_if (pt_cmpR op_eq (pv 0) pe_str (nomark _)) 
      (pss_one (ps_ret (pe_op op_sub pe_int (pe_ix ix_list (pv 1) pe_int (fun _ _ => rfl))))) pss_nil)
    (pss_cons (ps_if (pt_cmpR op_in_seq (pv 0) (pe_tup (pa_cons pe_str (pa_cons pe_str pa_nil))) rfl) 
      (pss_one (ps_ret (pe_ifExp (pt_cmpR op_eq (pv 0) pe_str (nomark _)) (pe_cmpR op_lt (pe_ix ix_list (pv 1) pe_int (fun _ _ => rfl)) (pe_ix ix_list (pv 1) pe_int (fun _ _ => rfl)) (nomark _)) (pe_cmpR op_eq (pe_ix ix_list (pv 1) pe_int (fun _ _ => rfl)) (pe_ix ix_list (pv 1) pe_int (fun _ _ => rfl)) (nomark _))))) pss_nil)
    (pss_cons (ps_if (pt_cmpR op_in_seq (pv 0) (pe_tup (pa_cons pe_str (pa_cons pe_str pa_nil))) rfl) 
      (pss_one (ps_ret (pe_ifExp (pt_cmpR op_eq (pv 0) pe_str (nomark _)) (pe_and (pe_ix ix_list (pv 1) pe_int (fun _ _ => rfl)) (pe_one (pe_ix ix_list (pv 1) pe_int (fun _ _ => rfl)))) (pe_or (pe_ix ix_list (pv 1) pe_int (fun _ _ => rfl)) (pe_one (pe_ix ix_list (pv 1) pe_int (fun _ _ => rfl))))))) pss_nil)
    (pss_cons (ps_if (pt_cmpR op_eq (pv 0) pe_str (nomark _)) 
      (pss_one (ps_ret (pe_not (pe_ix ix_list (pv 1) pe_int (fun _ _ => rfl))))) pss_nil)
    (pss_cons (ps_if (pt_cmpR op_eq (pv 0) pe_str (nomark _)) 
      (pss_one (ps_ret (pe_ifExp (pt_truth (pe_ix ix_list (pv 1) pe_int (fun _ _ => rfl)) (by intro _; rfl)) (pe_ix ix_list (pv 1) pe_int (fun _ _ => rfl)) (pe_ix ix_list (pv 1) pe_int (fun _ _ => rfl))))) pss_nil)
    (pss_one (ps_ret (pe_cmpR op_eq (pv 0) pe_str (nomark _))))))))))), ?_⟩
  cases ar with
  | add a b hm =>
    refine ⟨_, rfl, (by show 3 ≤ sizeLine; decide), fun p0 hp0 => ?_⟩
    have k1 := k0.then (Kp.new (o := .tup [.str "add", .str "sub", .str "mul"]) hp0)
    have l1 := (Kp.new (o := .tup [.str "add", .str "sub", .str "mul"]) hp0).lst0 l0
    refine ⟨p0, _, rfl, .inr (SqT.of upd_same), rfl, rfl, true, congrArg V.bl (by decide +kernel), iteT ?_⟩
    refine ⟨_, rfl, l, _, rfl, SqL.of l1, rfl, _, _, rfl, _, _, rfl, rfl, ?_⟩
    refine ⟨_, rfl, rfl, true, congrArg V.bl (by decide +kernel), iteT ?_⟩
    exact ⟨_, rfl, _, rfl, _, _, rfl, rfl, q _ k1⟩
  | sub a b hm =>
    refine ⟨_, rfl, (by show 3 ≤ sizeLine; decide), fun p0 hp0 => ?_⟩
    have k1 := k0.then (Kp.new (o := .tup [.str "add", .str "sub", .str "mul"]) hp0)
    have l1 := (Kp.new (o := .tup [.str "add", .str "sub", .str "mul"]) hp0).lst0 l0
    refine ⟨p0, _, rfl, .inr (SqT.of upd_same), rfl, rfl, true, congrArg V.bl (by decide +kernel), iteT ?_⟩
    refine ⟨_, rfl, l, _, rfl, SqL.of l1, rfl, _, _, rfl, _, _, rfl, rfl, ?_⟩
    refine ⟨_, rfl, rfl, false, congrArg V.bl (by decide +kernel), iteF ?_⟩
    refine ⟨_, rfl, rfl, true, congrArg V.bl (by decide +kernel), iteT ?_⟩
    exact ⟨_, rfl, _, rfl, _, _, rfl, rfl, q _ k1⟩
  | mul a b hm =>
    refine ⟨_, rfl, (by show 3 ≤ sizeLine; decide), fun p0 hp0 => ?_⟩
    have k1 := k0.then (Kp.new (o := .tup [.str "add", .str "sub", .str "mul"]) hp0)
    have l1 := (Kp.new (o := .tup [.str "add", .str "sub", .str "mul"]) hp0).lst0 l0
    refine ⟨p0, _, rfl, .inr (SqT.of upd_same), rfl, rfl, true, congrArg V.bl (by decide +kernel), iteT ?_⟩
    refine ⟨_, rfl, l, _, rfl, SqL.of l1, rfl, _, _, rfl, _, _, rfl, rfl, ?_⟩
    refine ⟨_, rfl, rfl, false, congrArg V.bl (by decide +kernel), iteF ?_⟩
    refine ⟨_, rfl, rfl, false, congrArg V.bl (by decide +kernel), iteF ?_⟩
    exact ⟨_, rfl, _, rfl, _, _, rfl, rfl, hm, q _ k1⟩
  | min a b =>
    refine ⟨_, rfl, (by show 3 ≤ sizeLine; decide), fun p0 hp0 => ?_⟩
    have k1 := k0.then (Kp.new (o := .tup [.str "add", .str "sub", .str "mul"]) hp0)
    have l1 := (Kp.new (o := .tup [.str "add", .str "sub", .str "mul"]) hp0).lst0 l0
    refine ⟨p0, _, rfl, .inr (SqT.of upd_same), rfl, rfl, false, congrArg V.bl (by decide +kernel), iteF ?_⟩
    refine ⟨_, rfl, (by show 2 ≤ sizeLine; decide), fun p1 hp1 => ?_⟩
    have k2 := k1.then (Kp.new (o := .tup [.str "min", .str "max"]) hp1)
    have l2 := (Kp.new (o := .tup [.str "min", .str "max"]) hp1).lst0 l1
    refine ⟨p1, _, rfl, .inr (SqT.of upd_same), rfl, rfl, true, congrArg V.bl (by decide +kernel), iteT ?_⟩
    refine ⟨_, rfl, rfl, true, congrArg V.bl (by decide +kernel), iteT ?_⟩
    refine ⟨_, rfl, l, [a, b], rfl, SqL.of l2, (by show 0 < 2; decide), fun m hm1 hm2 => ?_⟩
    have em : m = (if b < a then b else a) := min_two hm1 hm2
    rw [em]
    exact q _ k2
  | less a b =>
    refine ⟨_, rfl, (by show 3 ≤ sizeLine; decide), fun p0 hp0 => ?_⟩
    have k1 := k0.then (Kp.new (o := .tup [.str "add", .str "sub", .str "mul"]) hp0)
    have l1 := (Kp.new (o := .tup [.str "add", .str "sub", .str "mul"]) hp0).lst0 l0
    refine ⟨p0, _, rfl, .inr (SqT.of upd_same), rfl, rfl, false, congrArg V.bl (by decide +kernel), iteF ?_⟩
    refine ⟨_, rfl, (by show 2 ≤ sizeLine; decide), fun p1 hp1 => ?_⟩
    have k2 := k1.then (Kp.new (o := .tup [.str "min", .str "max"]) hp1)
    have l2 := (Kp.new (o := .tup [.str "min", .str "max"]) hp1).lst0 l1
    refine ⟨p1, _, rfl, .inr (SqT.of upd_same), rfl, rfl, false, congrArg V.bl (by decide +kernel), iteF ?_⟩
    refine ⟨_, rfl, rfl, false, congrArg V.bl (by decide +kernel), iteF ?_⟩
    refine ⟨_, rfl, (by show 2 ≤ sizeLine; decide), fun p2 hp2 => ?_⟩
    have k3 := k2.then (Kp.new (o := .tup [.str "less", .str "alike"]) hp2)
    have l3 := (Kp.new (o := .tup [.str "less", .str "alike"]) hp2).lst0 l2
    refine ⟨p2, _, rfl, .inr (SqT.of upd_same), rfl, rfl, true, congrArg V.bl (by decide +kernel), iteT ?_⟩
    refine ⟨_, rfl, rfl, true, congrArg V.bl (by decide +kernel), iteT ?_⟩
    exact ⟨_, rfl, l, _, _, _, rfl, rfl, SqL.of l3, at_of (j := 0) rfl rfl, _, rfl, l, _, _, _, rfl, rfl, SqL.of l3, at_of (j := 1) rfl rfl, _, _, rfl, rfl, q _ k3⟩
  | alike a b =>
    refine ⟨_, rfl, (by show 3 ≤ sizeLine; decide), fun p0 hp0 => ?_⟩
    have k1 := k0.then (Kp.new (o := .tup [.str "add", .str "sub", .str "mul"]) hp0)
    have l1 := (Kp.new (o := .tup [.str "add", .str "sub", .str "mul"]) hp0).lst0 l0
    refine ⟨p0, _, rfl, .inr (SqT.of upd_same), rfl, rfl, false, congrArg V.bl (by decide +kernel), iteF ?_⟩
    refine ⟨_, rfl, (by show 2 ≤ sizeLine; decide), fun p1 hp1 => ?_⟩
    have k2 := k1.then (Kp.new (o := .tup [.str "min", .str "max"]) hp1)
    have l2 := (Kp.new (o := .tup [.str "min", .str "max"]) hp1).lst0 l1
    refine ⟨p1, _, rfl, .inr (SqT.of upd_same), rfl, rfl, false, congrArg V.bl (by decide +kernel), iteF ?_⟩
    refine ⟨_, rfl, rfl, false, congrArg V.bl (by decide +kernel), iteF ?_⟩
    refine ⟨_, rfl, (by show 2 ≤ sizeLine; decide), fun p2 hp2 => ?_⟩
    have k3 := k2.then (Kp.new (o := .tup [.str "less", .str "alike"]) hp2)
    have l3 := (Kp.new (o := .tup [.str "less", .str "alike"]) hp2).lst0 l2
    refine ⟨p2, _, rfl, .inr (SqT.of upd_same), rfl, rfl, true, congrArg V.bl (by decide +kernel), iteT ?_⟩
    refine ⟨_, rfl, rfl, false, congrArg V.bl (by decide +kernel), iteF ?_⟩
    refine ⟨_, rfl, l, _, _, _, rfl, rfl, SqL.of l3, at_of (j := 0) rfl rfl, _, rfl, l, _, _, _, rfl, rfl, SqL.of l3, at_of (j := 1) rfl rfl, rfl, ?_⟩
    rw [dec_ints]
    exact q _ k3
  | both a b =>
    refine ⟨_, rfl, (by show 3 ≤ sizeLine; decide), fun p0 hp0 => ?_⟩
    have k1 := k0.then (Kp.new (o := .tup [.str "add", .str "sub", .str "mul"]) hp0)
    have l1 := (Kp.new (o := .tup [.str "add", .str "sub", .str "mul"]) hp0).lst0 l0
    refine ⟨p0, _, rfl, .inr (SqT.of upd_same), rfl, rfl, false, congrArg V.bl (by decide +kernel), iteF ?_⟩
    refine ⟨_, rfl, (by show 2 ≤ sizeLine; decide), fun p1 hp1 => ?_⟩
    have k2 := k1.then (Kp.new (o := .tup [.str "min", .str "max"]) hp1)
    have l2 := (Kp.new (o := .tup [.str "min", .str "max"]) hp1).lst0 l1
    refine ⟨p1, _, rfl, .inr (SqT.of upd_same), rfl, rfl, false, congrArg V.bl (by decide +kernel), iteF ?_⟩
    refine ⟨_, rfl, rfl, false, congrArg V.bl (by decide +kernel), iteF ?_⟩
    refine ⟨_, rfl, (by show 2 ≤ sizeLine; decide), fun p2 hp2 => ?_⟩
    have k3 := k2.then (Kp.new (o := .tup [.str "less", .str "alike"]) hp2)
    have l3 := (Kp.new (o := .tup [.str "less", .str "alike"]) hp2).lst0 l2
    refine ⟨p2, _, rfl, .inr (SqT.of upd_same), rfl, rfl, false, congrArg V.bl (by decide +kernel), iteF ?_⟩
    refine ⟨_, rfl, (by show 2 ≤ sizeLine; decide), fun p3 hp3 => ?_⟩
    have k4 := k3.then (Kp.new (o := .tup [.str "both", .str "any"]) hp3)
    have l4 := (Kp.new (o := .tup [.str "both", .str "any"]) hp3).lst0 l3
    refine ⟨p3, _, rfl, .inr (SqT.of upd_same), rfl, rfl, true, congrArg V.bl (by decide +kernel), iteT ?_⟩
    refine ⟨_, rfl, rfl, true, congrArg V.bl (by decide +kernel), iteT ?_⟩
    refine ⟨_, rfl, l, _, _, _, rfl, rfl, SqL.of l4, at_of (j := 0) rfl rfl, a, rfl, ?_⟩
    cases a with
    | false => exact q _ k4
    | true => exact ⟨_, rfl, l, _, _, _, rfl, rfl, SqL.of l4, at_of (j := 1) rfl rfl, q _ k4⟩
  | neg a =>
    refine ⟨_, rfl, (by show 3 ≤ sizeLine; decide), fun p0 hp0 => ?_⟩
    have k1 := k0.then (Kp.new (o := .tup [.str "add", .str "sub", .str "mul"]) hp0)
    have l1 := (Kp.new (o := .tup [.str "add", .str "sub", .str "mul"]) hp0).lst0 l0
    refine ⟨p0, _, rfl, .inr (SqT.of upd_same), rfl, rfl, false, congrArg V.bl (by decide +kernel), iteF ?_⟩
    refine ⟨_, rfl, (by show 2 ≤ sizeLine; decide), fun p1 hp1 => ?_⟩
    have k2 := k1.then (Kp.new (o := .tup [.str "min", .str "max"]) hp1)
    have l2 := (Kp.new (o := .tup [.str "min", .str "max"]) hp1).lst0 l1
    refine ⟨p1, _, rfl, .inr (SqT.of upd_same), rfl, rfl, false, congrArg V.bl (by decide +kernel), iteF ?_⟩
    refine ⟨_, rfl, rfl, true, congrArg V.bl (by decide +kernel), iteT ?_⟩
    exact ⟨_, rfl, l, _, _, _, rfl, rfl, SqL.of l2, at_of (j := 0) rfl rfl, _, _, rfl, rfl, by show Q (.int (0 - a)) _; rw [Int.zero_sub]; exact q _ k2⟩
  | not a =>
    refine ⟨_, rfl, (by show 3 ≤ sizeLine; decide), fun p0 hp0 => ?_⟩
    have k1 := k0.then (Kp.new (o := .tup [.str "add", .str "sub", .str "mul"]) hp0)
    have l1 := (Kp.new (o := .tup [.str "add", .str "sub", .str "mul"]) hp0).lst0 l0
    refine ⟨p0, _, rfl, .inr (SqT.of upd_same), rfl, rfl, false, congrArg V.bl (by decide +kernel), iteF ?_⟩
    refine ⟨_, rfl, (by show 2 ≤ sizeLine; decide), fun p1 hp1 => ?_⟩
    have k2 := k1.then (Kp.new (o := .tup [.str "min", .str "max"]) hp1)
    have l2 := (Kp.new (o := .tup [.str "min", .str "max"]) hp1).lst0 l1
    refine ⟨p1, _, rfl, .inr (SqT.of upd_same), rfl, rfl, false, congrArg V.bl (by decide +kernel), iteF ?_⟩
    refine ⟨_, rfl, rfl, false, congrArg V.bl (by decide +kernel), iteF ?_⟩
    refine ⟨_, rfl, (by show 2 ≤ sizeLine; decide), fun p2 hp2 => ?_⟩
    have k3 := k2.then (Kp.new (o := .tup [.str "less", .str "alike"]) hp2)
    have l3 := (Kp.new (o := .tup [.str "less", .str "alike"]) hp2).lst0 l2
    refine ⟨p2, _, rfl, .inr (SqT.of upd_same), rfl, rfl, false, congrArg V.bl (by decide +kernel), iteF ?_⟩
    refine ⟨_, rfl, (by show 2 ≤ sizeLine; decide), fun p3 hp3 => ?_⟩
    have k4 := k3.then (Kp.new (o := .tup [.str "both", .str "any"]) hp3)
    have l4 := (Kp.new (o := .tup [.str "both", .str "any"]) hp3).lst0 l3
    refine ⟨p3, _, rfl, .inr (SqT.of upd_same), rfl, rfl, false, congrArg V.bl (by decide +kernel), iteF ?_⟩
    refine ⟨_, rfl, rfl, true, congrArg V.bl (by decide +kernel), iteT ?_⟩
    exact ⟨_, rfl, l, _, _, _, rfl, rfl, SqL.of l4, at_of (j := 0) rfl rfl, _, rfl, q _ k4⟩
  | pick a b c =>
    refine ⟨_, rfl, (by show 3 ≤ sizeLine; decide), fun p0 hp0 => ?_⟩
    have k1 := k0.then (Kp.new (o := .tup [.str "add", .str "sub", .str "mul"]) hp0)
    have l1 := (Kp.new (o := .tup [.str "add", .str "sub", .str "mul"]) hp0).lst0 l0
    refine ⟨p0, _, rfl, .inr (SqT.of upd_same), rfl, rfl, false, congrArg V.bl (by decide +kernel), iteF ?_⟩
    refine ⟨_, rfl, (by show 2 ≤ sizeLine; decide), fun p1 hp1 => ?_⟩
    have k2 := k1.then (Kp.new (o := .tup [.str "min", .str "max"]) hp1)
    have l2 := (Kp.new (o := .tup [.str "min", .str "max"]) hp1).lst0 l1
    refine ⟨p1, _, rfl, .inr (SqT.of upd_same), rfl, rfl, false, congrArg V.bl (by decide +kernel), iteF ?_⟩
    refine ⟨_, rfl, rfl, false, congrArg V.bl (by decide +kernel), iteF ?_⟩
    refine ⟨_, rfl, (by show 2 ≤ sizeLine; decide), fun p2 hp2 => ?_⟩
    have k3 := k2.then (Kp.new (o := .tup [.str "less", .str "alike"]) hp2)
    have l3 := (Kp.new (o := .tup [.str "less", .str "alike"]) hp2).lst0 l2
    refine ⟨p2, _, rfl, .inr (SqT.of upd_same), rfl, rfl, false, congrArg V.bl (by decide +kernel), iteF ?_⟩
    refine ⟨_, rfl, (by show 2 ≤ sizeLine; decide), fun p3 hp3 => ?_⟩
    have k4 := k3.then (Kp.new (o := .tup [.str "both", .str "any"]) hp3)
    have l4 := (Kp.new (o := .tup [.str "both", .str "any"]) hp3).lst0 l3
    refine ⟨p3, _, rfl, .inr (SqT.of upd_same), rfl, rfl, false, congrArg V.bl (by decide +kernel), iteF ?_⟩
    refine ⟨_, rfl, rfl, false, congrArg V.bl (by decide +kernel), iteF ?_⟩
    refine ⟨_, rfl, rfl, true, congrArg V.bl (by decide +kernel), iteT ?_⟩
    refine ⟨_, rfl, l, _, _, _, rfl, rfl, SqL.of l4, at_of (j := 0) rfl rfl, a, rfl, ?_⟩
    cases a with
    | false => exact ⟨_, rfl, l, _, _, _, rfl, rfl, SqL.of l4, at_of (j := 2) rfl rfl, q _ k4⟩
    | true => exact ⟨_, rfl, l, _, _, _, rfl, rfl, SqL.of l4, at_of (j := 1) rfl rfl, q _ k4⟩
  | yes =>
    refine ⟨_, rfl, (by show 3 ≤ sizeLine; decide), fun p0 hp0 => ?_⟩
    have k1 := k0.then (Kp.new (o := .tup [.str "add", .str "sub", .str "mul"]) hp0)
    have l1 := (Kp.new (o := .tup [.str "add", .str "sub", .str "mul"]) hp0).lst0 l0
    refine ⟨p0, _, rfl, .inr (SqT.of upd_same), rfl, rfl, false, congrArg V.bl (by decide +kernel), iteF ?_⟩
    refine ⟨_, rfl, (by show 2 ≤ sizeLine; decide), fun p1 hp1 => ?_⟩
    have k2 := k1.then (Kp.new (o := .tup [.str "min", .str "max"]) hp1)
    have l2 := (Kp.new (o := .tup [.str "min", .str "max"]) hp1).lst0 l1
    refine ⟨p1, _, rfl, .inr (SqT.of upd_same), rfl, rfl, false, congrArg V.bl (by decide +kernel), iteF ?_⟩
    refine ⟨_, rfl, rfl, false, congrArg V.bl (by decide +kernel), iteF ?_⟩
    refine ⟨_, rfl, (by show 2 ≤ sizeLine; decide), fun p2 hp2 => ?_⟩
    have k3 := k2.then (Kp.new (o := .tup [.str "less", .str "alike"]) hp2)
    have l3 := (Kp.new (o := .tup [.str "less", .str "alike"]) hp2).lst0 l2
    refine ⟨p2, _, rfl, .inr (SqT.of upd_same), rfl, rfl, false, congrArg V.bl (by decide +kernel), iteF ?_⟩
    refine ⟨_, rfl, (by show 2 ≤ sizeLine; decide), fun p3 hp3 => ?_⟩
    have k4 := k3.then (Kp.new (o := .tup [.str "both", .str "any"]) hp3)
    have l4 := (Kp.new (o := .tup [.str "both", .str "any"]) hp3).lst0 l3
    refine ⟨p3, _, rfl, .inr (SqT.of upd_same), rfl, rfl, false, congrArg V.bl (by decide +kernel), iteF ?_⟩
    refine ⟨_, rfl, rfl, false, congrArg V.bl (by decide +kernel), iteF ?_⟩
    refine ⟨_, rfl, rfl, false, congrArg V.bl (by decide +kernel), iteF ?_⟩
    refine ⟨_, rfl, rfl, ?_⟩
    rw [show decide (V.str "yes" = V.str "yes") = true from by decide +kernel]
    exact q _ k4
  | no =>
    refine ⟨_, rfl, (by show 3 ≤ sizeLine; decide), fun p0 hp0 => ?_⟩
    have k1 := k0.then (Kp.new (o := .tup [.str "add", .str "sub", .str "mul"]) hp0)
    have l1 := (Kp.new (o := .tup [.str "add", .str "sub", .str "mul"]) hp0).lst0 l0
    refine ⟨p0, _, rfl, .inr (SqT.of upd_same), rfl, rfl, false, congrArg V.bl (by decide +kernel), iteF ?_⟩
    refine ⟨_, rfl, (by show 2 ≤ sizeLine; decide), fun p1 hp1 => ?_⟩
    have k2 := k1.then (Kp.new (o := .tup [.str "min", .str "max"]) hp1)
    have l2 := (Kp.new (o := .tup [.str "min", .str "max"]) hp1).lst0 l1
    refine ⟨p1, _, rfl, .inr (SqT.of upd_same), rfl, rfl, false, congrArg V.bl (by decide +kernel), iteF ?_⟩
    refine ⟨_, rfl, rfl, false, congrArg V.bl (by decide +kernel), iteF ?_⟩
    refine ⟨_, rfl, (by show 2 ≤ sizeLine; decide), fun p2 hp2 => ?_⟩
    have k3 := k2.then (Kp.new (o := .tup [.str "less", .str "alike"]) hp2)
    have l3 := (Kp.new (o := .tup [.str "less", .str "alike"]) hp2).lst0 l2
    refine ⟨p2, _, rfl, .inr (SqT.of upd_same), rfl, rfl, false, congrArg V.bl (by decide +kernel), iteF ?_⟩
    refine ⟨_, rfl, (by show 2 ≤ sizeLine; decide), fun p3 hp3 => ?_⟩
    have k4 := k3.then (Kp.new (o := .tup [.str "both", .str "any"]) hp3)
    have l4 := (Kp.new (o := .tup [.str "both", .str "any"]) hp3).lst0 l3
    refine ⟨p3, _, rfl, .inr (SqT.of upd_same), rfl, rfl, false, congrArg V.bl (by decide +kernel), iteF ?_⟩
    refine ⟨_, rfl, rfl, false, congrArg V.bl (by decide +kernel), iteF ?_⟩
    refine ⟨_, rfl, rfl, false, congrArg V.bl (by decide +kernel), iteF ?_⟩
    refine ⟨_, rfl, rfl, ?_⟩
    rw [show decide (V.str "no" = V.str "yes") = false from by decide +kernel]
    exact q _ k4
theorem sc_made : FnScope ["name", "values", "world", "number"] ["name", "values", "world"] (defScope s_made) := ⟨rfl, rfl, rfl, by decide +kernel, rfl, by decide +kernel, by decide +kernel⟩
theorem ok_made {f Pn SI f1 f2 : Addr} {fd fd1 fd2 : FuncData} (F : Fun K "made" "made" s_made f fd) (T : Txt0 mg) (TI : Inp K mg SI) (G_number_of : FnOk P w K mg base CX0 3 f1 fd1 ["name"] (spNumber Pn)) (F_number_of : Fun K "number_of" "number_of" s_number_of f1 fd1) (b_number_of : Binds K fd1 ["name"] []) (g_number_of : mg "number_of" = some (.ref f1))
    (G_worked : FnOk P w K mg base CX0 1 f2 fd2 ["name", "values"] spWorked) (F_worked : Fun K "worked" "worked" s_worked f2 fd2) (b_worked : Binds K fd2 ["name", "values"] []) (g_worked : mg "worked" = some (.ref f2)) : FnOk P w K mg base CX0 4 f fd ["name", "values", "world"] (spMade Pn) := by
  refine F.ok sc_made (fun vs H Q E h => ?_) (fun cdv A outer s H vs Q E hr3 h => ?_)
  · obtain ⟨n, l, wt, xs, ws, r, rfl, _⟩ := h
    rfl
  obtain ⟨n, l, wt, xs, ws, r, rfl, hl, hw, m, hT, q⟩ := h
  have nd := sc_made.nd
  have g_INPUTS := TI.g
  have hr1 := hr3.mono (by decide : 1 ≤ 3)
  refine ⟨_, (pss_cons (ps_set (i := 3) nd rfl (.inl rfl) (pe_call G_number_of hr3 (by rfl) g_number_of F_number_of.kp b_number_of .nil pass0 (pa_cons (pv 0) pa_nil)))
    (pss_cons (ps_if (pt_cmpR op_notN (pv 3) pe_non (nomark _)) 
      (pss_one (ps_ret (pv 3))) pss_nil)
    (pss_one (ps_ret (pe_ifExp (pt_cmpR op_in_seq (pv 0) (pe_gref (by rfl) g_INPUTS) rfl) (pe_ix ix_tup (pv 2) (pe_bm PySem.F.plainAttrs_tuple PySem.F.slot_tuple_index PySem.F.type_tuple_index mt_tup_index (pe_gref (by rfl) g_INPUTS) (pa_cons (pv 0) pa_nil)) (fun _ _ => rfl)) (pe_call G_worked hr1 (by rfl) g_worked F_worked.kp b_worked .nil pass0 (pa_cons (pv 0) (pa_cons (pv 1) pa_nil)))))))), ?_⟩
  cases m with
  | x v hx =>
    refine ⟨_, rfl, _, rfl, (by decide +kernel), hT, fun H1 k1 => ?_⟩
    rw [show numOf "x" = none from by decide +kernel]
    refine ⟨_, rfl, rfl, false, rfl, iteF ?_⟩
    exact ⟨_, rfl, SI, ins3, rfl, .inr (TI.t _), rfl, rfl, true, congrArg V.bl (by decide +kernel), iteT ⟨_, rfl, .inr (.inl ⟨rfl, TI.l⟩), _, rfl, SI, ["x", "y", "z"], _, 0, rfl, rfl, TI.t _, rfl, (nn_of (by decide +kernel)), wt, ws, _, _, rfl, rfl, SqT.of (k1.tup0 hw), at_of (j := 0) rfl hx, q _ k1⟩⟩
  | y v hx =>
    refine ⟨_, rfl, _, rfl, (by decide +kernel), hT, fun H1 k1 => ?_⟩
    rw [show numOf "y" = none from by decide +kernel]
    refine ⟨_, rfl, rfl, false, rfl, iteF ?_⟩
    exact ⟨_, rfl, SI, ins3, rfl, .inr (TI.t _), rfl, rfl, true, congrArg V.bl (by decide +kernel), iteT ⟨_, rfl, .inr (.inl ⟨rfl, TI.l⟩), _, rfl, SI, ["x", "y", "z"], _, 1, rfl, rfl, TI.t _, rfl, (nn_of (by decide +kernel)), wt, ws, _, _, rfl, rfl, SqT.of (k1.tup0 hw), at_of (j := 1) rfl hx, q _ k1⟩⟩
  | z v hx =>
    refine ⟨_, rfl, _, rfl, (by decide +kernel), hT, fun H1 k1 => ?_⟩
    rw [show numOf "z" = none from by decide +kernel]
    refine ⟨_, rfl, rfl, false, rfl, iteF ?_⟩
    exact ⟨_, rfl, SI, ins3, rfl, .inr (TI.t _), rfl, rfl, true, congrArg V.bl (by decide +kernel), iteT ⟨_, rfl, .inr (.inl ⟨rfl, TI.l⟩), _, rfl, SI, ["x", "y", "z"], _, 2, rfl, rfl, TI.t _, rfl, (nn_of (by decide +kernel)), wt, ws, _, _, rfl, rfl, SqT.of (k1.tup0 hw), at_of (j := 2) rfl hx, q _ k1⟩⟩
  | n7 =>
    refine ⟨_, rfl, _, rfl, (by decide +kernel), hT, fun H1 k1 => ?_⟩
    rw [show numOf "7" = some (7) from by decide +kernel]
    exact ⟨_, rfl, rfl, true, rfl, iteT ⟨_, rfl, q _ k1⟩⟩
  | n2 =>
    refine ⟨_, rfl, _, rfl, (by decide +kernel), hT, fun H1 k1 => ?_⟩
    rw [show numOf "-2" = some (-2) from by decide +kernel]
    exact ⟨_, rfl, rfl, true, rfl, iteT ⟨_, rfl, q _ k1⟩⟩
  | n0 =>
    refine ⟨_, rfl, _, rfl, (by decide +kernel), hT, fun H1 k1 => ?_⟩
    rw [show numOf "0" = some (0) from by decide +kernel]
    exact ⟨_, rfl, rfl, true, rfl, iteT ⟨_, rfl, q _ k1⟩⟩
  | ar _ _ _ ar =>
    obtain ⟨a1, a2, a3⟩ := ar.facts
    refine ⟨_, rfl, _, rfl, a1, hT, fun H1 k1 => ?_⟩
    rw [a2]
    refine ⟨_, rfl, rfl, false, rfl, iteF ?_⟩
    refine ⟨_, rfl, SI, ins3, rfl, .inr (TI.t _), rfl, rfl, false, congrArg V.bl a3, iteF ?_⟩
    exact ⟨_, rfl, _, rfl, n, l, xs, r, rfl, k1.lst0 hl, ar, fun H' k' => q _ (k1.then k')⟩
theorem sc__law_work : FnScope ["name", "mine", "world", "one", "other"] ["name", "mine", "world"] (defScope s__law_work) := ⟨rfl, rfl, rfl, by decide +kernel, rfl, by decide +kernel, by decide +kernel⟩
theorem ok_work {f : Addr} {fd : FuncData} (F : Fun K "_law_work" "_law_work" s__law_work f fd) (T : Txt0 mg) : FnOk P w K mg base CX0 1 f fd ["name", "mine", "world"] spWork := by
  refine F.ok sc__law_work (fun vs H Q E h => ?_) (fun cdv A outer s H vs Q E hr h => ?_)
  · obtain ⟨n, l, wt, xs, ws, r, rfl, _⟩ := h
    rfl
  obtain ⟨n, l, wt, xs, ws, r, rfl, l0, hw, m, q⟩ := h
  have nd := sc__law_work.nd
  have hv := hr.units
  have k0 : Kp H H [] := Kp.refl H
  refine ⟨_, (pss_cons (ps_if (pt_cmpR op_in_seq (pv 0) (pe_tup (pa_cons pe_str (pa_cons pe_str (pa_cons pe_str pa_nil)))) rfl) 
      (pss_one (ps_ret (pe_ix ix_tup (pv 2) (pe_bm PySem.F.plainAttrs_list PySem.F.slot_list_index PySem.F.type_list_index mt_index (pe_lst (pa_cons pe_str (pa_cons pe_str (pa_cons pe_str pa_nil)))) (pa_cons (pv 0) pa_nil)) (fun _ _ => rfl)))) pss_nil)
    (pss_cons (ps_if (pt_cmpR op_in_seq (pv 0) (pe_tup (pa_cons pe_str (pa_cons pe_str pa_nil))) rfl) 
      (pss_one (ps_ret (pe_cmpR op_eq (pv 0) pe_str (nomark _)))) pss_nil)
    (pss_cons (ps_if (pt_cmpR (op_eqD hv) (pv 1) (pe_lst pa_nil) (nomark _)) 
      (pss_one (ps_ret (pe_callTy call_int_str (by rfl) T.B.int (by decide +kernel) (pa_cons (pv 0) pa_nil)))) pss_nil)
    (pss_cons (ps_if (pt_cmpR op_in_seq (pv 0) (pe_tup (pa_cons pe_str (pa_cons pe_str pa_nil))) rfl) 
      (pss_one (ps_ret (pe_ifExp (pt_cmpR op_eq (pv 0) pe_str (nomark _)) (pe_un un_neg (pe_ix ix_list (pv 1) pe_int (fun _ _ => rfl))) (pe_not (pe_ix ix_list (pv 1) pe_int (fun _ _ => rfl)))))) pss_nil)
    (pss_cons (ps_if (pt_cmpR op_eq (pv 0) pe_str (nomark _)) 
      (pss_one (ps_ret (pe_ifExp (pt_truth (pe_ix ix_list (pv 1) pe_int (fun _ _ => rfl)) (by intro _; rfl)) (pe_ix ix_list (pv 1) pe_int (fun _ _ => rfl)) (pe_ix ix_list (pv 1) pe_int (fun _ _ => rfl))))) pss_nil)
    (pss_cons (ps_asg (pv 1) (pg_lst rfl (pgs_cons (pg_name (i := 3) nd rfl (.inl rfl)) (pgs_cons (pg_name (i := 4) nd rfl (.inl rfl)) pgs_nil))))
    (pss_cons (ps_if (pt_cmpR op_in_seq (pv 0) (pe_tup (pa_cons pe_str (pa_cons pe_str (pa_cons pe_str pa_nil)))) rfl) 
      (pss_one (ps_ret (pe_ix ix_list (pe_lst (pa_cons (pe_op op_add (pv 3) (pv 4)) (pa_cons (pe_op op_sub (pv 3) (pv 4)) (pa_cons (pe_op op_mulB (pv 3) (pv 4)) pa_nil)))) (pe_bm PySem.F.plainAttrs_list PySem.F.slot_list_index PySem.F.type_list_index mt_index (pe_lst (pa_cons pe_str (pa_cons pe_str (pa_cons pe_str pa_nil)))) (pa_cons (pv 0) pa_nil)) (fun _ _ => rfl)))) pss_nil)
    (pss_cons (ps_if (pt_cmpR op_in_seq (pv 0) (pe_tup (pa_cons pe_str (pa_cons pe_str pa_nil))) rfl) 
      (pss_one (ps_ret (pe_ifExp (pt_cmpR op_eq (pv 0) pe_str (nomark _)) (pe_callB (call_min2 rfl) (by rfl) T.B.min (by decide +kernel) (pa_cons (pv 3) (pa_cons (pv 4) pa_nil))) (pe_callB (call_max2 rfl) (by rfl) T.B.max (by decide +kernel) (pa_cons (pv 3) (pa_cons (pv 4) pa_nil)))))) pss_nil)
    (pss_cons (ps_if (pt_cmpR op_in_seq (pv 0) (pe_tup (pa_cons pe_str (pa_cons pe_str pa_nil))) rfl) 
      (pss_one (ps_ret (pe_ifExp (pt_cmpR op_eq (pv 0) pe_str (nomark _)) (pe_cmpR op_lt (pv 3) (pv 4) (nomark _)) (pe_cmpR op_eq (pv 3) (pv 4) (nomark _))))) pss_nil)
    (pss_one (ps_ret (pe_ifExp (pt_cmpR op_eq (pv 0) pe_str (nomark _)) (pe_and (pe_cmpR op_isBl (pv 3) pe_bl (nomark _)) (pe_one (pe_cmpR op_isBl (pv 4) pe_bl (nomark _)))) (pe_or (pe_cmpR op_isBl (pv 3) pe_bl (nomark _)) (pe_one (pe_cmpR op_isBl (pv 4) pe_bl (nomark _)))))))))))))))), ?_⟩
  cases m with
  | x v hx =>
    refine ⟨_, rfl, (by show 3 ≤ sizeLine; decide), fun p0 hp0 => ?_⟩
    have k1 := k0.then (Kp.new (o := .tup [.str "x", .str "y", .str "z"]) hp0)
    have l1 := (Kp.new (o := .tup [.str "x", .str "y", .str "z"]) hp0).lst0 l0
    refine ⟨p0, _, rfl, .inr (SqT.of upd_same), rfl, rfl, true, congrArg V.bl (by decide +kernel), iteT ?_⟩
    refine ⟨_, rfl, (by show 3 ≤ sizeLine; decide), fun pl hpl => ?_⟩
    have k2 := k1.then (Kp.new (o := .lst [.str "x", .str "y", .str "z"]) hpl)
    have l2 := (Kp.new (o := .lst [.str "x", .str "y", .str "z"]) hpl).lst0 l1
    exact ⟨.inl ⟨rfl, _, SqL.of upd_same⟩, _, rfl, pl, _, .str "x", 0, .str "x", rfl, rfl, SqL.of upd_same, rfl, rfl, rfl, (by decide +kernel), (nb_of (by decide +kernel)), wt, ws, _, _, rfl, rfl, SqT.of (k2.tup0 hw), at_of (j := 0) rfl hx, q _ k2⟩
  | y v hx =>
    refine ⟨_, rfl, (by show 3 ≤ sizeLine; decide), fun p0 hp0 => ?_⟩
    have k1 := k0.then (Kp.new (o := .tup [.str "x", .str "y", .str "z"]) hp0)
    have l1 := (Kp.new (o := .tup [.str "x", .str "y", .str "z"]) hp0).lst0 l0
    refine ⟨p0, _, rfl, .inr (SqT.of upd_same), rfl, rfl, true, congrArg V.bl (by decide +kernel), iteT ?_⟩
    refine ⟨_, rfl, (by show 3 ≤ sizeLine; decide), fun pl hpl => ?_⟩
    have k2 := k1.then (Kp.new (o := .lst [.str "x", .str "y", .str "z"]) hpl)
    have l2 := (Kp.new (o := .lst [.str "x", .str "y", .str "z"]) hpl).lst0 l1
    exact ⟨.inl ⟨rfl, _, SqL.of upd_same⟩, _, rfl, pl, _, .str "y", 1, .str "y", rfl, rfl, SqL.of upd_same, rfl, rfl, rfl, (by decide +kernel), (nb_of (by decide +kernel)), wt, ws, _, _, rfl, rfl, SqT.of (k2.tup0 hw), at_of (j := 1) rfl hx, q _ k2⟩
  | z v hx =>
    refine ⟨_, rfl, (by show 3 ≤ sizeLine; decide), fun p0 hp0 => ?_⟩
    have k1 := k0.then (Kp.new (o := .tup [.str "x", .str "y", .str "z"]) hp0)
    have l1 := (Kp.new (o := .tup [.str "x", .str "y", .str "z"]) hp0).lst0 l0
    refine ⟨p0, _, rfl, .inr (SqT.of upd_same), rfl, rfl, true, congrArg V.bl (by decide +kernel), iteT ?_⟩
    refine ⟨_, rfl, (by show 3 ≤ sizeLine; decide), fun pl hpl => ?_⟩
    have k2 := k1.then (Kp.new (o := .lst [.str "x", .str "y", .str "z"]) hpl)
    have l2 := (Kp.new (o := .lst [.str "x", .str "y", .str "z"]) hpl).lst0 l1
    exact ⟨.inl ⟨rfl, _, SqL.of upd_same⟩, _, rfl, pl, _, .str "z", 2, .str "z", rfl, rfl, SqL.of upd_same, rfl, rfl, rfl, (by decide +kernel), (nb_of (by decide +kernel)), wt, ws, _, _, rfl, rfl, SqT.of (k2.tup0 hw), at_of (j := 2) rfl hx, q _ k2⟩
  | n7 =>
    refine ⟨_, rfl, (by show 3 ≤ sizeLine; decide), fun p0 hp0 => ?_⟩
    have k1 := k0.then (Kp.new (o := .tup [.str "x", .str "y", .str "z"]) hp0)
    have l1 := (Kp.new (o := .tup [.str "x", .str "y", .str "z"]) hp0).lst0 l0
    refine ⟨p0, _, rfl, .inr (SqT.of upd_same), rfl, rfl, false, congrArg V.bl (by decide +kernel), iteF ?_⟩
    refine ⟨_, rfl, (by show 2 ≤ sizeLine; decide), fun p1 hp1 => ?_⟩
    have k2 := k1.then (Kp.new (o := .tup [.str "yes", .str "no"]) hp1)
    have l2 := (Kp.new (o := .tup [.str "yes", .str "no"]) hp1).lst0 l1
    refine ⟨p1, _, rfl, .inr (SqT.of upd_same), rfl, rfl, false, congrArg V.bl (by decide +kernel), iteF ?_⟩
    refine ⟨_, rfl, Nat.zero_le _, fun pe hpe => ?_⟩
    have k3 := k2.then (Kp.new (o := .lst []) hpe)
    have l3 := (Kp.new (o := .lst []) hpe).lst0 l2
    refine ⟨.list [], .list [], .lst (SqL.of l3) .nil, .lst (SqL.of upd_same) .nil, rfl, rfl, true, rfl, iteT ?_⟩
    exact ⟨_, rfl, _, _, rfl, (by decide +kernel), (by decide +kernel), q _ k3⟩
  | n2 =>
    refine ⟨_, rfl, (by show 3 ≤ sizeLine; decide), fun p0 hp0 => ?_⟩
    have k1 := k0.then (Kp.new (o := .tup [.str "x", .str "y", .str "z"]) hp0)
    have l1 := (Kp.new (o := .tup [.str "x", .str "y", .str "z"]) hp0).lst0 l0
    refine ⟨p0, _, rfl, .inr (SqT.of upd_same), rfl, rfl, false, congrArg V.bl (by decide +kernel), iteF ?_⟩
    refine ⟨_, rfl, (by show 2 ≤ sizeLine; decide), fun p1 hp1 => ?_⟩
    have k2 := k1.then (Kp.new (o := .tup [.str "yes", .str "no"]) hp1)
    have l2 := (Kp.new (o := .tup [.str "yes", .str "no"]) hp1).lst0 l1
    refine ⟨p1, _, rfl, .inr (SqT.of upd_same), rfl, rfl, false, congrArg V.bl (by decide +kernel), iteF ?_⟩
    refine ⟨_, rfl, Nat.zero_le _, fun pe hpe => ?_⟩
    have k3 := k2.then (Kp.new (o := .lst []) hpe)
    have l3 := (Kp.new (o := .lst []) hpe).lst0 l2
    refine ⟨.list [], .list [], .lst (SqL.of l3) .nil, .lst (SqL.of upd_same) .nil, rfl, rfl, true, rfl, iteT ?_⟩
    exact ⟨_, rfl, _, _, rfl, (by decide +kernel), (by decide +kernel), q _ k3⟩
  | n0 =>
    refine ⟨_, rfl, (by show 3 ≤ sizeLine; decide), fun p0 hp0 => ?_⟩
    have k1 := k0.then (Kp.new (o := .tup [.str "x", .str "y", .str "z"]) hp0)
    have l1 := (Kp.new (o := .tup [.str "x", .str "y", .str "z"]) hp0).lst0 l0
    refine ⟨p0, _, rfl, .inr (SqT.of upd_same), rfl, rfl, false, congrArg V.bl (by decide +kernel), iteF ?_⟩
    refine ⟨_, rfl, (by show 2 ≤ sizeLine; decide), fun p1 hp1 => ?_⟩
    have k2 := k1.then (Kp.new (o := .tup [.str "yes", .str "no"]) hp1)
    have l2 := (Kp.new (o := .tup [.str "yes", .str "no"]) hp1).lst0 l1
    refine ⟨p1, _, rfl, .inr (SqT.of upd_same), rfl, rfl, false, congrArg V.bl (by decide +kernel), iteF ?_⟩
    refine ⟨_, rfl, Nat.zero_le _, fun pe hpe => ?_⟩
    have k3 := k2.then (Kp.new (o := .lst []) hpe)
    have l3 := (Kp.new (o := .lst []) hpe).lst0 l2
    refine ⟨.list [], .list [], .lst (SqL.of l3) .nil, .lst (SqL.of upd_same) .nil, rfl, rfl, true, rfl, iteT ?_⟩
    exact ⟨_, rfl, _, _, rfl, (by decide +kernel), (by decide +kernel), q _ k3⟩
  | ar _ _ _ ar =>
    cases ar with
    | add a b hm =>
      refine ⟨_, rfl, (by show 3 ≤ sizeLine; decide), fun p0 hp0 => ?_⟩
      have k1 := k0.then (Kp.new (o := .tup [.str "x", .str "y", .str "z"]) hp0)
      have l1 := (Kp.new (o := .tup [.str "x", .str "y", .str "z"]) hp0).lst0 l0
      refine ⟨p0, _, rfl, .inr (SqT.of upd_same), rfl, rfl, false, congrArg V.bl (by decide +kernel), iteF ?_⟩
      refine ⟨_, rfl, (by show 2 ≤ sizeLine; decide), fun p1 hp1 => ?_⟩
      have k2 := k1.then (Kp.new (o := .tup [.str "yes", .str "no"]) hp1)
      have l2 := (Kp.new (o := .tup [.str "yes", .str "no"]) hp1).lst0 l1
      refine ⟨p1, _, rfl, .inr (SqT.of upd_same), rfl, rfl, false, congrArg V.bl (by decide +kernel), iteF ?_⟩
      refine ⟨_, rfl, Nat.zero_le _, fun pe hpe => ?_⟩
      have k3 := k2.then (Kp.new (o := .lst []) hpe)
      have l3 := (Kp.new (o := .lst []) hpe).lst0 l2
      refine ⟨.list [.int a, .int b], .list [], .lst (SqL.of l3) (.cons (.int _) (.cons (.int _) .nil)), .lst (SqL.of upd_same) .nil, rfl, rfl, false, rfl, iteF ?_⟩
      refine ⟨_, rfl, (by show 2 ≤ sizeLine; decide), fun p3 hp3 => ?_⟩
      have k4 := k3.then (Kp.new (o := .tup [.str "neg", .str "not"]) hp3)
      have l4 := (Kp.new (o := .tup [.str "neg", .str "not"]) hp3).lst0 l3
      refine ⟨p3, _, rfl, .inr (SqT.of upd_same), rfl, rfl, false, congrArg V.bl (by decide +kernel), iteF ?_⟩
      refine ⟨_, rfl, rfl, false, congrArg V.bl (by decide +kernel), iteF ?_⟩
      refine ⟨_, rfl, l, _, rfl, SqL.of l4, rfl, _, _, rfl, _, _, rfl, rfl, ?_⟩
      refine ⟨_, rfl, (by show 3 ≤ sizeLine; decide), fun p4 hp4 => ?_⟩
      have k5 := k4.then (Kp.new (o := .tup [.str "add", .str "sub", .str "mul"]) hp4)
      have l5 := (Kp.new (o := .tup [.str "add", .str "sub", .str "mul"]) hp4).lst0 l4
      refine ⟨p4, _, rfl, .inr (SqT.of upd_same), rfl, rfl, true, congrArg V.bl (by decide +kernel), iteT ?_⟩
      refine ⟨_, rfl, _, rfl, _, _, rfl, rfl, _, rfl, _, rfl, _, _, rfl, rfl, _, rfl, _, rfl, _, _, rfl, rfl, hm, (by show 3 ≤ sizeLine; decide), fun pv hpv => ?_⟩
      have k6 := k5.then (Kp.new (o := .lst [.int (a + b), .int (a - b), .int (a * b)]) hpv)
      have l6 := (Kp.new (o := .lst [.int (a + b), .int (a - b), .int (a * b)]) hpv).lst0 l5
      refine ⟨(by show 3 ≤ sizeLine; decide), fun pl hpl => ?_⟩
      have k7 := k6.then (Kp.new (o := .lst [.str "add", .str "sub", .str "mul"]) hpl)
      have l7 := (Kp.new (o := .lst [.str "add", .str "sub", .str "mul"]) hpl).lst0 l6
      exact ⟨.inl ⟨rfl, _, SqL.of upd_same⟩, _, rfl, pl, _, .str "add", 0, .str "add", rfl, rfl, SqL.of upd_same, rfl, rfl, rfl, (by decide +kernel), (nb_of (by decide +kernel)), pv, _, _, _, rfl, rfl, SqL.of ((Kp.new hpl).lst0 upd_same), at_of (j := 0) rfl rfl, q _ k7⟩
    | sub a b hm =>
      refine ⟨_, rfl, (by show 3 ≤ sizeLine; decide), fun p0 hp0 => ?_⟩
      have k1 := k0.then (Kp.new (o := .tup [.str "x", .str "y", .str "z"]) hp0)
      have l1 := (Kp.new (o := .tup [.str "x", .str "y", .str "z"]) hp0).lst0 l0
      refine ⟨p0, _, rfl, .inr (SqT.of upd_same), rfl, rfl, false, congrArg V.bl (by decide +kernel), iteF ?_⟩
      refine ⟨_, rfl, (by show 2 ≤ sizeLine; decide), fun p1 hp1 => ?_⟩
      have k2 := k1.then (Kp.new (o := .tup [.str "yes", .str "no"]) hp1)
      have l2 := (Kp.new (o := .tup [.str "yes", .str "no"]) hp1).lst0 l1
      refine ⟨p1, _, rfl, .inr (SqT.of upd_same), rfl, rfl, false, congrArg V.bl (by decide +kernel), iteF ?_⟩
      refine ⟨_, rfl, Nat.zero_le _, fun pe hpe => ?_⟩
      have k3 := k2.then (Kp.new (o := .lst []) hpe)
      have l3 := (Kp.new (o := .lst []) hpe).lst0 l2
      refine ⟨.list [.int a, .int b], .list [], .lst (SqL.of l3) (.cons (.int _) (.cons (.int _) .nil)), .lst (SqL.of upd_same) .nil, rfl, rfl, false, rfl, iteF ?_⟩
      refine ⟨_, rfl, (by show 2 ≤ sizeLine; decide), fun p3 hp3 => ?_⟩
      have k4 := k3.then (Kp.new (o := .tup [.str "neg", .str "not"]) hp3)
      have l4 := (Kp.new (o := .tup [.str "neg", .str "not"]) hp3).lst0 l3
      refine ⟨p3, _, rfl, .inr (SqT.of upd_same), rfl, rfl, false, congrArg V.bl (by decide +kernel), iteF ?_⟩
      refine ⟨_, rfl, rfl, false, congrArg V.bl (by decide +kernel), iteF ?_⟩
      refine ⟨_, rfl, l, _, rfl, SqL.of l4, rfl, _, _, rfl, _, _, rfl, rfl, ?_⟩
      refine ⟨_, rfl, (by show 3 ≤ sizeLine; decide), fun p4 hp4 => ?_⟩
      have k5 := k4.then (Kp.new (o := .tup [.str "add", .str "sub", .str "mul"]) hp4)
      have l5 := (Kp.new (o := .tup [.str "add", .str "sub", .str "mul"]) hp4).lst0 l4
      refine ⟨p4, _, rfl, .inr (SqT.of upd_same), rfl, rfl, true, congrArg V.bl (by decide +kernel), iteT ?_⟩
      refine ⟨_, rfl, _, rfl, _, _, rfl, rfl, _, rfl, _, rfl, _, _, rfl, rfl, _, rfl, _, rfl, _, _, rfl, rfl, hm, (by show 3 ≤ sizeLine; decide), fun pv hpv => ?_⟩
      have k6 := k5.then (Kp.new (o := .lst [.int (a + b), .int (a - b), .int (a * b)]) hpv)
      have l6 := (Kp.new (o := .lst [.int (a + b), .int (a - b), .int (a * b)]) hpv).lst0 l5
      refine ⟨(by show 3 ≤ sizeLine; decide), fun pl hpl => ?_⟩
      have k7 := k6.then (Kp.new (o := .lst [.str "add", .str "sub", .str "mul"]) hpl)
      have l7 := (Kp.new (o := .lst [.str "add", .str "sub", .str "mul"]) hpl).lst0 l6
      exact ⟨.inl ⟨rfl, _, SqL.of upd_same⟩, _, rfl, pl, _, .str "sub", 1, .str "sub", rfl, rfl, SqL.of upd_same, rfl, rfl, rfl, (by decide +kernel), (nb_of (by decide +kernel)), pv, _, _, _, rfl, rfl, SqL.of ((Kp.new hpl).lst0 upd_same), at_of (j := 1) rfl rfl, q _ k7⟩
    | mul a b hm =>
      refine ⟨_, rfl, (by show 3 ≤ sizeLine; decide), fun p0 hp0 => ?_⟩
      have k1 := k0.then (Kp.new (o := .tup [.str "x", .str "y", .str "z"]) hp0)
      have l1 := (Kp.new (o := .tup [.str "x", .str "y", .str "z"]) hp0).lst0 l0
      refine ⟨p0, _, rfl, .inr (SqT.of upd_same), rfl, rfl, false, congrArg V.bl (by decide +kernel), iteF ?_⟩
      refine ⟨_, rfl, (by show 2 ≤ sizeLine; decide), fun p1 hp1 => ?_⟩
      have k2 := k1.then (Kp.new (o := .tup [.str "yes", .str "no"]) hp1)
      have l2 := (Kp.new (o := .tup [.str "yes", .str "no"]) hp1).lst0 l1
      refine ⟨p1, _, rfl, .inr (SqT.of upd_same), rfl, rfl, false, congrArg V.bl (by decide +kernel), iteF ?_⟩
      refine ⟨_, rfl, Nat.zero_le _, fun pe hpe => ?_⟩
      have k3 := k2.then (Kp.new (o := .lst []) hpe)
      have l3 := (Kp.new (o := .lst []) hpe).lst0 l2
      refine ⟨.list [.int a, .int b], .list [], .lst (SqL.of l3) (.cons (.int _) (.cons (.int _) .nil)), .lst (SqL.of upd_same) .nil, rfl, rfl, false, rfl, iteF ?_⟩
      refine ⟨_, rfl, (by show 2 ≤ sizeLine; decide), fun p3 hp3 => ?_⟩
      have k4 := k3.then (Kp.new (o := .tup [.str "neg", .str "not"]) hp3)
      have l4 := (Kp.new (o := .tup [.str "neg", .str "not"]) hp3).lst0 l3
      refine ⟨p3, _, rfl, .inr (SqT.of upd_same), rfl, rfl, false, congrArg V.bl (by decide +kernel), iteF ?_⟩
      refine ⟨_, rfl, rfl, false, congrArg V.bl (by decide +kernel), iteF ?_⟩
      refine ⟨_, rfl, l, _, rfl, SqL.of l4, rfl, _, _, rfl, _, _, rfl, rfl, ?_⟩
      refine ⟨_, rfl, (by show 3 ≤ sizeLine; decide), fun p4 hp4 => ?_⟩
      have k5 := k4.then (Kp.new (o := .tup [.str "add", .str "sub", .str "mul"]) hp4)
      have l5 := (Kp.new (o := .tup [.str "add", .str "sub", .str "mul"]) hp4).lst0 l4
      refine ⟨p4, _, rfl, .inr (SqT.of upd_same), rfl, rfl, true, congrArg V.bl (by decide +kernel), iteT ?_⟩
      refine ⟨_, rfl, _, rfl, _, _, rfl, rfl, _, rfl, _, rfl, _, _, rfl, rfl, _, rfl, _, rfl, _, _, rfl, rfl, hm, (by show 3 ≤ sizeLine; decide), fun pv hpv => ?_⟩
      have k6 := k5.then (Kp.new (o := .lst [.int (a + b), .int (a - b), .int (a * b)]) hpv)
      have l6 := (Kp.new (o := .lst [.int (a + b), .int (a - b), .int (a * b)]) hpv).lst0 l5
      refine ⟨(by show 3 ≤ sizeLine; decide), fun pl hpl => ?_⟩
      have k7 := k6.then (Kp.new (o := .lst [.str "add", .str "sub", .str "mul"]) hpl)
      have l7 := (Kp.new (o := .lst [.str "add", .str "sub", .str "mul"]) hpl).lst0 l6
      exact ⟨.inl ⟨rfl, _, SqL.of upd_same⟩, _, rfl, pl, _, .str "mul", 2, .str "mul", rfl, rfl, SqL.of upd_same, rfl, rfl, rfl, (by decide +kernel), (nb_of (by decide +kernel)), pv, _, _, _, rfl, rfl, SqL.of ((Kp.new hpl).lst0 upd_same), at_of (j := 2) rfl rfl, q _ k7⟩
    | min a b =>
      refine ⟨_, rfl, (by show 3 ≤ sizeLine; decide), fun p0 hp0 => ?_⟩
      have k1 := k0.then (Kp.new (o := .tup [.str "x", .str "y", .str "z"]) hp0)
      have l1 := (Kp.new (o := .tup [.str "x", .str "y", .str "z"]) hp0).lst0 l0
      refine ⟨p0, _, rfl, .inr (SqT.of upd_same), rfl, rfl, false, congrArg V.bl (by decide +kernel), iteF ?_⟩
      refine ⟨_, rfl, (by show 2 ≤ sizeLine; decide), fun p1 hp1 => ?_⟩
      have k2 := k1.then (Kp.new (o := .tup [.str "yes", .str "no"]) hp1)
      have l2 := (Kp.new (o := .tup [.str "yes", .str "no"]) hp1).lst0 l1
      refine ⟨p1, _, rfl, .inr (SqT.of upd_same), rfl, rfl, false, congrArg V.bl (by decide +kernel), iteF ?_⟩
      refine ⟨_, rfl, Nat.zero_le _, fun pe hpe => ?_⟩
      have k3 := k2.then (Kp.new (o := .lst []) hpe)
      have l3 := (Kp.new (o := .lst []) hpe).lst0 l2
      refine ⟨.list [.int a, .int b], .list [], .lst (SqL.of l3) (.cons (.int _) (.cons (.int _) .nil)), .lst (SqL.of upd_same) .nil, rfl, rfl, false, rfl, iteF ?_⟩
      refine ⟨_, rfl, (by show 2 ≤ sizeLine; decide), fun p3 hp3 => ?_⟩
      have k4 := k3.then (Kp.new (o := .tup [.str "neg", .str "not"]) hp3)
      have l4 := (Kp.new (o := .tup [.str "neg", .str "not"]) hp3).lst0 l3
      refine ⟨p3, _, rfl, .inr (SqT.of upd_same), rfl, rfl, false, congrArg V.bl (by decide +kernel), iteF ?_⟩
      refine ⟨_, rfl, rfl, false, congrArg V.bl (by decide +kernel), iteF ?_⟩
      refine ⟨_, rfl, l, _, rfl, SqL.of l4, rfl, _, _, rfl, _, _, rfl, rfl, ?_⟩
      refine ⟨_, rfl, (by show 3 ≤ sizeLine; decide), fun p4 hp4 => ?_⟩
      have k5 := k4.then (Kp.new (o := .tup [.str "add", .str "sub", .str "mul"]) hp4)
      have l5 := (Kp.new (o := .tup [.str "add", .str "sub", .str "mul"]) hp4).lst0 l4
      refine ⟨p4, _, rfl, .inr (SqT.of upd_same), rfl, rfl, false, congrArg V.bl (by decide +kernel), iteF ?_⟩
      refine ⟨_, rfl, (by show 2 ≤ sizeLine; decide), fun p5 hp5 => ?_⟩
      have k6 := k5.then (Kp.new (o := .tup [.str "min", .str "max"]) hp5)
      have l6 := (Kp.new (o := .tup [.str "min", .str "max"]) hp5).lst0 l5
      refine ⟨p5, _, rfl, .inr (SqT.of upd_same), rfl, rfl, true, congrArg V.bl (by decide +kernel), iteT ?_⟩
      refine ⟨_, rfl, rfl, true, congrArg V.bl (by decide +kernel), iteT ?_⟩
      exact ⟨_, rfl, _, rfl, _, _, rfl, q _ k6⟩
    | less a b =>
      refine ⟨_, rfl, (by show 3 ≤ sizeLine; decide), fun p0 hp0 => ?_⟩
      have k1 := k0.then (Kp.new (o := .tup [.str "x", .str "y", .str "z"]) hp0)
      have l1 := (Kp.new (o := .tup [.str "x", .str "y", .str "z"]) hp0).lst0 l0
      refine ⟨p0, _, rfl, .inr (SqT.of upd_same), rfl, rfl, false, congrArg V.bl (by decide +kernel), iteF ?_⟩
      refine ⟨_, rfl, (by show 2 ≤ sizeLine; decide), fun p1 hp1 => ?_⟩
      have k2 := k1.then (Kp.new (o := .tup [.str "yes", .str "no"]) hp1)
      have l2 := (Kp.new (o := .tup [.str "yes", .str "no"]) hp1).lst0 l1
      refine ⟨p1, _, rfl, .inr (SqT.of upd_same), rfl, rfl, false, congrArg V.bl (by decide +kernel), iteF ?_⟩
      refine ⟨_, rfl, Nat.zero_le _, fun pe hpe => ?_⟩
      have k3 := k2.then (Kp.new (o := .lst []) hpe)
      have l3 := (Kp.new (o := .lst []) hpe).lst0 l2
      refine ⟨.list [.int a, .int b], .list [], .lst (SqL.of l3) (.cons (.int _) (.cons (.int _) .nil)), .lst (SqL.of upd_same) .nil, rfl, rfl, false, rfl, iteF ?_⟩
      refine ⟨_, rfl, (by show 2 ≤ sizeLine; decide), fun p3 hp3 => ?_⟩
      have k4 := k3.then (Kp.new (o := .tup [.str "neg", .str "not"]) hp3)
      have l4 := (Kp.new (o := .tup [.str "neg", .str "not"]) hp3).lst0 l3
      refine ⟨p3, _, rfl, .inr (SqT.of upd_same), rfl, rfl, false, congrArg V.bl (by decide +kernel), iteF ?_⟩
      refine ⟨_, rfl, rfl, false, congrArg V.bl (by decide +kernel), iteF ?_⟩
      refine ⟨_, rfl, l, _, rfl, SqL.of l4, rfl, _, _, rfl, _, _, rfl, rfl, ?_⟩
      refine ⟨_, rfl, (by show 3 ≤ sizeLine; decide), fun p4 hp4 => ?_⟩
      have k5 := k4.then (Kp.new (o := .tup [.str "add", .str "sub", .str "mul"]) hp4)
      have l5 := (Kp.new (o := .tup [.str "add", .str "sub", .str "mul"]) hp4).lst0 l4
      refine ⟨p4, _, rfl, .inr (SqT.of upd_same), rfl, rfl, false, congrArg V.bl (by decide +kernel), iteF ?_⟩
      refine ⟨_, rfl, (by show 2 ≤ sizeLine; decide), fun p5 hp5 => ?_⟩
      have k6 := k5.then (Kp.new (o := .tup [.str "min", .str "max"]) hp5)
      have l6 := (Kp.new (o := .tup [.str "min", .str "max"]) hp5).lst0 l5
      refine ⟨p5, _, rfl, .inr (SqT.of upd_same), rfl, rfl, false, congrArg V.bl (by decide +kernel), iteF ?_⟩
      refine ⟨_, rfl, (by show 2 ≤ sizeLine; decide), fun p6 hp6 => ?_⟩
      have k7 := k6.then (Kp.new (o := .tup [.str "less", .str "alike"]) hp6)
      have l7 := (Kp.new (o := .tup [.str "less", .str "alike"]) hp6).lst0 l6
      refine ⟨p6, _, rfl, .inr (SqT.of upd_same), rfl, rfl, true, congrArg V.bl (by decide +kernel), iteT ?_⟩
      refine ⟨_, rfl, rfl, true, congrArg V.bl (by decide +kernel), iteT ?_⟩
      exact ⟨_, rfl, _, rfl, _, _, rfl, rfl, q _ k7⟩
    | alike a b =>
      refine ⟨_, rfl, (by show 3 ≤ sizeLine; decide), fun p0 hp0 => ?_⟩
      have k1 := k0.then (Kp.new (o := .tup [.str "x", .str "y", .str "z"]) hp0)
      have l1 := (Kp.new (o := .tup [.str "x", .str "y", .str "z"]) hp0).lst0 l0
      refine ⟨p0, _, rfl, .inr (SqT.of upd_same), rfl, rfl, false, congrArg V.bl (by decide +kernel), iteF ?_⟩
      refine ⟨_, rfl, (by show 2 ≤ sizeLine; decide), fun p1 hp1 => ?_⟩
      have k2 := k1.then (Kp.new (o := .tup [.str "yes", .str "no"]) hp1)
      have l2 := (Kp.new (o := .tup [.str "yes", .str "no"]) hp1).lst0 l1
      refine ⟨p1, _, rfl, .inr (SqT.of upd_same), rfl, rfl, false, congrArg V.bl (by decide +kernel), iteF ?_⟩
      refine ⟨_, rfl, Nat.zero_le _, fun pe hpe => ?_⟩
      have k3 := k2.then (Kp.new (o := .lst []) hpe)
      have l3 := (Kp.new (o := .lst []) hpe).lst0 l2
      refine ⟨.list [.int a, .int b], .list [], .lst (SqL.of l3) (.cons (.int _) (.cons (.int _) .nil)), .lst (SqL.of upd_same) .nil, rfl, rfl, false, rfl, iteF ?_⟩
      refine ⟨_, rfl, (by show 2 ≤ sizeLine; decide), fun p3 hp3 => ?_⟩
      have k4 := k3.then (Kp.new (o := .tup [.str "neg", .str "not"]) hp3)
      have l4 := (Kp.new (o := .tup [.str "neg", .str "not"]) hp3).lst0 l3
      refine ⟨p3, _, rfl, .inr (SqT.of upd_same), rfl, rfl, false, congrArg V.bl (by decide +kernel), iteF ?_⟩
      refine ⟨_, rfl, rfl, false, congrArg V.bl (by decide +kernel), iteF ?_⟩
      refine ⟨_, rfl, l, _, rfl, SqL.of l4, rfl, _, _, rfl, _, _, rfl, rfl, ?_⟩
      refine ⟨_, rfl, (by show 3 ≤ sizeLine; decide), fun p4 hp4 => ?_⟩
      have k5 := k4.then (Kp.new (o := .tup [.str "add", .str "sub", .str "mul"]) hp4)
      have l5 := (Kp.new (o := .tup [.str "add", .str "sub", .str "mul"]) hp4).lst0 l4
      refine ⟨p4, _, rfl, .inr (SqT.of upd_same), rfl, rfl, false, congrArg V.bl (by decide +kernel), iteF ?_⟩
      refine ⟨_, rfl, (by show 2 ≤ sizeLine; decide), fun p5 hp5 => ?_⟩
      have k6 := k5.then (Kp.new (o := .tup [.str "min", .str "max"]) hp5)
      have l6 := (Kp.new (o := .tup [.str "min", .str "max"]) hp5).lst0 l5
      refine ⟨p5, _, rfl, .inr (SqT.of upd_same), rfl, rfl, false, congrArg V.bl (by decide +kernel), iteF ?_⟩
      refine ⟨_, rfl, (by show 2 ≤ sizeLine; decide), fun p6 hp6 => ?_⟩
      have k7 := k6.then (Kp.new (o := .tup [.str "less", .str "alike"]) hp6)
      have l7 := (Kp.new (o := .tup [.str "less", .str "alike"]) hp6).lst0 l6
      refine ⟨p6, _, rfl, .inr (SqT.of upd_same), rfl, rfl, true, congrArg V.bl (by decide +kernel), iteT ?_⟩
      refine ⟨_, rfl, rfl, false, congrArg V.bl (by decide +kernel), iteF ?_⟩
      refine ⟨_, rfl, _, rfl, rfl, ?_⟩
      rw [dec_ints]
      exact q _ k7
    | both a b =>
      refine ⟨_, rfl, (by show 3 ≤ sizeLine; decide), fun p0 hp0 => ?_⟩
      have k1 := k0.then (Kp.new (o := .tup [.str "x", .str "y", .str "z"]) hp0)
      have l1 := (Kp.new (o := .tup [.str "x", .str "y", .str "z"]) hp0).lst0 l0
      refine ⟨p0, _, rfl, .inr (SqT.of upd_same), rfl, rfl, false, congrArg V.bl (by decide +kernel), iteF ?_⟩
      refine ⟨_, rfl, (by show 2 ≤ sizeLine; decide), fun p1 hp1 => ?_⟩
      have k2 := k1.then (Kp.new (o := .tup [.str "yes", .str "no"]) hp1)
      have l2 := (Kp.new (o := .tup [.str "yes", .str "no"]) hp1).lst0 l1
      refine ⟨p1, _, rfl, .inr (SqT.of upd_same), rfl, rfl, false, congrArg V.bl (by decide +kernel), iteF ?_⟩
      refine ⟨_, rfl, Nat.zero_le _, fun pe hpe => ?_⟩
      have k3 := k2.then (Kp.new (o := .lst []) hpe)
      have l3 := (Kp.new (o := .lst []) hpe).lst0 l2
      refine ⟨.list [.bool a, .bool b], .list [], .lst (SqL.of l3) (.cons (.bl _) (.cons (.bl _) .nil)), .lst (SqL.of upd_same) .nil, rfl, rfl, false, rfl, iteF ?_⟩
      refine ⟨_, rfl, (by show 2 ≤ sizeLine; decide), fun p3 hp3 => ?_⟩
      have k4 := k3.then (Kp.new (o := .tup [.str "neg", .str "not"]) hp3)
      have l4 := (Kp.new (o := .tup [.str "neg", .str "not"]) hp3).lst0 l3
      refine ⟨p3, _, rfl, .inr (SqT.of upd_same), rfl, rfl, false, congrArg V.bl (by decide +kernel), iteF ?_⟩
      refine ⟨_, rfl, rfl, false, congrArg V.bl (by decide +kernel), iteF ?_⟩
      refine ⟨_, rfl, l, _, rfl, SqL.of l4, rfl, _, _, rfl, _, _, rfl, rfl, ?_⟩
      refine ⟨_, rfl, (by show 3 ≤ sizeLine; decide), fun p4 hp4 => ?_⟩
      have k5 := k4.then (Kp.new (o := .tup [.str "add", .str "sub", .str "mul"]) hp4)
      have l5 := (Kp.new (o := .tup [.str "add", .str "sub", .str "mul"]) hp4).lst0 l4
      refine ⟨p4, _, rfl, .inr (SqT.of upd_same), rfl, rfl, false, congrArg V.bl (by decide +kernel), iteF ?_⟩
      refine ⟨_, rfl, (by show 2 ≤ sizeLine; decide), fun p5 hp5 => ?_⟩
      have k6 := k5.then (Kp.new (o := .tup [.str "min", .str "max"]) hp5)
      have l6 := (Kp.new (o := .tup [.str "min", .str "max"]) hp5).lst0 l5
      refine ⟨p5, _, rfl, .inr (SqT.of upd_same), rfl, rfl, false, congrArg V.bl (by decide +kernel), iteF ?_⟩
      refine ⟨_, rfl, (by show 2 ≤ sizeLine; decide), fun p6 hp6 => ?_⟩
      have k7 := k6.then (Kp.new (o := .tup [.str "less", .str "alike"]) hp6)
      have l7 := (Kp.new (o := .tup [.str "less", .str "alike"]) hp6).lst0 l6
      refine ⟨p6, _, rfl, .inr (SqT.of upd_same), rfl, rfl, false, congrArg V.bl (by decide +kernel), iteF ?_⟩
      refine ⟨_, rfl, rfl, true, congrArg V.bl (by decide +kernel), iteT ?_⟩
      refine ⟨_, rfl, _, _, rfl, rfl, _, rfl, ?_⟩
      cases a with
      | false => exact iteF (q _ k7)
      | true =>
        refine iteT ⟨_, rfl, _, _, rfl, rfl, ?_⟩
        cases b with
        | false => exact q _ k7
        | true => exact q _ k7
    | neg a =>
      refine ⟨_, rfl, (by show 3 ≤ sizeLine; decide), fun p0 hp0 => ?_⟩
      have k1 := k0.then (Kp.new (o := .tup [.str "x", .str "y", .str "z"]) hp0)
      have l1 := (Kp.new (o := .tup [.str "x", .str "y", .str "z"]) hp0).lst0 l0
      refine ⟨p0, _, rfl, .inr (SqT.of upd_same), rfl, rfl, false, congrArg V.bl (by decide +kernel), iteF ?_⟩
      refine ⟨_, rfl, (by show 2 ≤ sizeLine; decide), fun p1 hp1 => ?_⟩
      have k2 := k1.then (Kp.new (o := .tup [.str "yes", .str "no"]) hp1)
      have l2 := (Kp.new (o := .tup [.str "yes", .str "no"]) hp1).lst0 l1
      refine ⟨p1, _, rfl, .inr (SqT.of upd_same), rfl, rfl, false, congrArg V.bl (by decide +kernel), iteF ?_⟩
      refine ⟨_, rfl, Nat.zero_le _, fun pe hpe => ?_⟩
      have k3 := k2.then (Kp.new (o := .lst []) hpe)
      have l3 := (Kp.new (o := .lst []) hpe).lst0 l2
      refine ⟨.list [.int a], .list [], .lst (SqL.of l3) (.cons (.int _) .nil), .lst (SqL.of upd_same) .nil, rfl, rfl, false, rfl, iteF ?_⟩
      refine ⟨_, rfl, (by show 2 ≤ sizeLine; decide), fun p3 hp3 => ?_⟩
      have k4 := k3.then (Kp.new (o := .tup [.str "neg", .str "not"]) hp3)
      have l4 := (Kp.new (o := .tup [.str "neg", .str "not"]) hp3).lst0 l3
      refine ⟨p3, _, rfl, .inr (SqT.of upd_same), rfl, rfl, true, congrArg V.bl (by decide +kernel), iteT ?_⟩
      refine ⟨_, rfl, rfl, true, congrArg V.bl (by decide +kernel), iteT ?_⟩
      exact ⟨_, rfl, l, _, _, _, rfl, rfl, SqL.of l4, at_of (j := 0) rfl rfl, _, rfl, q _ k4⟩
    | not a =>
      refine ⟨_, rfl, (by show 3 ≤ sizeLine; decide), fun p0 hp0 => ?_⟩
      have k1 := k0.then (Kp.new (o := .tup [.str "x", .str "y", .str "z"]) hp0)
      have l1 := (Kp.new (o := .tup [.str "x", .str "y", .str "z"]) hp0).lst0 l0
      refine ⟨p0, _, rfl, .inr (SqT.of upd_same), rfl, rfl, false, congrArg V.bl (by decide +kernel), iteF ?_⟩
      refine ⟨_, rfl, (by show 2 ≤ sizeLine; decide), fun p1 hp1 => ?_⟩
      have k2 := k1.then (Kp.new (o := .tup [.str "yes", .str "no"]) hp1)
      have l2 := (Kp.new (o := .tup [.str "yes", .str "no"]) hp1).lst0 l1
      refine ⟨p1, _, rfl, .inr (SqT.of upd_same), rfl, rfl, false, congrArg V.bl (by decide +kernel), iteF ?_⟩
      refine ⟨_, rfl, Nat.zero_le _, fun pe hpe => ?_⟩
      have k3 := k2.then (Kp.new (o := .lst []) hpe)
      have l3 := (Kp.new (o := .lst []) hpe).lst0 l2
      refine ⟨.list [.bool a], .list [], .lst (SqL.of l3) (.cons (.bl _) .nil), .lst (SqL.of upd_same) .nil, rfl, rfl, false, rfl, iteF ?_⟩
      refine ⟨_, rfl, (by show 2 ≤ sizeLine; decide), fun p3 hp3 => ?_⟩
      have k4 := k3.then (Kp.new (o := .tup [.str "neg", .str "not"]) hp3)
      have l4 := (Kp.new (o := .tup [.str "neg", .str "not"]) hp3).lst0 l3
      refine ⟨p3, _, rfl, .inr (SqT.of upd_same), rfl, rfl, true, congrArg V.bl (by decide +kernel), iteT ?_⟩
      refine ⟨_, rfl, rfl, false, congrArg V.bl (by decide +kernel), iteF ?_⟩
      exact ⟨_, rfl, l, _, _, _, rfl, rfl, SqL.of l4, at_of (j := 0) rfl rfl, _, rfl, q _ k4⟩
    | pick a b c =>
      refine ⟨_, rfl, (by show 3 ≤ sizeLine; decide), fun p0 hp0 => ?_⟩
      have k1 := k0.then (Kp.new (o := .tup [.str "x", .str "y", .str "z"]) hp0)
      have l1 := (Kp.new (o := .tup [.str "x", .str "y", .str "z"]) hp0).lst0 l0
      refine ⟨p0, _, rfl, .inr (SqT.of upd_same), rfl, rfl, false, congrArg V.bl (by decide +kernel), iteF ?_⟩
      refine ⟨_, rfl, (by show 2 ≤ sizeLine; decide), fun p1 hp1 => ?_⟩
      have k2 := k1.then (Kp.new (o := .tup [.str "yes", .str "no"]) hp1)
      have l2 := (Kp.new (o := .tup [.str "yes", .str "no"]) hp1).lst0 l1
      refine ⟨p1, _, rfl, .inr (SqT.of upd_same), rfl, rfl, false, congrArg V.bl (by decide +kernel), iteF ?_⟩
      refine ⟨_, rfl, Nat.zero_le _, fun pe hpe => ?_⟩
      have k3 := k2.then (Kp.new (o := .lst []) hpe)
      have l3 := (Kp.new (o := .lst []) hpe).lst0 l2
      refine ⟨.list [.bool a, .int b, .int c], .list [], .lst (SqL.of l3) (.cons (.bl _) (.cons (.int _) (.cons (.int _) .nil))), .lst (SqL.of upd_same) .nil, rfl, rfl, false, rfl, iteF ?_⟩
      refine ⟨_, rfl, (by show 2 ≤ sizeLine; decide), fun p3 hp3 => ?_⟩
      have k4 := k3.then (Kp.new (o := .tup [.str "neg", .str "not"]) hp3)
      have l4 := (Kp.new (o := .tup [.str "neg", .str "not"]) hp3).lst0 l3
      refine ⟨p3, _, rfl, .inr (SqT.of upd_same), rfl, rfl, false, congrArg V.bl (by decide +kernel), iteF ?_⟩
      refine ⟨_, rfl, rfl, true, congrArg V.bl (by decide +kernel), iteT ?_⟩
      refine ⟨_, rfl, l, _, _, _, rfl, rfl, SqL.of l4, at_of (j := 0) rfl rfl, a, rfl, ?_⟩
      cases a with
      | false => exact ⟨_, rfl, l, _, _, _, rfl, rfl, SqL.of l4, at_of (j := 2) rfl rfl, q _ k4⟩
      | true => exact ⟨_, rfl, l, _, _, _, rfl, rfl, SqL.of l4, at_of (j := 1) rfl rfl, q _ k4⟩
    | yes =>
      refine ⟨_, rfl, (by show 3 ≤ sizeLine; decide), fun p0 hp0 => ?_⟩
      have k1 := k0.then (Kp.new (o := .tup [.str "x", .str "y", .str "z"]) hp0)
      have l1 := (Kp.new (o := .tup [.str "x", .str "y", .str "z"]) hp0).lst0 l0
      refine ⟨p0, _, rfl, .inr (SqT.of upd_same), rfl, rfl, false, congrArg V.bl (by decide +kernel), iteF ?_⟩
      refine ⟨_, rfl, (by show 2 ≤ sizeLine; decide), fun p1 hp1 => ?_⟩
      have k2 := k1.then (Kp.new (o := .tup [.str "yes", .str "no"]) hp1)
      have l2 := (Kp.new (o := .tup [.str "yes", .str "no"]) hp1).lst0 l1
      refine ⟨p1, _, rfl, .inr (SqT.of upd_same), rfl, rfl, true, congrArg V.bl (by decide +kernel), iteT ?_⟩
      refine ⟨_, rfl, rfl, ?_⟩
      rw [show decide (V.str "yes" = V.str "yes") = true from by decide +kernel]
      exact q _ k2
    | no =>
      refine ⟨_, rfl, (by show 3 ≤ sizeLine; decide), fun p0 hp0 => ?_⟩
      have k1 := k0.then (Kp.new (o := .tup [.str "x", .str "y", .str "z"]) hp0)
      have l1 := (Kp.new (o := .tup [.str "x", .str "y", .str "z"]) hp0).lst0 l0
      refine ⟨p0, _, rfl, .inr (SqT.of upd_same), rfl, rfl, false, congrArg V.bl (by decide +kernel), iteF ?_⟩
      refine ⟨_, rfl, (by show 2 ≤ sizeLine; decide), fun p1 hp1 => ?_⟩
      have k2 := k1.then (Kp.new (o := .tup [.str "yes", .str "no"]) hp1)
      have l2 := (Kp.new (o := .tup [.str "yes", .str "no"]) hp1).lst0 l1
      refine ⟨p1, _, rfl, .inr (SqT.of upd_same), rfl, rfl, true, congrArg V.bl (by decide +kernel), iteT ?_⟩
      refine ⟨_, rfl, rfl, ?_⟩
      rw [show decide (V.str "no" = V.str "yes") = false from by decide +kernel]
      exact q _ k2
end
end K48

set_option Elab.async false
set_option maxRecDepth 100000
set_option maxHeartbeats 4000000
namespace K48
open PySem L2
/-! ### instructions of any kind -/
def PrimV (x : V) : Prop := (∃ i, x = .int i) ∨ (∃ b, x = .bl b) ∨ x = .non ∨ ∃ s : Str, x = .str s ∧ PyData.strOk s = true
theorem PrimV.numb {x : V} (h : PrimV x) : Numb x := by
  rcases h with ⟨i, rfl⟩ | ⟨b, rfl⟩ | rfl | ⟨s, rfl, _⟩
  · exact .inl ⟨_, rfl⟩
  · exact .inr (.inl ⟨_, rfl⟩)
  · exact .inr (.inr (.inl rfl))
  · exact .inr (.inr (.inr ⟨_, rfl⟩))
def pdOf : V → PyData
  | .int i => .int i
  | .bl b => .bool b
  | .str s => .str s
  | _ => .none
theorem prim_dp {K : PySem.W.Frag} {H : Hp} {x : V} (h : PrimV x) : Dp K H x (pdOf x) ∧ PyData.canLay0 (pdOf x) = true ∧ PyData.depth (pdOf x) ≤ 1 := by
  rcases h with ⟨i, rfl⟩ | ⟨b, rfl⟩ | rfl | ⟨s, rfl, hs⟩
  · exact ⟨.int _, rfl, Nat.zero_le 1⟩
  · exact ⟨.bl _, rfl, Nat.zero_le 1⟩
  · exact ⟨.non, rfl, Nat.zero_le 1⟩
  · exact ⟨.str _, hs, Nat.zero_le 1⟩
theorem prims_dp {K : PySem.W.Frag} {H : Hp} : ∀ {xs : List V}, (∀ x ∈ xs, PrimV x) → DpAll K H xs (xs.map pdOf) ∧ PyData.canLayAll0 (xs.map pdOf) = true ∧ PyData.depthAll (xs.map pdOf) ≤ 1
  | [], _ => ⟨.nil, rfl, Nat.zero_le _⟩
  | x :: xs, h => by
    obtain ⟨a, b, c⟩ := prim_dp (K := K) (H := H) (h x List.mem_cons_self)
    obtain ⟨d, e, f⟩ := prims_dp (K := K) (H := H) (xs := xs) fun y hy => h y (List.mem_cons_of_mem _ hy)
    refine ⟨.cons a d, ?_, ?_⟩
    · show (PyData.canLay0 (pdOf x) && PyData.canLayAll0 (xs.map pdOf)) = true
      rw [b, e]
      rfl
    · show max (PyData.depth (pdOf x)) (PyData.depthAll (xs.map pdOf)) ≤ 1
      exact Nat.max_le.mpr ⟨c, f⟩
theorem tup_dp {K : PySem.W.Frag} {H : Hp} {a : Addr} {xs : List V} (ha : H a = some (.tup xs)) (h : ∀ x ∈ xs, PrimV x) : Dp K H (.ref a) (.tuple (xs.map pdOf)) ∧ SeqAt.shaped (.tuple (xs.map pdOf)) = true := by
  obtain ⟨d, e, f⟩ := prims_dp (K := K) (H := H) h
  refine ⟨.tup (SqT.of ha) d, ?_⟩
  show (PyData.canLayAll0 (xs.map pdOf) && decide (PyData.depthAll (xs.map pdOf) + 1 ≤ 64)) = true
  rw [e, decide_eq_true (by omega)]
  rfl
def slotB : List V → Bool
  | [x] => inR x 0 19
  | _ => false
def nameB : List V → Bool
  | [.str n] => (kindOf n).isSome
  | _ => false
def insT (xs : List V) : Bool := match xs with
  | .str s :: r =>
    if inV (.str s) [.str "swap", .str "drop"] = true then r.isEmpty
    else if inV (.str s) [.str "keep", .str "fetch"] = true then slotB r
    else if V.str s = V.str "do" then nameB r else false
  | _ => false
def InsV (H : Hp) (v : V) (b : Bool) : Prop :=
  (b = false ∧ (v = .non ∨ (∃ i, v = .int i) ∨ (∃ s, v = .str s) ∨ ∃ a xs, v = .ref a ∧ H a = some (.lst xs))) ∨
    ∃ a xs, v = .ref a ∧ H a = some (.tup xs) ∧ (∀ x ∈ xs, PrimV x) ∧ (∀ n, xs = [.str "do", .str n] → okN n = true) ∧ b = insT xs
theorem InsV.kp {H H' : Hp} {v : V} {b : Bool} (h : InsV H v b) (k : Kp H H' []) : InsV H' v b := by
  rcases h with ⟨e, h⟩ | ⟨a, xs, e, ha, r⟩
  · rcases h with h | h | h | ⟨a, xs, e2, ha⟩
    · exact .inl ⟨e, .inl h⟩
    · exact .inl ⟨e, .inr (.inl h)⟩
    · exact .inl ⟨e, .inr (.inr (.inl h))⟩
    · exact .inl ⟨e, .inr (.inr (.inr ⟨a, xs, e2, k.lst0 ha⟩))⟩
  · exact .inr ⟨a, xs, e, k.tup0 ha, r⟩
def spIns (Pn : Addr) : Sp := fun vs H Q _ => ∃ (v : V) (b : Bool), vs = [v] ∧ InsV H v b ∧ GxR.TabG H Pn ∧ ∀ H', Kp H H' [] → Q (.bl b) H'
def CodeV (H : Hp) (v : V) (b : Bool) : Prop :=
  (b = false ∧ (v = .non ∨ (∃ i, v = .int i) ∨ ∃ a xs, v = .ref a ∧ H a = some (.lst xs))) ∨
    ∃ a xs bs, v = .ref a ∧ H a = some (.tup xs) ∧ Paired (InsV H) xs bs ∧ b = (decide (xs.length ≤ 2000) && bs.all id)
def spCode (Pn Pc : Addr) : Sp := fun vs H Q _ => ∃ (v : V) (b : Bool), vs = [v] ∧ CodeV H v b ∧ GxR.TabG H Pn ∧ GxR.TabG H Pc ∧ ∀ H', Kp H H' [] → Q (.bl b) H'
structure Sets (K : PySem.W.Frag) (mg : Str → Option Value) (SA SL : Addr) : Prop where
  gA : mg "ALONE" = some (.ref SA)
  tA : ∀ H, SqT K H SA [.str "swap", .str "drop"]
  gL : mg "SLOTTED" = some (.ref SL)
  tL : ∀ H, SqT K H SL [.str "keep", .str "fetch"]
/-- a kind as the law's own def tells it -/
def LKAt (H : Hp) (v : V) (r : List Str × Str) : Prop := ∃ p q, v = .ref p ∧ H p = some (.tup [.ref q, .str r.2]) ∧ H q = some (.lst (r.1.map V.str))
def n18 : List Str := ["x", "y", "z", "7", "-2", "0", "yes", "no", "add", "sub", "mul", "min", "less", "alike", "both", "not", "neg", "pick"]
def spLK : Sp := fun vs H Q _ => ∃ (n : Str), vs = [.str n] ∧ n ∈ n18 ∧ ∀ r v H', kindOf n = some r → Kp H H' [] → LKAt H' v r → Q v H'
section
variable {P : Program} {w : World} {K : PySem.W.Frag} {mg : Str → Option Value} {base : Heap}
theorem sc__law_kind : FnScope ["name"] ["name"] (defScope s__law_kind) := ⟨rfl, rfl, rfl, by decide +kernel, rfl, by decide +kernel, by decide +kernel⟩
theorem ok_lkind {f : Addr} {fd : FuncData} (F : Fun K "_law_kind" "_law_kind" s__law_kind f fd) (T : Txt0 mg) : FnOk P w K mg base CX0 1 f fd ["name"] spLK := by
  refine F.ok sc__law_kind (fun vs H Q E h => ?_) (fun cdv A outer s H vs Q E hr h => ?_)
  · obtain ⟨n, rfl, _⟩ := h
    rfl
  obtain ⟨n, rfl, hn, q⟩ := h
  have nd := sc__law_kind.nd
  have k0 : Kp H H [] := Kp.refl H
  refine ⟨_, (pss_cons (ps_if (pt_cmpR op_in_seq (pv 0) (pe_tup (pa_cons pe_str (pa_cons pe_str (pa_cons pe_str (pa_cons pe_str (pa_cons pe_str pa_nil)))))) rfl) 
      (pss_one (ps_ret (pe_tup (pa_cons (pe_lst (pa_cons pe_str (pa_cons pe_str pa_nil))) (pa_cons pe_str pa_nil))))) pss_nil)
    (pss_cons (ps_if (pt_cmpR op_in_seq (pv 0) (pe_tup (pa_cons pe_str (pa_cons pe_str pa_nil))) rfl) 
      (pss_one (ps_ret (pe_tup (pa_cons (pe_lst (pa_cons pe_str (pa_cons pe_str pa_nil))) (pa_cons pe_str pa_nil))))) pss_nil)
    (pss_cons (ps_if (pt_cmpR op_in_seq (pv 0) (pe_tup (pa_cons pe_str (pa_cons pe_str pa_nil))) rfl) 
      (pss_one (ps_ret (pe_tup (pa_cons (pe_lst (pa_cons pe_str (pa_cons pe_str pa_nil))) (pa_cons pe_str pa_nil))))) pss_nil)
    (pss_cons (ps_if (pt_cmpR op_eq (pv 0) pe_str (nomark _)) 
      (pss_one (ps_ret (pe_tup (pa_cons (pe_lst (pa_cons pe_str (pa_cons pe_str (pa_cons pe_str pa_nil)))) (pa_cons pe_str pa_nil))))) pss_nil)
    (pss_cons (ps_if (pt_cmpR op_in_seq (pv 0) (pe_tup (pa_cons pe_str (pa_cons pe_str pa_nil))) rfl) 
      (pss_one (ps_ret (pe_tup (pa_cons (pe_ix ix_list (pe_lst (pa_cons (pe_lst (pa_cons pe_str pa_nil)) (pa_cons (pe_lst (pa_cons pe_str pa_nil)) pa_nil))) (pe_bm PySem.F.plainAttrs_list PySem.F.slot_list_index PySem.F.type_list_index mt_index (pe_lst (pa_cons pe_str (pa_cons pe_str pa_nil))) (pa_cons (pv 0) pa_nil)) (fun _ _ => rfl)) (pa_cons (pe_ix ix_list (pe_lst (pa_cons pe_str (pa_cons pe_str pa_nil))) (pe_bm PySem.F.plainAttrs_list PySem.F.slot_list_index PySem.F.type_list_index mt_index (pe_lst (pa_cons pe_str (pa_cons pe_str pa_nil))) (pa_cons (pv 0) pa_nil)) (fun _ _ => rfl)) pa_nil))))) pss_nil)
    (pss_one (ps_ret (pe_tup (pa_cons (pe_lst pa_nil) (pa_cons (pe_ifExp (pt_cmpR op_in_seq (pv 0) (pe_tup (pa_cons pe_str (pa_cons pe_str pa_nil))) rfl) pe_str pe_str) pa_nil)))))))))), ?_⟩
  simp only [n18, List.mem_cons, List.not_mem_nil, or_false] at hn
  rcases hn with rfl | rfl | rfl | rfl | rfl | rfl | rfl | rfl | rfl | rfl | rfl | rfl | rfl | rfl | rfl | rfl | rfl | rfl
  · -- x
    refine ⟨_, rfl, (by show 5 ≤ sizeLine; decide), fun p0 hp0 => ?_⟩
    have k1 := k0.then (Kp.new (o := .tup [.str "add", .str "sub", .str "mul", .str "min", .str "max"]) hp0)
    refine ⟨p0, _, rfl, .inr (SqT.of upd_same), rfl, rfl, false, congrArg V.bl (by decide +kernel), iteF ?_⟩
    refine ⟨_, rfl, (by show 2 ≤ sizeLine; decide), fun p1 hp1 => ?_⟩
    have k2 := k1.then (Kp.new (o := .tup [.str "less", .str "alike"]) hp1)
    refine ⟨p1, _, rfl, .inr (SqT.of upd_same), rfl, rfl, false, congrArg V.bl (by decide +kernel), iteF ?_⟩
    refine ⟨_, rfl, (by show 2 ≤ sizeLine; decide), fun p2 hp2 => ?_⟩
    have k3 := k2.then (Kp.new (o := .tup [.str "both", .str "any"]) hp2)
    refine ⟨p2, _, rfl, .inr (SqT.of upd_same), rfl, rfl, false, congrArg V.bl (by decide +kernel), iteF ?_⟩
    refine ⟨_, rfl, rfl, false, congrArg V.bl (by decide +kernel), iteF ?_⟩
    refine ⟨_, rfl, (by show 2 ≤ sizeLine; decide), fun p3 hp3 => ?_⟩
    have k4 := k3.then (Kp.new (o := .tup [.str "neg", .str "not"]) hp3)
    refine ⟨p3, _, rfl, .inr (SqT.of upd_same), rfl, rfl, false, congrArg V.bl (by decide +kernel), iteF ?_⟩
    refine ⟨Nat.zero_le _, fun pq hpq => ?_⟩
    have k5 := k4.then (Kp.new (o := .lst []) hpq)
    refine ⟨_, rfl, (by show 2 ≤ sizeLine; decide), fun p5 hp5 => ?_⟩
    have k6 := k5.then (Kp.new (o := .tup [.str "yes", .str "no"]) hp5)
    refine ⟨p5, _, rfl, .inr (SqT.of upd_same), rfl, rfl, false, congrArg V.bl (by decide +kernel), iteF ?_⟩
    refine ⟨(by show 2 ≤ sizeLine; decide), fun pp hpp => ?_⟩
    exact q (([], "num") : List Str × Str) _ _ (by decide +kernel) (k6.then (Kp.new hpp)) ⟨pp, pq, rfl, upd_same, (Kp.new hpp).lst0 ((Kp.new hp5).lst0 upd_same)⟩
  · -- y
    refine ⟨_, rfl, (by show 5 ≤ sizeLine; decide), fun p0 hp0 => ?_⟩
    have k1 := k0.then (Kp.new (o := .tup [.str "add", .str "sub", .str "mul", .str "min", .str "max"]) hp0)
    refine ⟨p0, _, rfl, .inr (SqT.of upd_same), rfl, rfl, false, congrArg V.bl (by decide +kernel), iteF ?_⟩
    refine ⟨_, rfl, (by show 2 ≤ sizeLine; decide), fun p1 hp1 => ?_⟩
    have k2 := k1.then (Kp.new (o := .tup [.str "less", .str "alike"]) hp1)
    refine ⟨p1, _, rfl, .inr (SqT.of upd_same), rfl, rfl, false, congrArg V.bl (by decide +kernel), iteF ?_⟩
    refine ⟨_, rfl, (by show 2 ≤ sizeLine; decide), fun p2 hp2 => ?_⟩
    have k3 := k2.then (Kp.new (o := .tup [.str "both", .str "any"]) hp2)
    refine ⟨p2, _, rfl, .inr (SqT.of upd_same), rfl, rfl, false, congrArg V.bl (by decide +kernel), iteF ?_⟩
    refine ⟨_, rfl, rfl, false, congrArg V.bl (by decide +kernel), iteF ?_⟩
    refine ⟨_, rfl, (by show 2 ≤ sizeLine; decide), fun p3 hp3 => ?_⟩
    have k4 := k3.then (Kp.new (o := .tup [.str "neg", .str "not"]) hp3)
    refine ⟨p3, _, rfl, .inr (SqT.of upd_same), rfl, rfl, false, congrArg V.bl (by decide +kernel), iteF ?_⟩
    refine ⟨Nat.zero_le _, fun pq hpq => ?_⟩
    have k5 := k4.then (Kp.new (o := .lst []) hpq)
    refine ⟨_, rfl, (by show 2 ≤ sizeLine; decide), fun p5 hp5 => ?_⟩
    have k6 := k5.then (Kp.new (o := .tup [.str "yes", .str "no"]) hp5)
    refine ⟨p5, _, rfl, .inr (SqT.of upd_same), rfl, rfl, false, congrArg V.bl (by decide +kernel), iteF ?_⟩
    refine ⟨(by show 2 ≤ sizeLine; decide), fun pp hpp => ?_⟩
    exact q (([], "num") : List Str × Str) _ _ (by decide +kernel) (k6.then (Kp.new hpp)) ⟨pp, pq, rfl, upd_same, (Kp.new hpp).lst0 ((Kp.new hp5).lst0 upd_same)⟩
  · -- z
    refine ⟨_, rfl, (by show 5 ≤ sizeLine; decide), fun p0 hp0 => ?_⟩
    have k1 := k0.then (Kp.new (o := .tup [.str "add", .str "sub", .str "mul", .str "min", .str "max"]) hp0)
    refine ⟨p0, _, rfl, .inr (SqT.of upd_same), rfl, rfl, false, congrArg V.bl (by decide +kernel), iteF ?_⟩
    refine ⟨_, rfl, (by show 2 ≤ sizeLine; decide), fun p1 hp1 => ?_⟩
    have k2 := k1.then (Kp.new (o := .tup [.str "less", .str "alike"]) hp1)
    refine ⟨p1, _, rfl, .inr (SqT.of upd_same), rfl, rfl, false, congrArg V.bl (by decide +kernel), iteF ?_⟩
    refine ⟨_, rfl, (by show 2 ≤ sizeLine; decide), fun p2 hp2 => ?_⟩
    have k3 := k2.then (Kp.new (o := .tup [.str "both", .str "any"]) hp2)
    refine ⟨p2, _, rfl, .inr (SqT.of upd_same), rfl, rfl, false, congrArg V.bl (by decide +kernel), iteF ?_⟩
    refine ⟨_, rfl, rfl, false, congrArg V.bl (by decide +kernel), iteF ?_⟩
    refine ⟨_, rfl, (by show 2 ≤ sizeLine; decide), fun p3 hp3 => ?_⟩
    have k4 := k3.then (Kp.new (o := .tup [.str "neg", .str "not"]) hp3)
    refine ⟨p3, _, rfl, .inr (SqT.of upd_same), rfl, rfl, false, congrArg V.bl (by decide +kernel), iteF ?_⟩
    refine ⟨Nat.zero_le _, fun pq hpq => ?_⟩
    have k5 := k4.then (Kp.new (o := .lst []) hpq)
    refine ⟨_, rfl, (by show 2 ≤ sizeLine; decide), fun p5 hp5 => ?_⟩
    have k6 := k5.then (Kp.new (o := .tup [.str "yes", .str "no"]) hp5)
    refine ⟨p5, _, rfl, .inr (SqT.of upd_same), rfl, rfl, false, congrArg V.bl (by decide +kernel), iteF ?_⟩
    refine ⟨(by show 2 ≤ sizeLine; decide), fun pp hpp => ?_⟩
    exact q (([], "num") : List Str × Str) _ _ (by decide +kernel) (k6.then (Kp.new hpp)) ⟨pp, pq, rfl, upd_same, (Kp.new hpp).lst0 ((Kp.new hp5).lst0 upd_same)⟩
  · -- 7
    refine ⟨_, rfl, (by show 5 ≤ sizeLine; decide), fun p0 hp0 => ?_⟩
    have k1 := k0.then (Kp.new (o := .tup [.str "add", .str "sub", .str "mul", .str "min", .str "max"]) hp0)
    refine ⟨p0, _, rfl, .inr (SqT.of upd_same), rfl, rfl, false, congrArg V.bl (by decide +kernel), iteF ?_⟩
    refine ⟨_, rfl, (by show 2 ≤ sizeLine; decide), fun p1 hp1 => ?_⟩
    have k2 := k1.then (Kp.new (o := .tup [.str "less", .str "alike"]) hp1)
    refine ⟨p1, _, rfl, .inr (SqT.of upd_same), rfl, rfl, false, congrArg V.bl (by decide +kernel), iteF ?_⟩
    refine ⟨_, rfl, (by show 2 ≤ sizeLine; decide), fun p2 hp2 => ?_⟩
    have k3 := k2.then (Kp.new (o := .tup [.str "both", .str "any"]) hp2)
    refine ⟨p2, _, rfl, .inr (SqT.of upd_same), rfl, rfl, false, congrArg V.bl (by decide +kernel), iteF ?_⟩
    refine ⟨_, rfl, rfl, false, congrArg V.bl (by decide +kernel), iteF ?_⟩
    refine ⟨_, rfl, (by show 2 ≤ sizeLine; decide), fun p3 hp3 => ?_⟩
    have k4 := k3.then (Kp.new (o := .tup [.str "neg", .str "not"]) hp3)
    refine ⟨p3, _, rfl, .inr (SqT.of upd_same), rfl, rfl, false, congrArg V.bl (by decide +kernel), iteF ?_⟩
    refine ⟨Nat.zero_le _, fun pq hpq => ?_⟩
    have k5 := k4.then (Kp.new (o := .lst []) hpq)
    refine ⟨_, rfl, (by show 2 ≤ sizeLine; decide), fun p5 hp5 => ?_⟩
    have k6 := k5.then (Kp.new (o := .tup [.str "yes", .str "no"]) hp5)
    refine ⟨p5, _, rfl, .inr (SqT.of upd_same), rfl, rfl, false, congrArg V.bl (by decide +kernel), iteF ?_⟩
    refine ⟨(by show 2 ≤ sizeLine; decide), fun pp hpp => ?_⟩
    exact q (([], "num") : List Str × Str) _ _ (by decide +kernel) (k6.then (Kp.new hpp)) ⟨pp, pq, rfl, upd_same, (Kp.new hpp).lst0 ((Kp.new hp5).lst0 upd_same)⟩
  · -- -2
    refine ⟨_, rfl, (by show 5 ≤ sizeLine; decide), fun p0 hp0 => ?_⟩
    have k1 := k0.then (Kp.new (o := .tup [.str "add", .str "sub", .str "mul", .str "min", .str "max"]) hp0)
    refine ⟨p0, _, rfl, .inr (SqT.of upd_same), rfl, rfl, false, congrArg V.bl (by decide +kernel), iteF ?_⟩
    refine ⟨_, rfl, (by show 2 ≤ sizeLine; decide), fun p1 hp1 => ?_⟩
    have k2 := k1.then (Kp.new (o := .tup [.str "less", .str "alike"]) hp1)
    refine ⟨p1, _, rfl, .inr (SqT.of upd_same), rfl, rfl, false, congrArg V.bl (by decide +kernel), iteF ?_⟩
    refine ⟨_, rfl, (by show 2 ≤ sizeLine; decide), fun p2 hp2 => ?_⟩
    have k3 := k2.then (Kp.new (o := .tup [.str "both", .str "any"]) hp2)
    refine ⟨p2, _, rfl, .inr (SqT.of upd_same), rfl, rfl, false, congrArg V.bl (by decide +kernel), iteF ?_⟩
    refine ⟨_, rfl, rfl, false, congrArg V.bl (by decide +kernel), iteF ?_⟩
    refine ⟨_, rfl, (by show 2 ≤ sizeLine; decide), fun p3 hp3 => ?_⟩
    have k4 := k3.then (Kp.new (o := .tup [.str "neg", .str "not"]) hp3)
    refine ⟨p3, _, rfl, .inr (SqT.of upd_same), rfl, rfl, false, congrArg V.bl (by decide +kernel), iteF ?_⟩
    refine ⟨Nat.zero_le _, fun pq hpq => ?_⟩
    have k5 := k4.then (Kp.new (o := .lst []) hpq)
    refine ⟨_, rfl, (by show 2 ≤ sizeLine; decide), fun p5 hp5 => ?_⟩
    have k6 := k5.then (Kp.new (o := .tup [.str "yes", .str "no"]) hp5)
    refine ⟨p5, _, rfl, .inr (SqT.of upd_same), rfl, rfl, false, congrArg V.bl (by decide +kernel), iteF ?_⟩
    refine ⟨(by show 2 ≤ sizeLine; decide), fun pp hpp => ?_⟩
    exact q (([], "num") : List Str × Str) _ _ (by decide +kernel) (k6.then (Kp.new hpp)) ⟨pp, pq, rfl, upd_same, (Kp.new hpp).lst0 ((Kp.new hp5).lst0 upd_same)⟩
  · -- 0
    refine ⟨_, rfl, (by show 5 ≤ sizeLine; decide), fun p0 hp0 => ?_⟩
    have k1 := k0.then (Kp.new (o := .tup [.str "add", .str "sub", .str "mul", .str "min", .str "max"]) hp0)
    refine ⟨p0, _, rfl, .inr (SqT.of upd_same), rfl, rfl, false, congrArg V.bl (by decide +kernel), iteF ?_⟩
    refine ⟨_, rfl, (by show 2 ≤ sizeLine; decide), fun p1 hp1 => ?_⟩
    have k2 := k1.then (Kp.new (o := .tup [.str "less", .str "alike"]) hp1)
    refine ⟨p1, _, rfl, .inr (SqT.of upd_same), rfl, rfl, false, congrArg V.bl (by decide +kernel), iteF ?_⟩
    refine ⟨_, rfl, (by show 2 ≤ sizeLine; decide), fun p2 hp2 => ?_⟩
    have k3 := k2.then (Kp.new (o := .tup [.str "both", .str "any"]) hp2)
    refine ⟨p2, _, rfl, .inr (SqT.of upd_same), rfl, rfl, false, congrArg V.bl (by decide +kernel), iteF ?_⟩
    refine ⟨_, rfl, rfl, false, congrArg V.bl (by decide +kernel), iteF ?_⟩
    refine ⟨_, rfl, (by show 2 ≤ sizeLine; decide), fun p3 hp3 => ?_⟩
    have k4 := k3.then (Kp.new (o := .tup [.str "neg", .str "not"]) hp3)
    refine ⟨p3, _, rfl, .inr (SqT.of upd_same), rfl, rfl, false, congrArg V.bl (by decide +kernel), iteF ?_⟩
    refine ⟨Nat.zero_le _, fun pq hpq => ?_⟩
    have k5 := k4.then (Kp.new (o := .lst []) hpq)
    refine ⟨_, rfl, (by show 2 ≤ sizeLine; decide), fun p5 hp5 => ?_⟩
    have k6 := k5.then (Kp.new (o := .tup [.str "yes", .str "no"]) hp5)
    refine ⟨p5, _, rfl, .inr (SqT.of upd_same), rfl, rfl, false, congrArg V.bl (by decide +kernel), iteF ?_⟩
    refine ⟨(by show 2 ≤ sizeLine; decide), fun pp hpp => ?_⟩
    exact q (([], "num") : List Str × Str) _ _ (by decide +kernel) (k6.then (Kp.new hpp)) ⟨pp, pq, rfl, upd_same, (Kp.new hpp).lst0 ((Kp.new hp5).lst0 upd_same)⟩
  · -- yes
    refine ⟨_, rfl, (by show 5 ≤ sizeLine; decide), fun p0 hp0 => ?_⟩
    have k1 := k0.then (Kp.new (o := .tup [.str "add", .str "sub", .str "mul", .str "min", .str "max"]) hp0)
    refine ⟨p0, _, rfl, .inr (SqT.of upd_same), rfl, rfl, false, congrArg V.bl (by decide +kernel), iteF ?_⟩
    refine ⟨_, rfl, (by show 2 ≤ sizeLine; decide), fun p1 hp1 => ?_⟩
    have k2 := k1.then (Kp.new (o := .tup [.str "less", .str "alike"]) hp1)
    refine ⟨p1, _, rfl, .inr (SqT.of upd_same), rfl, rfl, false, congrArg V.bl (by decide +kernel), iteF ?_⟩
    refine ⟨_, rfl, (by show 2 ≤ sizeLine; decide), fun p2 hp2 => ?_⟩
    have k3 := k2.then (Kp.new (o := .tup [.str "both", .str "any"]) hp2)
    refine ⟨p2, _, rfl, .inr (SqT.of upd_same), rfl, rfl, false, congrArg V.bl (by decide +kernel), iteF ?_⟩
    refine ⟨_, rfl, rfl, false, congrArg V.bl (by decide +kernel), iteF ?_⟩
    refine ⟨_, rfl, (by show 2 ≤ sizeLine; decide), fun p3 hp3 => ?_⟩
    have k4 := k3.then (Kp.new (o := .tup [.str "neg", .str "not"]) hp3)
    refine ⟨p3, _, rfl, .inr (SqT.of upd_same), rfl, rfl, false, congrArg V.bl (by decide +kernel), iteF ?_⟩
    refine ⟨Nat.zero_le _, fun pq hpq => ?_⟩
    have k5 := k4.then (Kp.new (o := .lst []) hpq)
    refine ⟨_, rfl, (by show 2 ≤ sizeLine; decide), fun p5 hp5 => ?_⟩
    have k6 := k5.then (Kp.new (o := .tup [.str "yes", .str "no"]) hp5)
    refine ⟨p5, _, rfl, .inr (SqT.of upd_same), rfl, rfl, true, congrArg V.bl (by decide +kernel), iteT ?_⟩
    refine ⟨(by show 2 ≤ sizeLine; decide), fun pp hpp => ?_⟩
    exact q (([], "truth") : List Str × Str) _ _ (by decide +kernel) (k6.then (Kp.new hpp)) ⟨pp, pq, rfl, upd_same, (Kp.new hpp).lst0 ((Kp.new hp5).lst0 upd_same)⟩
  · -- no
    refine ⟨_, rfl, (by show 5 ≤ sizeLine; decide), fun p0 hp0 => ?_⟩
    have k1 := k0.then (Kp.new (o := .tup [.str "add", .str "sub", .str "mul", .str "min", .str "max"]) hp0)
    refine ⟨p0, _, rfl, .inr (SqT.of upd_same), rfl, rfl, false, congrArg V.bl (by decide +kernel), iteF ?_⟩
    refine ⟨_, rfl, (by show 2 ≤ sizeLine; decide), fun p1 hp1 => ?_⟩
    have k2 := k1.then (Kp.new (o := .tup [.str "less", .str "alike"]) hp1)
    refine ⟨p1, _, rfl, .inr (SqT.of upd_same), rfl, rfl, false, congrArg V.bl (by decide +kernel), iteF ?_⟩
    refine ⟨_, rfl, (by show 2 ≤ sizeLine; decide), fun p2 hp2 => ?_⟩
    have k3 := k2.then (Kp.new (o := .tup [.str "both", .str "any"]) hp2)
    refine ⟨p2, _, rfl, .inr (SqT.of upd_same), rfl, rfl, false, congrArg V.bl (by decide +kernel), iteF ?_⟩
    refine ⟨_, rfl, rfl, false, congrArg V.bl (by decide +kernel), iteF ?_⟩
    refine ⟨_, rfl, (by show 2 ≤ sizeLine; decide), fun p3 hp3 => ?_⟩
    have k4 := k3.then (Kp.new (o := .tup [.str "neg", .str "not"]) hp3)
    refine ⟨p3, _, rfl, .inr (SqT.of upd_same), rfl, rfl, false, congrArg V.bl (by decide +kernel), iteF ?_⟩
    refine ⟨Nat.zero_le _, fun pq hpq => ?_⟩
    have k5 := k4.then (Kp.new (o := .lst []) hpq)
    refine ⟨_, rfl, (by show 2 ≤ sizeLine; decide), fun p5 hp5 => ?_⟩
    have k6 := k5.then (Kp.new (o := .tup [.str "yes", .str "no"]) hp5)
    refine ⟨p5, _, rfl, .inr (SqT.of upd_same), rfl, rfl, true, congrArg V.bl (by decide +kernel), iteT ?_⟩
    refine ⟨(by show 2 ≤ sizeLine; decide), fun pp hpp => ?_⟩
    exact q (([], "truth") : List Str × Str) _ _ (by decide +kernel) (k6.then (Kp.new hpp)) ⟨pp, pq, rfl, upd_same, (Kp.new hpp).lst0 ((Kp.new hp5).lst0 upd_same)⟩
  · -- add
    refine ⟨_, rfl, (by show 5 ≤ sizeLine; decide), fun p0 hp0 => ?_⟩
    have k1 := k0.then (Kp.new (o := .tup [.str "add", .str "sub", .str "mul", .str "min", .str "max"]) hp0)
    refine ⟨p0, _, rfl, .inr (SqT.of upd_same), rfl, rfl, true, congrArg V.bl (by decide +kernel), iteT ?_⟩
    refine ⟨(by show 2 ≤ sizeLine; decide), fun pq hpq => ?_⟩
    have k2 := k1.then (Kp.new (o := .lst [.str "num", .str "num"]) hpq)
    refine ⟨(by show 2 ≤ sizeLine; decide), fun pp hpp => ?_⟩
    exact q ((["num", "num"], "num") : List Str × Str) _ _ (by decide +kernel) (k2.then (Kp.new hpp)) ⟨pp, pq, rfl, upd_same, (Kp.new hpp).lst0 upd_same⟩
  · -- sub
    refine ⟨_, rfl, (by show 5 ≤ sizeLine; decide), fun p0 hp0 => ?_⟩
    have k1 := k0.then (Kp.new (o := .tup [.str "add", .str "sub", .str "mul", .str "min", .str "max"]) hp0)
    refine ⟨p0, _, rfl, .inr (SqT.of upd_same), rfl, rfl, true, congrArg V.bl (by decide +kernel), iteT ?_⟩
    refine ⟨(by show 2 ≤ sizeLine; decide), fun pq hpq => ?_⟩
    have k2 := k1.then (Kp.new (o := .lst [.str "num", .str "num"]) hpq)
    refine ⟨(by show 2 ≤ sizeLine; decide), fun pp hpp => ?_⟩
    exact q ((["num", "num"], "num") : List Str × Str) _ _ (by decide +kernel) (k2.then (Kp.new hpp)) ⟨pp, pq, rfl, upd_same, (Kp.new hpp).lst0 upd_same⟩
  · -- mul
    refine ⟨_, rfl, (by show 5 ≤ sizeLine; decide), fun p0 hp0 => ?_⟩
    have k1 := k0.then (Kp.new (o := .tup [.str "add", .str "sub", .str "mul", .str "min", .str "max"]) hp0)
    refine ⟨p0, _, rfl, .inr (SqT.of upd_same), rfl, rfl, true, congrArg V.bl (by decide +kernel), iteT ?_⟩
    refine ⟨(by show 2 ≤ sizeLine; decide), fun pq hpq => ?_⟩
    have k2 := k1.then (Kp.new (o := .lst [.str "num", .str "num"]) hpq)
    refine ⟨(by show 2 ≤ sizeLine; decide), fun pp hpp => ?_⟩
    exact q ((["num", "num"], "num") : List Str × Str) _ _ (by decide +kernel) (k2.then (Kp.new hpp)) ⟨pp, pq, rfl, upd_same, (Kp.new hpp).lst0 upd_same⟩
  · -- min
    refine ⟨_, rfl, (by show 5 ≤ sizeLine; decide), fun p0 hp0 => ?_⟩
    have k1 := k0.then (Kp.new (o := .tup [.str "add", .str "sub", .str "mul", .str "min", .str "max"]) hp0)
    refine ⟨p0, _, rfl, .inr (SqT.of upd_same), rfl, rfl, true, congrArg V.bl (by decide +kernel), iteT ?_⟩
    refine ⟨(by show 2 ≤ sizeLine; decide), fun pq hpq => ?_⟩
    have k2 := k1.then (Kp.new (o := .lst [.str "num", .str "num"]) hpq)
    refine ⟨(by show 2 ≤ sizeLine; decide), fun pp hpp => ?_⟩
    exact q ((["num", "num"], "num") : List Str × Str) _ _ (by decide +kernel) (k2.then (Kp.new hpp)) ⟨pp, pq, rfl, upd_same, (Kp.new hpp).lst0 upd_same⟩
  · -- less
    refine ⟨_, rfl, (by show 5 ≤ sizeLine; decide), fun p0 hp0 => ?_⟩
    have k1 := k0.then (Kp.new (o := .tup [.str "add", .str "sub", .str "mul", .str "min", .str "max"]) hp0)
    refine ⟨p0, _, rfl, .inr (SqT.of upd_same), rfl, rfl, false, congrArg V.bl (by decide +kernel), iteF ?_⟩
    refine ⟨_, rfl, (by show 2 ≤ sizeLine; decide), fun p1 hp1 => ?_⟩
    have k2 := k1.then (Kp.new (o := .tup [.str "less", .str "alike"]) hp1)
    refine ⟨p1, _, rfl, .inr (SqT.of upd_same), rfl, rfl, true, congrArg V.bl (by decide +kernel), iteT ?_⟩
    refine ⟨(by show 2 ≤ sizeLine; decide), fun pq hpq => ?_⟩
    have k3 := k2.then (Kp.new (o := .lst [.str "num", .str "num"]) hpq)
    refine ⟨(by show 2 ≤ sizeLine; decide), fun pp hpp => ?_⟩
    exact q ((["num", "num"], "truth") : List Str × Str) _ _ (by decide +kernel) (k3.then (Kp.new hpp)) ⟨pp, pq, rfl, upd_same, (Kp.new hpp).lst0 upd_same⟩
  · -- alike
    refine ⟨_, rfl, (by show 5 ≤ sizeLine; decide), fun p0 hp0 => ?_⟩
    have k1 := k0.then (Kp.new (o := .tup [.str "add", .str "sub", .str "mul", .str "min", .str "max"]) hp0)
    refine ⟨p0, _, rfl, .inr (SqT.of upd_same), rfl, rfl, false, congrArg V.bl (by decide +kernel), iteF ?_⟩
    refine ⟨_, rfl, (by show 2 ≤ sizeLine; decide), fun p1 hp1 => ?_⟩
    have k2 := k1.then (Kp.new (o := .tup [.str "less", .str "alike"]) hp1)
    refine ⟨p1, _, rfl, .inr (SqT.of upd_same), rfl, rfl, true, congrArg V.bl (by decide +kernel), iteT ?_⟩
    refine ⟨(by show 2 ≤ sizeLine; decide), fun pq hpq => ?_⟩
    have k3 := k2.then (Kp.new (o := .lst [.str "num", .str "num"]) hpq)
    refine ⟨(by show 2 ≤ sizeLine; decide), fun pp hpp => ?_⟩
    exact q ((["num", "num"], "truth") : List Str × Str) _ _ (by decide +kernel) (k3.then (Kp.new hpp)) ⟨pp, pq, rfl, upd_same, (Kp.new hpp).lst0 upd_same⟩
  · -- both
    refine ⟨_, rfl, (by show 5 ≤ sizeLine; decide), fun p0 hp0 => ?_⟩
    have k1 := k0.then (Kp.new (o := .tup [.str "add", .str "sub", .str "mul", .str "min", .str "max"]) hp0)
    refine ⟨p0, _, rfl, .inr (SqT.of upd_same), rfl, rfl, false, congrArg V.bl (by decide +kernel), iteF ?_⟩
    refine ⟨_, rfl, (by show 2 ≤ sizeLine; decide), fun p1 hp1 => ?_⟩
    have k2 := k1.then (Kp.new (o := .tup [.str "less", .str "alike"]) hp1)
    refine ⟨p1, _, rfl, .inr (SqT.of upd_same), rfl, rfl, false, congrArg V.bl (by decide +kernel), iteF ?_⟩
    refine ⟨_, rfl, (by show 2 ≤ sizeLine; decide), fun p2 hp2 => ?_⟩
    have k3 := k2.then (Kp.new (o := .tup [.str "both", .str "any"]) hp2)
    refine ⟨p2, _, rfl, .inr (SqT.of upd_same), rfl, rfl, true, congrArg V.bl (by decide +kernel), iteT ?_⟩
    refine ⟨(by show 2 ≤ sizeLine; decide), fun pq hpq => ?_⟩
    have k4 := k3.then (Kp.new (o := .lst [.str "truth", .str "truth"]) hpq)
    refine ⟨(by show 2 ≤ sizeLine; decide), fun pp hpp => ?_⟩
    exact q ((["truth", "truth"], "truth") : List Str × Str) _ _ (by decide +kernel) (k4.then (Kp.new hpp)) ⟨pp, pq, rfl, upd_same, (Kp.new hpp).lst0 upd_same⟩
  · -- not
    refine ⟨_, rfl, (by show 5 ≤ sizeLine; decide), fun p0 hp0 => ?_⟩
    have k1 := k0.then (Kp.new (o := .tup [.str "add", .str "sub", .str "mul", .str "min", .str "max"]) hp0)
    refine ⟨p0, _, rfl, .inr (SqT.of upd_same), rfl, rfl, false, congrArg V.bl (by decide +kernel), iteF ?_⟩
    refine ⟨_, rfl, (by show 2 ≤ sizeLine; decide), fun p1 hp1 => ?_⟩
    have k2 := k1.then (Kp.new (o := .tup [.str "less", .str "alike"]) hp1)
    refine ⟨p1, _, rfl, .inr (SqT.of upd_same), rfl, rfl, false, congrArg V.bl (by decide +kernel), iteF ?_⟩
    refine ⟨_, rfl, (by show 2 ≤ sizeLine; decide), fun p2 hp2 => ?_⟩
    have k3 := k2.then (Kp.new (o := .tup [.str "both", .str "any"]) hp2)
    refine ⟨p2, _, rfl, .inr (SqT.of upd_same), rfl, rfl, false, congrArg V.bl (by decide +kernel), iteF ?_⟩
    refine ⟨_, rfl, rfl, false, congrArg V.bl (by decide +kernel), iteF ?_⟩
    refine ⟨_, rfl, (by show 2 ≤ sizeLine; decide), fun p3 hp3 => ?_⟩
    have k4 := k3.then (Kp.new (o := .tup [.str "neg", .str "not"]) hp3)
    refine ⟨p3, _, rfl, .inr (SqT.of upd_same), rfl, rfl, true, congrArg V.bl (by decide +kernel), iteT ?_⟩
    refine ⟨(by show 1 ≤ sizeLine; decide), fun q1 hq1 => ?_⟩
    have k5 := k4.then (Kp.new (o := .lst [.str "num"]) hq1)
    refine ⟨(by show 1 ≤ sizeLine; decide), fun q2 hq2 => ?_⟩
    have k6 := k5.then (Kp.new (o := .lst [.str "truth"]) hq2)
    refine ⟨(by show 2 ≤ sizeLine; decide), fun q3 hq3 => ?_⟩
    have k7 := k6.then (Kp.new (o := .lst [.ref q1, .ref q2]) hq3)
    refine ⟨(by show 2 ≤ sizeLine; decide), fun q4 hq4 => ?_⟩
    have k8 := k7.then (Kp.new (o := .lst [.str "neg", .str "not"]) hq4)
    refine ⟨.inl ⟨rfl, _, SqL.of upd_same⟩, _, rfl, q4, _, .str "not", 1, .str "not", rfl, rfl, SqL.of upd_same, rfl, rfl, rfl, (by decide +kernel), (nb_of (by decide +kernel)), q3, _, _, _, rfl, rfl, SqL.of ((Kp.new hq4).lst0 upd_same), at_of (j := 1) rfl rfl, ?_⟩
    refine ⟨(by show 2 ≤ sizeLine; decide), fun q5 hq5 => ?_⟩
    have k9 := k8.then (Kp.new (o := .lst [.str "num", .str "truth"]) hq5)
    refine ⟨(by show 2 ≤ sizeLine; decide), fun q6 hq6 => ?_⟩
    have k10 := k9.then (Kp.new (o := .lst [.str "neg", .str "not"]) hq6)
    refine ⟨.inl ⟨rfl, _, SqL.of upd_same⟩, _, rfl, q6, _, .str "not", 1, .str "not", rfl, rfl, SqL.of upd_same, rfl, rfl, rfl, (by decide +kernel), (nb_of (by decide +kernel)), q5, _, _, _, rfl, rfl, SqL.of ((Kp.new hq6).lst0 upd_same), at_of (j := 1) rfl rfl, ?_⟩
    refine ⟨(by show 2 ≤ sizeLine; decide), fun pp hpp => ?_⟩
    exact q ((["truth"], "truth") : List Str × Str) _ _ (by decide +kernel) (k10.then (Kp.new hpp)) ⟨pp, q2, rfl, upd_same, ((Kp.new hpp).lst0 ((Kp.new hq6).lst0 ((Kp.new hq5).lst0 ((Kp.new hq4).lst0 ((Kp.new hq3).lst0 upd_same)))))⟩
  · -- neg
    refine ⟨_, rfl, (by show 5 ≤ sizeLine; decide), fun p0 hp0 => ?_⟩
    have k1 := k0.then (Kp.new (o := .tup [.str "add", .str "sub", .str "mul", .str "min", .str "max"]) hp0)
    refine ⟨p0, _, rfl, .inr (SqT.of upd_same), rfl, rfl, false, congrArg V.bl (by decide +kernel), iteF ?_⟩
    refine ⟨_, rfl, (by show 2 ≤ sizeLine; decide), fun p1 hp1 => ?_⟩
    have k2 := k1.then (Kp.new (o := .tup [.str "less", .str "alike"]) hp1)
    refine ⟨p1, _, rfl, .inr (SqT.of upd_same), rfl, rfl, false, congrArg V.bl (by decide +kernel), iteF ?_⟩
    refine ⟨_, rfl, (by show 2 ≤ sizeLine; decide), fun p2 hp2 => ?_⟩
    have k3 := k2.then (Kp.new (o := .tup [.str "both", .str "any"]) hp2)
    refine ⟨p2, _, rfl, .inr (SqT.of upd_same), rfl, rfl, false, congrArg V.bl (by decide +kernel), iteF ?_⟩
    refine ⟨_, rfl, rfl, false, congrArg V.bl (by decide +kernel), iteF ?_⟩
    refine ⟨_, rfl, (by show 2 ≤ sizeLine; decide), fun p3 hp3 => ?_⟩
    have k4 := k3.then (Kp.new (o := .tup [.str "neg", .str "not"]) hp3)
    refine ⟨p3, _, rfl, .inr (SqT.of upd_same), rfl, rfl, true, congrArg V.bl (by decide +kernel), iteT ?_⟩
    refine ⟨(by show 1 ≤ sizeLine; decide), fun q1 hq1 => ?_⟩
    have k5 := k4.then (Kp.new (o := .lst [.str "num"]) hq1)
    refine ⟨(by show 1 ≤ sizeLine; decide), fun q2 hq2 => ?_⟩
    have k6 := k5.then (Kp.new (o := .lst [.str "truth"]) hq2)
    refine ⟨(by show 2 ≤ sizeLine; decide), fun q3 hq3 => ?_⟩
    have k7 := k6.then (Kp.new (o := .lst [.ref q1, .ref q2]) hq3)
    refine ⟨(by show 2 ≤ sizeLine; decide), fun q4 hq4 => ?_⟩
    have k8 := k7.then (Kp.new (o := .lst [.str "neg", .str "not"]) hq4)
    refine ⟨.inl ⟨rfl, _, SqL.of upd_same⟩, _, rfl, q4, _, .str "neg", 0, .str "neg", rfl, rfl, SqL.of upd_same, rfl, rfl, rfl, (by decide +kernel), (nb_of (by decide +kernel)), q3, _, _, _, rfl, rfl, SqL.of ((Kp.new hq4).lst0 upd_same), at_of (j := 0) rfl rfl, ?_⟩
    refine ⟨(by show 2 ≤ sizeLine; decide), fun q5 hq5 => ?_⟩
    have k9 := k8.then (Kp.new (o := .lst [.str "num", .str "truth"]) hq5)
    refine ⟨(by show 2 ≤ sizeLine; decide), fun q6 hq6 => ?_⟩
    have k10 := k9.then (Kp.new (o := .lst [.str "neg", .str "not"]) hq6)
    refine ⟨.inl ⟨rfl, _, SqL.of upd_same⟩, _, rfl, q6, _, .str "neg", 0, .str "neg", rfl, rfl, SqL.of upd_same, rfl, rfl, rfl, (by decide +kernel), (nb_of (by decide +kernel)), q5, _, _, _, rfl, rfl, SqL.of ((Kp.new hq6).lst0 upd_same), at_of (j := 0) rfl rfl, ?_⟩
    refine ⟨(by show 2 ≤ sizeLine; decide), fun pp hpp => ?_⟩
    exact q ((["num"], "num") : List Str × Str) _ _ (by decide +kernel) (k10.then (Kp.new hpp)) ⟨pp, q1, rfl, upd_same, ((Kp.new hpp).lst0 ((Kp.new hq6).lst0 ((Kp.new hq5).lst0 ((Kp.new hq4).lst0 ((Kp.new hq3).lst0 ((Kp.new hq2).lst0 upd_same))))))⟩
  · -- pick
    refine ⟨_, rfl, (by show 5 ≤ sizeLine; decide), fun p0 hp0 => ?_⟩
    have k1 := k0.then (Kp.new (o := .tup [.str "add", .str "sub", .str "mul", .str "min", .str "max"]) hp0)
    refine ⟨p0, _, rfl, .inr (SqT.of upd_same), rfl, rfl, false, congrArg V.bl (by decide +kernel), iteF ?_⟩
    refine ⟨_, rfl, (by show 2 ≤ sizeLine; decide), fun p1 hp1 => ?_⟩
    have k2 := k1.then (Kp.new (o := .tup [.str "less", .str "alike"]) hp1)
    refine ⟨p1, _, rfl, .inr (SqT.of upd_same), rfl, rfl, false, congrArg V.bl (by decide +kernel), iteF ?_⟩
    refine ⟨_, rfl, (by show 2 ≤ sizeLine; decide), fun p2 hp2 => ?_⟩
    have k3 := k2.then (Kp.new (o := .tup [.str "both", .str "any"]) hp2)
    refine ⟨p2, _, rfl, .inr (SqT.of upd_same), rfl, rfl, false, congrArg V.bl (by decide +kernel), iteF ?_⟩
    refine ⟨_, rfl, rfl, true, congrArg V.bl (by decide +kernel), iteT ?_⟩
    refine ⟨(by show 3 ≤ sizeLine; decide), fun pq hpq => ?_⟩
    have k4 := k3.then (Kp.new (o := .lst [.str "truth", .str "num", .str "num"]) hpq)
    refine ⟨(by show 2 ≤ sizeLine; decide), fun pp hpp => ?_⟩
    exact q ((["truth", "num", "num"], "num") : List Str × Str) _ _ (by decide +kernel) (k4.then (Kp.new hpp)) ⟨pp, pq, rfl, upd_same, (Kp.new hpp).lst0 upd_same⟩
theorem sc_is_instruction : FnScope ["value"] ["value"] (defScope s_is_instruction) := ⟨rfl, rfl, rfl, by decide +kernel, rfl, by decide +kernel, by decide +kernel⟩
theorem ok_ins {f Pn S SA SL f1 f2 : Addr} {fd fd1 fd2 : FuncData} (F : Fun K "is_instruction" "is_instruction" s_is_instruction f fd) (T : Txt0 mg) (TS : Std K mg S) (TA : Sets K mg SA SL) (G_is_number : FnOk P w K mg base CX0 1 f1 fd1 ["value", "least", "most"] spNum) (F_is_number : Fun K "is_number" "is_number" s_is_number f1 fd1) (b_is_number : Binds K fd1 ["value", "least", "most"] []) (g_is_number : mg "is_number" = some (.ref f1))
    (G_kind_of : FnOk P w K mg base CX0 4 f2 fd2 ["signature", "name"] (spKind K Pn S)) (F_kind_of : Fun K "kind_of" "kind_of" s_kind_of f2 fd2) (b_kind_of : Binds K fd2 ["signature", "name"] []) (g_kind_of : mg "kind_of" = some (.ref f2)) :
    FnOk P w K mg base CX0 5 f fd ["value"] (spIns Pn) := by
  refine F.ok sc_is_instruction (fun vs H Q E h => ?_) (fun cdv A outer s H vs Q E hr4 h => ?_)
  · obtain ⟨v, b, rfl, _⟩ := h
    rfl
  obtain ⟨v, b, rfl, hi, hT, q⟩ := h
  have nd := sc_is_instruction.nd
  have hv := hr4.units
  have hr1 := hr4.mono (by decide : 1 ≤ 4)
  have g_ALONE := TA.gA
  have g_SLOTTED := TA.gL
  have g_STANDARD := TS.g
  refine ⟨_, (pss_cons (ps_if (PW.pt (pw_or (pt_not (pt_val (pe_callB call_isi (by rfl) T.B.isinstance (by decide +kernel) (pa_cons (pv 0) (pa_cons (pe_bltn (v := .ty "tuple") (by rfl) T.B.tuple (by decide +kernel) rfl) pa_nil))))) (pw_or (pt_cmpR (op_eqD hv) (pv 0) (pe_tup pa_nil) (nomark _)) (pw_or1 (pt_not (pt_val (pe_callB call_isi (by rfl) T.B.isinstance (by decide +kernel) (pa_cons (pe_ix ix_tup (pv 0) pe_int (fun _ _ => rfl)) (pa_cons (pe_bltn (v := .ty "str") (by rfl) T.B.str (by decide +kernel) rfl) pa_nil))))))))) 
      (pss_one (ps_ret pe_bl)) pss_nil)
    (pss_cons (ps_if (pt_cmpR op_in_seq (pe_ix ix_tup (pv 0) pe_int (fun _ _ => rfl)) (pe_gref (by rfl) g_ALONE) rfl) 
      (pss_one (ps_ret (pe_cmpR op_eq (pe_callB call_len_seq (by rfl) T.B.len (by decide +kernel) (pa_cons (pv 0) pa_nil)) pe_int (nomark _)))) pss_nil)
    (pss_cons (ps_if (pt_cmpR op_in_seq (pe_ix ix_tup (pv 0) pe_int (fun _ _ => rfl)) (pe_gref (by rfl) g_SLOTTED) rfl) 
      (pss_one (ps_ret (pe_and (pe_cmpR op_eq (pe_callB call_len_seq (by rfl) T.B.len (by decide +kernel) (pa_cons (pv 0) pa_nil)) pe_int (nomark _)) (pe_one (pe_call G_is_number hr1 (by rfl) g_is_number F_is_number.kp b_is_number .nil pass0 (pa_cons (pe_ix ix_tup (pv 0) pe_int (fun _ _ => rfl)) (pa_cons pe_int (pa_cons (pe_op op_sub (pe_gint (by rfl) T.B.g_MOST_SLOTS) pe_int) pa_nil)))))))) pss_nil)
    (pss_cons (ps_if (PW.pt (pw_or (pt_cmpR op_ne (pe_ix ix_tup (pv 0) pe_int (fun _ _ => rfl)) pe_str (nomark _)) (pw_or (pt_cmpR op_ne (pe_callB call_len_seq (by rfl) T.B.len (by decide +kernel) (pa_cons (pv 0) pa_nil)) pe_int (nomark _)) (pw_or1 (pt_not (pt_val (pe_callB call_isi (by rfl) T.B.isinstance (by decide +kernel) (pa_cons (pe_ix ix_tup (pv 0) pe_int (fun _ _ => rfl)) (pa_cons (pe_bltn (v := .ty "str") (by rfl) T.B.str (by decide +kernel) rfl) pa_nil))))))))) 
      (pss_one (ps_ret pe_bl)) pss_nil)
    (pss_one (ps_ret (pe_cmpR op_notN (pe_call G_kind_of hr4 (by rfl) g_kind_of F_kind_of.kp b_kind_of .nil pass0 (pa_cons (pe_gref (by rfl) g_STANDARD) (pa_cons (pe_ix ix_tup (pv 0) pe_int (fun _ _ => rfl)) pa_nil))) pe_non (nomark _)))))))), ?_⟩
  rcases hi with ⟨rfl, hi⟩ | ⟨a, xs, rfl, ha, hp, hk, rfl⟩
  · rcases hi with rfl | ⟨i, rfl⟩ | ⟨i, rfl⟩ | ⟨a, xs, rfl, ha⟩
    · exact ⟨_, rfl, _, .ty "tuple", _, _, false, rfl, .ty _, .base .non, kit_ty (by decide +kernel), false, rfl, iteT (iteT (q H (Kp.refl H)))⟩
    · exact ⟨_, rfl, _, .ty "tuple", _, _, false, rfl, .ty _, .base (.int _), kit_ty (by decide +kernel), false, rfl, iteT (iteT (q H (Kp.refl H)))⟩
    · exact ⟨_, rfl, _, .ty "tuple", _, _, false, rfl, .ty _, .base (.str _), kit_ty (by decide +kernel), false, rfl, iteT (iteT (q H (Kp.refl H)))⟩
    · exact ⟨_, rfl, _, .ty "tuple", _, _, false, rfl, .ty _, .base (.lst ha), kit_ty (by decide +kernel), false, rfl, iteT (iteT (q H (Kp.refl H)))⟩
  refine ⟨_, rfl, _, .ty "tuple", _, _, true, rfl, .ty _, .base (.tup ha), kit_ty (by decide +kernel), true, rfl, iteF ⟨_, rfl, Nat.zero_le _, fun e he => ?_⟩⟩
  have k1 : Kp H (upd H e (.tup [])) [] := Kp.new he
  have he1 : upd H e (.tup []) e = some (.tup []) := upd_same
  have ha1 := k1.tup0 ha
  generalize upd H e (.tup []) = H1 at k1 he1 ha1 ⊢
  have q1 : Q (.bl (insT xs)) H1 := q _ k1
  obtain ⟨d1, d2⟩ := tup_dp (K := K) ha1 hp
  cases xs with
  | nil => exact ⟨_, .tuple [], d1, .tup (SqT.of he1) .nil, d2, rfl, true, rfl, iteT (iteT q1)⟩
  | cons x r =>
    refine ⟨_, .tuple [], d1, .tup (SqT.of he1) .nil, d2, rfl, false, rfl, iteF ?_⟩
    have ix0 : atI (x :: r) (0 : Int) = some x := at_of (j := 0) rfl rfl
    rcases hp x List.mem_cons_self with ⟨i, rfl⟩ | ⟨b, rfl⟩ | rfl | ⟨s, rfl, hs⟩
    · exact ⟨_, rfl, a, _, _, _, rfl, rfl, SqT.of ha1, ix0, _, .ty "str", _, _, false, rfl, .ty _, .base (.int _), kit_ty (by decide +kernel), false, rfl, iteT q1⟩
    · exact ⟨_, rfl, a, _, _, _, rfl, rfl, SqT.of ha1, ix0, _, .ty "str", _, _, false, rfl, .ty _, .base (.bl _), kit_ty (by decide +kernel), false, rfl, iteT q1⟩
    · exact ⟨_, rfl, a, _, _, _, rfl, rfl, SqT.of ha1, ix0, _, .ty "str", _, _, false, rfl, .ty _, .base .non, kit_ty (by decide +kernel), false, rfl, iteT q1⟩
    refine ⟨_, rfl, a, _, _, _, rfl, rfl, SqT.of ha1, ix0, _, .ty "str", _, _, true, rfl, .ty _, .base (.str _), kit_ty (by decide +kernel), true, rfl, iteF ?_⟩
    refine ⟨_, rfl, a, _, _, _, rfl, rfl, SqT.of ha1, ix0, SA, _, rfl, .inr (TA.tA _), rfl, rfl, _, rfl, ?_⟩
    have e1 : insT (.str s :: r) = if inV (.str s) [.str "swap", .str "drop"] = true then r.isEmpty
      else if inV (.str s) [.str "keep", .str "fetch"] = true then slotB r
      else if V.str s = V.str "do" then nameB r else false := rfl
    rw [e1] at q1
    have hl : ∀ (z : V) (m : Nat), z = V.str s → ∀ i : Int, i = (m : Int) → decide (V.int (((z :: r).length : Nat) : Int) = V.int i) = decide (r.length + 1 = m) := fun z m _ i ei => by
      rw [List.length_cons, ei]
      by_cases z : r.length + 1 = m
      · rw [decide_eq_true z, decide_eq_true (by rw [z])]
      · rw [decide_eq_false z, decide_eq_false fun y => z (by have := V.int.inj y; omega)]
    cases hb : inV (.str s) [.str "swap", .str "drop"] with
    | true =>
      rw [if_pos hb] at q1
      refine iteT ⟨_, rfl, a, _, rfl, .inr (SqT.of ha1), rfl, ?_⟩
      have e2 : decide (V.int (((V.str s :: r).length : Nat) : Int) = V.int 1) = r.isEmpty := by
        rw [hl _ 1 rfl 1 rfl]
        cases r <;> simp
      rw [e2]
      exact q1
    | false =>
      rw [hb, if_neg (by decide)] at q1
      refine iteF ⟨_, rfl, a, _, _, _, rfl, rfl, SqT.of ha1, ix0, SL, _, rfl, .inr (TA.tL _), rfl, rfl, _, rfl, ?_⟩
      cases hb2 : inV (.str s) [.str "keep", .str "fetch"] with
      | true =>
        rw [if_pos hb2] at q1
        refine iteT ⟨_, rfl, a, _, rfl, .inr (SqT.of ha1), rfl, _, rfl, ?_⟩
        rw [hl _ 2 rfl 2 rfl]
        match r, hp, ha1, q1 with
        | [], _, _, q1 => exact iteF q1
        | [x], hp, ha1, q1 => exact iteT ⟨_, rfl, a, _, _, x, rfl, rfl, SqT.of ha1, at_of (j := 1) rfl rfl, _, _, rfl, rfl, x, 0, 19, rfl, (hp x (by simp)).numb, q1⟩
        | x :: y :: t, _, _, q1 =>
          rw [decide_eq_false (show ¬ (x :: y :: t).length + 1 = 2 by simp)]
          exact iteF q1
      | false =>
        rw [hb2, if_neg (by decide)] at q1
        refine iteF ⟨_, rfl, a, _, _, _, rfl, rfl, SqT.of ha1, ix0, rfl, _, rfl, ?_⟩
        by_cases hd : s = "do"
        · subst hd
          rw [if_pos rfl] at q1
          refine iteF ⟨_, rfl, a, _, rfl, .inr (SqT.of ha1), rfl, _, rfl, ?_⟩
          rw [hl _ 2 rfl 2 rfl]
          match r, hp, ha1, q1, hk with
          | [], _, _, q1, _ => exact iteT (iteT q1)
          | [x], hp, ha1, q1, hk =>
            refine iteF ⟨_, rfl, a, _, _, x, rfl, rfl, SqT.of ha1, at_of (j := 1) rfl rfl, ?_⟩
            rcases hp x (by simp) with ⟨i, rfl⟩ | ⟨b, rfl⟩ | rfl | ⟨n, rfl, hn⟩
            · exact ⟨_, .ty "str", _, _, false, rfl, .ty _, .base (.int _), kit_ty (by decide +kernel), false, rfl, iteT q1⟩
            · exact ⟨_, .ty "str", _, _, false, rfl, .ty _, .base (.bl _), kit_ty (by decide +kernel), false, rfl, iteT q1⟩
            · exact ⟨_, .ty "str", _, _, false, rfl, .ty _, .base .non, kit_ty (by decide +kernel), false, rfl, iteT q1⟩
            · refine ⟨_, .ty "str", _, _, true, rfl, .ty _, .base (.str _), kit_ty (by decide +kernel), true, rfl, iteF ?_⟩
              have q1 : Q (.bl (kindOf n).isSome) H1 := q1
              have qq : ∀ H', Kp H1 H' [] → Q (.bl (kindOf n).isSome) H' := fun H' k' => q H' (k1.then k')
              refine ⟨_, rfl, a, _, _, _, rfl, rfl, SqT.of ha1, at_of (j := 1) rfl rfl, n, rfl, hk n rfl, k1.tabG hT, fun e2 H' k' => ⟨rfl, ?_⟩, fun rr v H' e2 k' kat => ⟨rfl, ?_⟩⟩
              · rw [e2] at qq
                exact qq H' k'
              · rw [e2] at qq
                obtain ⟨p, q', rfl, _⟩ := kat
                exact qq H' k'
          | x :: y :: t, _, _, q1, _ =>
            have q1 : Q (.bl (nameB (x :: y :: t))) H1 := q1
            rw [show nameB (x :: y :: t) = false from by cases x <;> rfl] at q1
            rw [decide_eq_false (show ¬ (x :: y :: t).length + 1 = 2 by simp)]
            exact iteT (iteT q1)
        · rw [if_neg (fun z => hd (V.str.inj z))] at q1
          rw [decide_eq_false (show ¬ V.str s = V.str "do" from fun z => hd (V.str.inj z))]
          exact iteT (iteT q1)
theorem sc_is_code : FnScope ["value", "one"] ["value"] (defScope s_is_code) := ⟨rfl, rfl, rfl, by decide +kernel, rfl, by decide +kernel, by decide +kernel⟩
theorem ok_code {f c Pc Pn f1 : Addr} {fd fd1 : FuncData} (F : FunC K "is_code" "is_code" s_is_code f fd c) (tb_is_code : GxR.TabB base mg c Pc) (T : Txt0 mg) (G_is_instruction : FnOk P w K mg base CX0 5 f1 fd1 ["value"] (spIns Pn)) (F_is_instruction : Fun K "is_instruction" "is_instruction" s_is_instruction f1 fd1) (b_is_instruction : Binds K fd1 ["value"] []) (g_is_instruction : mg "is_instruction" = some (.ref f1)) :
    FnOk P w K mg base CX0 7 f fd ["value"] (spCode Pn Pc) := by
  refine F.ok sc_is_code (fun vs H Q E h => ?_) (fun A outer s H vs Q E hr6 h => ?_)
  · obtain ⟨v, b, rfl, _⟩ := h
    rfl
  obtain ⟨v, b, rfl, hi, hT, hT2, q⟩ := h
  have nd := sc_is_code.nd
  have hr1 := hr6
  refine ⟨_, (pss_one (ps_ret (pe_and (pe_callB call_isi (by rfl) T.B.isinstance (by decide +kernel) (pa_cons (pv 0) (pa_cons (pe_bltn (v := .ty "tuple") (by rfl) T.B.tuple (by decide +kernel) rfl) pa_nil))) (pe_and (pe_cmpR op_le (pe_callB call_len_seq (by rfl) T.B.len (by decide +kernel) (pa_cons (pv 0) pa_nil)) (pe_gint (by rfl) T.B.g_MOST_CODE) (nomark _)) (pe_one (GG.pe_allG (own := [("one", 1)]) (g := gName 1) (tt := tYes) rfl nd hr1 (by rfl) T.B.all (by rfl) tb_is_code rfl (blkOk_by (N := ["value", "one"]) (sc := defScope s_is_code) (by decide +kernel)) (by decide +kernel) rfl rfl (pi_tup (pv 0)) (fun _ _ _ _ _ _ _ => (pg_name (i := 1) nd rfl (.inl rfl))) (fun _ _ _ _ _ _ _ => pts_nil) (fun _ _ _ _ _ _ _ => (pe_call G_is_instruction (GG.room_gA hr6 _) (by rfl) g_is_instruction F_is_instruction.kp b_is_instruction .nil pass0 (pa_cons (pv 1) pa_nil))) (by intro _; rfl))))))), ?_⟩
  rcases hi with ⟨rfl, hi⟩ | ⟨a, xs, bs, rfl, ha, hp, hb⟩
  · rcases hi with rfl | ⟨i, rfl⟩ | ⟨a, xs, rfl, ha⟩
    · exact ⟨_, rfl, _, .ty "tuple", _, _, false, rfl, .ty _, .base .non, kit_ty (by decide +kernel), false, rfl, q H (Kp.refl H)⟩
    · exact ⟨_, rfl, _, .ty "tuple", _, _, false, rfl, .ty _, .base (.int _), kit_ty (by decide +kernel), false, rfl, q H (Kp.refl H)⟩
    · exact ⟨_, rfl, _, .ty "tuple", _, _, false, rfl, .ty _, .base (.lst ha), kit_ty (by decide +kernel), false, rfl, q H (Kp.refl H)⟩
  refine ⟨_, rfl, _, .ty "tuple", _, _, true, rfl, .ty _, .base (.tup ha), kit_ty (by decide +kernel), true, rfl, ?_⟩
  refine ⟨_, rfl, a, _, rfl, .inr (SqT.of ha), _, _, rfl, rfl, _, rfl, ?_⟩
  by_cases h2 : xs.length ≤ 2000
  · rw [decide_eq_true (show (xs.length : Int) ≤ 2000 by omega)]
    rw [decide_eq_true h2, Bool.true_and] at hb
    refine iteT ⟨_, rfl, a, rfl, ⟨_, SqT.of ha⟩, hT2, fun H1 tb => ?_⟩
    have k1 : Kp H H1 [] := Kp.tabbed hT2 tb
    have ha1 := k1.tup0 ha
    refine GG.gt_tup (K := K) (a := a) (xs := xs) (fun i H' => Kp H1 H' [] ∧ ∀ j b, j < i → bs[j]? = some b → b = true) ⟨Kp.refl _, fun _ _ h => absurd h (Nat.not_lt_zero _)⟩ (fun i H' _ h => SqT.of (h.1.tup0 ha1)) (fun i x H' hx ⟨k2, all⟩ => ?_) (fun H' ⟨k2, all⟩ => ?_)
    · obtain ⟨bi, hbi, iv⟩ := Paired.get hp i x hx
      refine ⟨rfl, _, rfl, x, bi, rfl, (iv.kp k1).kp k2, (k1.then k2).tabG hT, fun H'' k3 => ?_⟩
      cases bi with
      | true =>
        refine .inl ⟨rfl, k2.then k3, fun j y hj e => ?_⟩
        by_cases ej : j = i
        · rw [ej, hbi] at e
          exact (Option.some.inj e).symm
        · exact all j y (by omega) e
      | false =>
        refine .inr ⟨rfl, ?_⟩
        have e2 : b = false := by
          rw [hb, List.all_eq_false]
          exact ⟨false, List.mem_of_getElem? hbi, by decide⟩
        rw [e2] at q
        exact q _ ((k1.then k2).then k3)
    · have e2 : b = true := by
        rw [hb, List.all_eq_true]
        intro y hy
        obtain ⟨j, hj, e⟩ := List.mem_iff_getElem.mp hy
        exact all j y (by rw [Paired.len hp]; exact hj) (by rw [List.getElem?_eq_getElem hj, e])
      rw [e2] at q
      exact q _ (k1.then k2)
  · rw [decide_eq_false (show ¬ (xs.length : Int) ≤ 2000 by omega)]
    rw [decide_eq_false h2, Bool.false_and] at hb
    subst hb
    exact iteF (q H (Kp.refl H))
end
end K48

set_option Elab.async false
set_option maxRecDepth 100000
set_option maxHeartbeats 4000000
namespace K48
open PySem L2
/-! ### the machine, by itself -/
inductive Ins
  | swap
  | drop
  | keep (k : Nat)
  | fetch (k : Nat)
  | op (n : Str)
abbrev En := Str × V
structure Mc where
  st : List En
  sl : List (Nat × En)
  hi : Nat
def putS (l : List (Nat × En)) (k : Nat) (e : En) : List (Nat × En) := if (l.any fun x => decide (x.1 = k)) = true then l.map (fun x => if x.1 = k then (x.1, e) else x) else l ++ [(k, e)]
def slot (l : List (Nat × En)) (k : Nat) : Option En := (l.find? fun x => decide (x.1 = k)).map (·.2)
def takeM (ins : List Str) (st : List En) : Option (List V × List En) :=
  if ins.length ≤ st.length ∧ (st.drop (st.length - ins.length)).map (·.1) = ins then some ((st.drop (st.length - ins.length)).map (·.2), st.take (st.length - ins.length)) else none
def withSt (m : Mc) (st : List En) : Mc := { m with st := st, hi := max m.hi st.length }
def mv (m : Mc) : Ins → Option Mc
  | .fetch k => (slot m.sl k).map fun e => withSt m (m.st ++ [e])
  | .keep k => (m.st.getLast?).map fun e => withSt { m with sl := putS m.sl k e } m.st
  | .drop => if m.st.length < 1 then none else some (withSt m (m.st.take (m.st.length - 1)))
  | .swap => match m.st.drop (m.st.length - 2) with
    | [a, b] => some (withSt m (m.st.take (m.st.length - 2) ++ [b, a]))
    | _ => none
  | .op _ => none
def step (f : Str → List V → V) (m : Mc) : Ins → Option Mc
  | .op n => (kindOf n).bind fun r => (takeM r.1 m.st).map fun t => withSt m (t.2 ++ [(r.2, f n t.1)])
  | i => mv m i
def runM (f : Str → List V → V) : List Ins → Mc → Option Mc
  | [], m => some m
  | i :: c, m => (step f m i).bind (runM f c)
def m0 : Mc := ⟨[], [], 0⟩
/-! ### the machine in the heap -/
def SrtOk (s : Str) : Prop := s = "num" ∨ s = "truth"
def cells : Ins → List V
  | .swap => [.str "swap"]
  | .drop => [.str "drop"]
  | .keep k => [.str "keep", .int (k : Int)]
  | .fetch k => [.str "fetch", .int (k : Int)]
  | .op n => [.str "do", .str n]
def InsAt (H : Hp) (q : Addr) (i : Ins) : Prop := H q = some (.tup (cells i))
def PairAt (H : Hp) (t : Addr) (e : En) : Prop := H t = some (.tup [.str e.1, e.2])
def SlotAt (H : Hp) (kv : Key × V) (x : Nat × En) : Prop := kv.1 = .inl (x.1 : Int) ∧ ∃ t, kv.2 = .ref t ∧ PairAt H t x.2
def StAt (H : Hp) (s : Addr) (st : List En) : Prop := ∃ ts : List Addr, H s = some (.lst (ts.map V.ref)) ∧ Paired (PairAt H) ts st
def SlAt (H : Hp) (d : Addr) (sl : List (Nat × En)) : Prop := ∃ kvs, H d = some (.dK kvs) ∧ Paired (SlotAt H) kvs sl
def fl (s d : Addr) (h : Nat) : List (Str × V) := [("stack", .ref s), ("slots", .ref d), ("height", .int (h : Int))]
theorem fl_stack (s d : Addr) (h : Nat) (s' : Addr) : putF "stack" (.ref s') (fl s d h) = fl s' d h := rfl
theorem fl_height (s d : Addr) (h h' : Nat) : putF "height" (.int (h' : Int)) (fl s d h) = fl s d h' := rfl
theorem fl_mk (s d : Addr) : putF "height" (.int 0) (putF "slots" (.ref d) (putF "stack" (.ref s) [])) = fl s d 0 := rfl
structure MAt (C : Addr) (H : Hp) (p d : Addr) (m : Mc) : Prop where
  ob : ∃ dx s, H p = some (.ins C dx (fl s d m.hi)) ∧ StAt H s m.st
  sl : SlAt H d m.sl
  ok : (∀ e ∈ m.st, SrtOk e.1) ∧ (∀ x ∈ m.sl, SrtOk x.2.1) ∧ m.st.length ≤ m.hi
def NoTL (H : Hp) (M : List Addr) : Prop := ∀ m ∈ M, (∀ xs, H m ≠ some (.tup xs)) ∧ ∀ xs, H m ≠ some (.lst xs)
theorem NoTL.nil {H : Hp} : NoTL H [] := fun _ h => nomatch h
theorem NoTL.one {H : Hp} {p C dx : Addr} {fs : List (Str × V)} (h : H p = some (.ins C dx fs)) : NoTL H [p] := fun m hm => by
  rw [List.mem_singleton.mp hm, h]
  exact ⟨fun _ e => (nomatch e), fun _ e => (nomatch e)⟩
theorem NoTL.dic {H : Hp} {p : Addr} {fs : List (Key × V)} (h : H p = some (.dK fs)) : NoTL H [p] := fun m hm => by
  rw [List.mem_singleton.mp hm, h]
  exact ⟨fun _ e => (nomatch e), fun _ e => (nomatch e)⟩
theorem PairAt.kp {H H' : Hp} {M : List Addr} {t : Addr} {e : En} (h : PairAt H t e) (k : Kp H H' M) (n : NoTL H M) : PairAt H' t e := k.tup h fun z => (n _ z).1 _ h
theorem StAt.kp {H H' : Hp} {M : List Addr} {s : Addr} {st : List En} (h : StAt H s st) (k : Kp H H' M) (n : NoTL H M) : StAt H' s st := by
  obtain ⟨ts, a, b⟩ := h
  exact ⟨ts, k.lst a fun z => (n _ z).2 _ a, Paired.mapP b fun _ _ z => z.kp k n⟩
theorem SlAt.pairs {H H' : Hp} {M : List Addr} {kvs : List (Key × V)} {sl : List (Nat × En)} (h : Paired (SlotAt H) kvs sl) (k : Kp H H' M) (n : NoTL H M) : Paired (SlotAt H') kvs sl :=
  Paired.mapP h fun _ _ ⟨a, t, b, z⟩ => ⟨a, t, b, z.kp k n⟩
theorem SlAt.kp {H H' : Hp} {M : List Addr} {d : Addr} {sl : List (Nat × En)} (h : SlAt H d sl) (k : Kp H H' M) (n : NoTL H M) (nd : d ∉ M) : SlAt H' d sl := by
  obtain ⟨kvs, a, b⟩ := h
  exact ⟨kvs, k.dic a nd, SlAt.pairs b k n⟩
theorem MAt.kp0 {C : Addr} {H H' : Hp} {p d : Addr} {m : Mc} (h : MAt C H p d m) (k : Kp H H' []) : MAt C H' p d m := by
  obtain ⟨⟨dx, s, a, b⟩, c, e⟩ := h
  exact ⟨⟨dx, s, k.keep _ _ a (fun _ z => nomatch z) (by simp), b.kp k NoTL.nil⟩, c.kp k NoTL.nil (by simp), e⟩
theorem MAt.pd {C : Addr} {H : Hp} {p d : Addr} {m : Mc} (h : MAt C H p d m) : p ≠ d := fun z => by
  obtain ⟨⟨dx, s, a, b⟩, ⟨kvs, c, _⟩, e⟩ := h
  rw [z, c] at a
  cases a
theorem MAt.nt {C : Addr} {H : Hp} {p d : Addr} {m : Mc} (h : MAt C H p d m) : ∀ x ∈ [p, d], ∀ ps, H x ≠ some (.tbl ps) := fun x hx ps e => by
  obtain ⟨⟨dx, s, a, b⟩, ⟨kvs, c, _⟩, _⟩ := h
  simp only [List.mem_cons, List.not_mem_nil, or_false] at hx
  rcases hx with rfl | rfl
  · rw [a] at e
    cases e
  · rw [c] at e
    cases e
/-! slots -/
theorem ikey {a b : Nat} : ((Sum.inl (a : Int) : Key) = Sum.inl (b : Int)) ↔ a = b := ⟨fun h => by have := Sum.inl.inj h; omega, fun h => by rw [h]⟩
theorem slots_get {H : Hp} : ∀ {kvs : List (Key × V)} {sl : List (Nat × En)}, Paired (SlotAt H) kvs sl → ∀ k : Nat,
    (slot sl k = none ∧ valV kvs (.inl (k : Int)) = none) ∨ ∃ e t, slot sl k = some e ∧ valV kvs (.inl (k : Int)) = some (.ref t) ∧ PairAt H t e
  | _, _, .nil, k => .inl ⟨rfl, rfl⟩
  | kv :: kvs, x :: sl, .cons ⟨a, t, b, c⟩ r, k => by
    by_cases h : x.1 = k
    · refine .inr ⟨x.2, t, ?_, ?_, c⟩
      · unfold slot
        rw [List.find?_cons, decide_eq_true h]
        rfl
      · unfold valV
        rw [List.find?_cons, decide_eq_true (by rw [a, ikey]; exact h)]
        exact congrArg some b
    · have e1 : slot (x :: sl) k = slot sl k := by
        unfold slot
        rw [List.find?_cons, decide_eq_false h]
      have e2 : valV (kv :: kvs) (.inl (k : Int)) = valV kvs (.inl (k : Int)) := by
        unfold valV
        rw [List.find?_cons, decide_eq_false (by rw [a, ikey]; exact h)]
      rw [e1, e2]
      exact slots_get r k
theorem slots_any {H : Hp} : ∀ {kvs : List (Key × V)} {sl : List (Nat × En)}, Paired (SlotAt H) kvs sl → ∀ k : Nat, (kvs.any fun kv => decide (kv.1 = .inl (k : Int))) = (sl.any fun x => decide (x.1 = k))
  | _, _, .nil, _ => rfl
  | kv :: kvs, x :: sl, .cons ⟨a, t, b, c⟩ r, k => by
    rw [List.any_cons, List.any_cons, slots_any r k]
    congr 1
    rw [a]
    by_cases h : x.1 = k
    · rw [decide_eq_true h, decide_eq_true (ikey.mpr h)]
    · rw [decide_eq_false h, decide_eq_false (fun z => h (ikey.mp z))]
theorem slots_map {H : Hp} {t : Addr} {e : En} (ht : PairAt H t e) (k : Nat) : ∀ {kvs : List (Key × V)} {sl : List (Nat × En)}, Paired (SlotAt H) kvs sl →
    Paired (SlotAt H) (kvs.map fun kv => if kv.1 = .inl (k : Int) then (kv.1, V.ref t) else kv) (sl.map fun x => if x.1 = k then (x.1, e) else x)
  | _, _, .nil => .nil
  | kv :: kvs, x :: sl, .cons ⟨a, u, b, c⟩ r => by
    rw [List.map_cons, List.map_cons]
    refine .cons ?_ (slots_map ht k r)
    by_cases h : x.1 = k
    · rw [if_pos h, if_pos (by rw [a, ikey]; exact h)]
      exact ⟨a, t, rfl, ht⟩
    · rw [if_neg h, if_neg (by rw [a, ikey]; exact h)]
      exact ⟨a, u, b, c⟩
theorem Paired.snoc {α β : Type} {R : α → β → Prop} {x : α} {y : β} (h : R x y) : ∀ {xs : List α} {ys : List β}, Paired R xs ys → Paired R (xs ++ [x]) (ys ++ [y])
  | _, _, .nil => .cons h .nil
  | _, _, .cons a b => .cons a (Paired.snoc h b)
theorem slots_put {H : Hp} {t : Addr} {e : En} (ht : PairAt H t e) (k : Nat) {kvs : List (Key × V)} {sl : List (Nat × En)} (h : Paired (SlotAt H) kvs sl) : Paired (SlotAt H) (putK kvs (.inl (k : Int)) (.ref t)) (putS sl k e) := by
  unfold putK putS
  rw [slots_any h k]
  split
  · exact slots_map ht k h
  · exact Paired.snoc ⟨rfl, t, rfl, ht⟩ h
theorem putS_len {l : List (Nat × En)} {k : Nat} {e : En} : (putS l k e).length ≤ l.length + 1 := by
  unfold putS
  split
  · rw [List.length_map]
    omega
  · rw [List.length_append]
    exact Nat.le_refl _
theorem putS_all {l : List (Nat × En)} {k : Nat} {e : En} {R : En → Prop} (h : ∀ x ∈ l, R x.2) (he : R e) : ∀ x ∈ putS l k e, R x.2 := fun x hx => by
  unfold putS at hx
  split at hx
  · obtain ⟨y, hy, rfl⟩ := List.mem_map.mp hx
    split
    · exact he
    · exact h y hy
  · rcases List.mem_append.mp hx with hx | hx
    · exact h x hx
    · rw [List.mem_singleton.mp hx]
      exact he
theorem slot_all {l : List (Nat × En)} {k : Nat} {e : En} {R : En → Prop} (h : ∀ x ∈ l, R x.2) (he : slot l k = some e) : R e := by
  unfold slot at he
  cases z : l.find? fun x => decide (x.1 = k) with
  | none => rw [z] at he; cases he
  | some y =>
    rw [z] at he
    cases he
    exact h y (List.mem_of_find?_eq_some z)
/-! cuts of paired lists -/
theorem Paired.take {α β : Type} {R : α → β → Prop} : ∀ {xs : List α} {ys : List β}, Paired R xs ys → ∀ n, Paired R (xs.take n) (ys.take n)
  | _, _, .nil, n => by simp only [List.take_nil]; exact .nil
  | _, _, .cons a b, 0 => .nil
  | _, _, .cons a b, n + 1 => .cons a (Paired.take b n)
theorem Paired.drop {α β : Type} {R : α → β → Prop} : ∀ {xs : List α} {ys : List β}, Paired R xs ys → ∀ n, Paired R (xs.drop n) (ys.drop n)
  | _, _, .nil, n => by simp only [List.drop_nil]; exact .nil
  | _, _, .cons a b, 0 => .cons a b
  | _, _, .cons a b, n + 1 => Paired.drop b n
theorem Paired.app {α β : Type} {R : α → β → Prop} : ∀ {xs us : List α} {ys vs : List β}, Paired R xs ys → Paired R us vs → Paired R (xs ++ us) (ys ++ vs)
  | _, _, _, _, .nil, h => h
  | _, _, _, _, .cons a b, h => .cons a (Paired.app b h)
end K48

set_option Elab.async false
set_option maxRecDepth 100000
set_option maxHeartbeats 4000000
namespace K48
open PySem L2
/-! ### defs that may raise -/
abbrev XF : XK := fun _ _ _ => False
theorem passF {X : Cx} {P : Program} {w : World} : Passes (L2N.CX P w) X XF := fun _ _ _ _ _ _ _ c => by
  obtain ⟨_, _, _, _, _, _, _, _, _, _, _, _, h⟩ := c
  exact h.elim
theorem okR {P : Program} {w : World} {K : PySem.W.Frag} {mg : Str → Option Value} {base : Heap} {x qual : Str} {st : Stmt} {f : Addr} {fd : FuncData} {N ps : List Str} {k : Nat} {sp : Sp} (F : Fun K x qual st f fd) (S : FnScope N ps (defScope st)) (len : ∀ vs H Q E, sp vs H Q E → vs.length = ps.length)
    (hbody : ∀ (cdv : Value) (A : Around) (outer : List Env) (s : Shared) (H : Hp) (vs : List V) (Q : VK) (E : XK), Room k (A.deeper (PyProof.Rows.envOfC qual (defScope st) s.heap.objs.size f cdv)) → sp vs H Q E →
      ∃ t, PSs (cxOf (L2N.CX P w) P w K mg base N qual (defScope st) f cdv A outer s H E) (defBody st) t ∧ t { nx := fun _ H' => Q .non H', rt := Q } (start N vs) H) : FnOk P w K mg base (L2N.CX P w) (k + 1) f fd ps sp := by
  obtain ⟨oc, od, kV, doc, pm, an, cdv, ct, osl, rfl, lk, hcd⟩ := F.ex
  exact fn_of lk hcd S len fun A outer s H vs Q E hr hsp => hbody cdv A outer s H vs Q E hr hsp
structure Txt (K : PySem.W.Frag) (mg : Str → Option Value) (C Cr Cm : Addr) : Prop extends Txt0 mg where
  cl : Cls K C
  nS : NoAttr K C "stack"
  nL : NoAttr K C "slots"
  nH : NoAttr K C "height"
  mgC : mg "Machine" = some (.ref C)
  gR : mg "Refused" = some (.ref Cr)
  kR : PySem.W.keepIn K (.ref Cr) = true
  qR : PySem.W.excIn K Cr [.type "ValueError", .type "Exception", .type "BaseException", .type "object"] "ValueError.__new__" = true
  bR : PySem.W.subIn K (.ref Cr) (.type "BaseException") = some true
  tR : PySem.W.typeIn K (.ref Cr) = some (.type "type")
  gM : mg "Malformed" = some (.ref Cm)
  kM : PySem.W.keepIn K (.ref Cm) = true
  qM : PySem.W.excIn K Cm [.type "ValueError", .type "Exception", .type "BaseException", .type "object"] "ValueError.__new__" = true
  bM : PySem.W.subIn K (.ref Cm) (.type "BaseException") = some true
  tM : PySem.W.typeIn K (.ref Cm) = some (.type "type")
def spInit (C : Addr) : Sp := fun vs H Q _ => ∃ (p dx : Addr), vs = [.ref p] ∧ H p = some (.ins C dx []) ∧ ∀ (H' : Hp) (d : Addr), MAt C H' p d m0 → Kp H H' [p] → H d = none → Q .non H'
def spPut (C : Addr) : Sp := fun vs H Q _ => ∃ (p d : Addr) (m : Mc) (e : En), vs = [.ref p, .str e.1, e.2] ∧ MAt C H p d m ∧ SrtOk e.1 ∧ m.hi ≤ 500 ∧ ∀ H', MAt C H' p d (withSt m (m.st ++ [e])) → Kp H H' [p] → Q .non H'
def spTake (K : PySem.W.Frag) (C Cr : Addr) : Sp := fun vs H Q E => ∃ (p d q : Addr) (m : Mc) (ins : List Str), vs = [.ref p, .ref q] ∧ MAt C H p d m ∧ TupK K H q (ins.map V.str) ∧ (∀ s ∈ ins, SrtOk s) ∧ m.hi ≤ 500 ∧
  (∀ xs st', takeM ins m.st = some (xs, st') → ∀ H' l, MAt C H' p d { m with st := st' } → H' l = some (.lst xs) → Kp H H' [p] → Q (.ref l) H') ∧ (takeM ins m.st = none → ∀ H', Kp H H' [] → E (.ref Cr) none H')
def spMove (C Cr : Addr) : Sp := fun vs H Q E => ∃ (p d q : Addr) (m : Mc) (i : Ins), vs = [.ref p, .ref q] ∧ MAt C H p d m ∧ InsAt H q i ∧ (∀ n, i ≠ .op n) ∧ m.hi ≤ 500 ∧ m.sl.length ≤ 500 ∧
  (∀ m', mv m i = some m' → ∀ H', MAt C H' p d m' → Kp H H' [p, d] → Q .non H') ∧ (mv m i = none → ∀ H', Kp H H' [] → E (.ref Cr) none H')
section
variable {P : Program} {w : World} {K : PySem.W.Frag} {mg : Str → Option Value} {base : Heap}
theorem sc_Machine___init__ : FnScope ["self"] ["self"] (defScope s_Machine___init__) := ⟨rfl, rfl, rfl, by decide +kernel, rfl, by decide +kernel, by decide +kernel⟩
theorem ok_init {f C Cr Cm : Addr} {fd : FuncData} (F : Fun K "__init__" "Machine.__init__" s_Machine___init__ f fd) (T : Txt K mg C Cr Cm) : FnOk P w K mg base CX0 1 f fd ["self"] (spInit C) := by
  refine F.ok sc_Machine___init__ (fun vs H Q E h => ?_) (fun cdv A outer s H vs Q E hr h => ?_)
  · obtain ⟨p, dx, rfl, _⟩ := h
    rfl
  obtain ⟨p, dx, rfl, hp, k⟩ := h
  refine ⟨_, (pss_cons (ps_fld (pv 0) (pe_lst pa_nil) rfl)
    (pss_cons (ps_fld (pv 0) pe_dnewK rfl)
    (pss_one (ps_fld (pv 0) pe_int rfl)))), ?_⟩
  refine ⟨Nat.zero_le _, fun a ha => ⟨_, rfl, p, C, dx, [], rfl, (upd_ne (ne_of_none hp ha)).trans hp, T.cl, T.nS, (by show 0 < 1000; decide), ?_⟩⟩
  have pa : p ≠ a := ne_of_none hp ha
  have k1 := (Kp.new (o := .lst []) ha).pre (Kp.wi (o := .ins C dx (putF "stack" (.ref a) [])) ((upd_ne pa).trans hp))
  have a1 : upd (upd H a (.lst [])) p (.ins C dx (putF "stack" (.ref a) [])) a = some (.lst []) := by rw [upd_ne pa.symm, upd_same]
  have p1 : upd (upd H a (.lst [])) p (.ins C dx (putF "stack" (.ref a) [])) p = some (.ins C dx (putF "stack" (.ref a) [])) := upd_same
  generalize upd (upd H a (.lst [])) p (.ins C dx (putF "stack" (.ref a) [])) = H1 at k1 a1 p1 ⊢
  intro d hd
  have pd : p ≠ d := ne_of_none p1 hd
  have da : a ≠ d := ne_of_none a1 hd
  refine ⟨_, rfl, p, C, dx, _, rfl, (upd_ne pd).trans p1, T.cl, T.nL, (by show 1 < 1000; decide), ?_⟩
  refine ⟨_, rfl, p, C, dx, _, rfl, upd_same, T.cl, T.nH, (by show 2 < 1000; decide), ?_⟩
  rw [upd_upd]
  have k2 := k1.then (Kp.new (o := .dK []) hd)
  have k3 := k2.both (Kp.wi (o := .ins C dx (putF "height" (.int 0) (putF "slots" (.ref d) (putF "stack" (.ref a) [])))) ((upd_ne pd).trans p1))
  refine k _ d ⟨⟨dx, a, upd_same, [], ?_, .nil⟩, ⟨[], ?_, .nil⟩, ⟨(fun _ h => nomatch h), (fun _ h => nomatch h), Nat.le_refl _⟩⟩ k3 ?_
  · rw [upd_ne pa.symm, upd_ne da, a1]
    rfl
  · rw [upd_ne pd.symm, upd_same]
  · exact k1.free hd (by simpa using pd.symm)
theorem sc_Machine_put : FnScope ["self", "sort", "thing"] ["self", "sort", "thing"] (defScope s_Machine_put) := ⟨rfl, rfl, rfl, by decide +kernel, rfl, by decide +kernel, by decide +kernel⟩
theorem ok_put {f C Cr Cm : Addr} {fd : FuncData} (F : Fun K "put" "Machine.put" s_Machine_put f fd) (T : Txt K mg C Cr Cm) : FnOk P w K mg base CX0 1 f fd ["self", "sort", "thing"] (spPut C) := by
  refine F.ok sc_Machine_put (fun vs H Q E h => ?_) (fun cdv A outer s H vs Q E hr h => ?_)
  · obtain ⟨p, d, m, e, rfl, _⟩ := h
    rfl
  obtain ⟨p, d, m, e, rfl, M, so, hh, k⟩ := h
  refine ⟨_, (pss_cons (ps_fld (pv 0) (pe_lst (StX.pa_star (pe_fld (pv 0) rfl) (pa_cons (pe_tup (pa_cons (pv 1) (pa_cons (pv 2) pa_nil))) pa_nil))) rfl)
    (pss_one (ps_fld (pv 0) (pe_callB (call_max2 rfl) (by rfl) T.B.max (by decide +kernel) (pa_cons (pe_fld (pv 0) rfl) (pa_cons (pe_callB call_len_seq (by rfl) T.B.len (by decide +kernel) (pa_cons (pe_fld (pv 0) rfl) pa_nil)) pa_nil))) rfl))), ?_⟩
  have M0 := M
  obtain ⟨⟨dx, s, hp, ts, hs, hP⟩, hsl, ok1, ok2, ok3⟩ := M
  have tl : ts.length = m.st.length := Paired.len hP
  refine ⟨_, rfl, p, C, dx, _, _, rfl, hp, T.cl, T.nS, rfl, s, _, rfl, .inr (SqL.of hs), _, rfl, _, rfl, (by show 2 ≤ sizeLine; decide), fun t ht => ?_⟩
  have k1 : Kp H (upd H t (.tup [.str e.1, e.2])) [] := Kp.new ht
  have t1 : PairAt (upd H t (.tup [.str e.1, e.2])) t e := upd_same
  have hp1 := k1.keep _ _ hp (fun _ z => nomatch z) (by simp)
  generalize upd H t (.tup [.str e.1, e.2]) = H1 at k1 t1 hp1 ⊢
  have len : (ts.map V.ref ++ [V.ref t]).length ≤ 501 := by
    rw [List.length_append, List.length_map, tl]
    show m.st.length + 1 ≤ 501
    omega
  refine ⟨Nat.le_trans len (by decide), fun l hl => ?_⟩
  have k2 := k1.then (Kp.new (o := .lst (ts.map V.ref ++ [V.ref t])) hl)
  have l2 : upd H1 l (.lst (ts.map V.ref ++ [V.ref t])) l = some (.lst (ts.map V.ref ++ [V.ref t])) := upd_same
  have pl : p ≠ l := ne_of_none hp1 hl
  have hp2 : upd H1 l (.lst (ts.map V.ref ++ [V.ref t])) p = _ := (upd_ne pl).trans hp1
  have P2 : Paired (PairAt (upd H1 l (.lst (ts.map V.ref ++ [V.ref t])))) (ts ++ [t]) (m.st ++ [e]) := Paired.mapP (Paired.snoc t1 (Paired.mapP hP fun _ _ z => z.kp k1 NoTL.nil)) fun _ _ z => z.kp (Kp.new hl) NoTL.nil
  generalize upd H1 l (.lst (ts.map V.ref ++ [V.ref t])) = H2 at k2 l2 hp2 P2 ⊢
  refine ⟨_, rfl, p, C, dx, _, rfl, hp2, T.cl, T.nS, (by show 3 < 1000; decide), ?_⟩
  rw [fl_stack]
  refine ⟨_, rfl, p, C, dx, _, _, rfl, upd_same, T.cl, T.nH, rfl, _, rfl, p, C, dx, _, _, rfl, upd_same, T.cl, T.nS, rfl, l, _, rfl, .inl (SqL.of ((upd_ne pl.symm).trans l2)), _, _, rfl, ?_⟩
  refine ⟨_, rfl, p, C, dx, _, rfl, upd_same, T.cl, T.nH, (by show 3 < 1000; decide), ?_⟩
  rw [upd_upd]
  have e1 : (if (((ts.map V.ref ++ [V.ref t]).length : Nat) : Int) > (m.hi : Int) then (((ts.map V.ref ++ [V.ref t]).length : Nat) : Int) else (m.hi : Int)) = ((max m.hi (m.st ++ [e]).length : Nat) : Int) := by
    rw [List.length_append, List.length_append, List.length_map, tl]
    show (if ((m.st.length + 1 : Nat) : Int) > (m.hi : Int) then ((m.st.length + 1 : Nat) : Int) else (m.hi : Int)) = ((max m.hi (m.st.length + 1) : Nat) : Int)
    split <;> omega
  rw [e1, fl_height]
  have k3 := k2.pre (Kp.wi (o := .ins C dx (fl l d (max m.hi (m.st ++ [e]).length))) hp2)
  refine k _ ⟨⟨dx, l, upd_same, ts ++ [t], ?_, ?_⟩, hsl.kp k3 (NoTL.one hp) (by simpa using M0.pd.symm), ?_, ok2, Nat.le_max_right _ _⟩ k3
  · rw [upd_ne pl.symm, l2, List.map_append]
    rfl
  · exact Paired.mapP P2 fun _ _ z => z.kp (Kp.wi hp2) (NoTL.one hp2)
  · intro x hx
    rcases List.mem_append.mp hx with hx | hx
    · exact ok1 x hx
    · rw [List.mem_singleton.mp hx]
      exact so
/-! cuts -/
theorem cut_from (xs : List V) (j : Nat) : cutV xs (some (j : Int)) none = xs.drop j := by
  unfold cutV
  rw [HT.sIx_nat, HT.sIx_none]
  by_cases h : j ≤ xs.length
  · rw [Nat.min_eq_left h, List.take_of_length_le (by rw [List.length_drop]; exact Nat.le_refl _)]
  · rw [Nat.min_eq_right (by omega), Nat.sub_self, List.take_zero, List.drop_eq_nil_of_le (by omega)]
theorem cut_to (xs : List V) (j : Nat) : cutV xs none (some (j : Int)) = xs.take j := by
  unfold cutV
  rw [HT.sIx_nat, HT.sIx_none, List.drop_zero, Nat.sub_zero]
  by_cases h : j ≤ xs.length
  · rw [Nat.min_eq_left h]
  · rw [Nat.min_eq_right (by omega), List.take_of_length_le (Nat.le_refl _), List.take_of_length_le (by omega)]
theorem cut_neg (xs : List V) (i : Int) (j : Nat) (e : i = -(j : Int)) (h : 1 ≤ j) : cutV xs none (some i) = xs.take (xs.length - j) := by
  unfold cutV
  have e1 : HT.sIx xs.length xs.length (some i) = xs.length - j := by
    show (if i < 0 then (i + (xs.length : Int)).toNat else _) = _
    rw [if_pos (by omega)]
    omega
  rw [e1, HT.sIx_none, List.drop_zero, Nat.sub_zero]
theorem eqvS : ∀ (ss ts : List Str), PyData.eqvAll ((ss.map V.str).map pdOf) ((ts.map V.str).map pdOf) = decide (ss = ts)
  | [], [] => rfl
  | [], _ :: _ => (decide_eq_false (fun z => nomatch z)).symm
  | _ :: _, [] => (decide_eq_false (fun z => nomatch z)).symm
  | a :: ss, b :: ts => by
    show ((a == b) && PyData.eqvAll ((ss.map V.str).map pdOf) ((ts.map V.str).map pdOf)) = _
    rw [eqvS ss ts]
    by_cases h : a = b
    · subst h
      rw [beq_self_eq_true, Bool.true_and]
      by_cases h2 : ss = ts
      · rw [decide_eq_true h2, decide_eq_true (by rw [h2])]
      · rw [decide_eq_false h2, decide_eq_false (fun z => h2 (List.cons.inj z).2)]
    · rw [beq_eq_false_iff_ne.mpr h, Bool.false_and, decide_eq_false (fun z => h (List.cons.inj z).1)]
theorem strs_dp {K : PySem.W.Frag} {H : Hp} {a : Addr} {ss : List Str} (ha : H a = some (.lst (ss.map V.str))) (h : ∀ s ∈ ss, PyData.strOk s = true) : Dp K H (.ref a) (.list ((ss.map V.str).map pdOf)) ∧ SeqAt.shaped (.list ((ss.map V.str).map pdOf)) = true := by
  obtain ⟨d, e, f⟩ := prims_dp (K := K) (H := H) (xs := ss.map V.str) fun x hx => by
    obtain ⟨s, hs, rfl⟩ := List.mem_map.mp hx
    exact .inr (.inr (.inr ⟨s, rfl, h s hs⟩))
  refine ⟨.lst (SqL.of ha) d, ?_⟩
  show (PyData.canLayAll0 _ && decide (PyData.depthAll _ + 1 ≤ 64)) = true
  rw [e, decide_eq_true (by omega)]
  rfl
theorem SrtOk.str {s : Str} (h : SrtOk s) : PyData.strOk s = true := by
  rcases h with rfl | rfl <;> decide +kernel
theorem sc_Machine_take : FnScope ["self", "sorts", "under", "things", "sort", "thing"] ["self", "sorts"] (defScope s_Machine_take) := ⟨rfl, rfl, rfl, by decide +kernel, rfl, by decide +kernel, by decide +kernel⟩
theorem ok_take {f C Cr Cm : Addr} {fd : FuncData} (F : Fun K "take" "Machine.take" s_Machine_take f fd) (T : Txt K mg C Cr Cm) : FnOk P w K mg base (L2N.CX P w) 1 f fd ["self", "sorts"] (spTake K C Cr) := by
  refine okR F sc_Machine_take (fun vs H Q E h => ?_) (fun cdv A outer s H vs Q E hr h => ?_)
  · obtain ⟨p, d, q, m, ins, rfl, _⟩ := h
    rfl
  obtain ⟨p, d, q, m, ins, rfl, M, hq, hi, hh, k, ke⟩ := h
  have nd := sc_Machine_take.nd
  have hv := hr.units
  refine ⟨_, (pss_cons (ps_set (i := 2) nd rfl (.inl rfl) (pe_op op_sub (pe_callB call_len_seq (by rfl) T.B.len (by decide +kernel) (pa_cons (pe_fld (pv 0) rfl) pa_nil)) (pe_callB call_len_seq (by rfl) T.B.len (by decide +kernel) (pa_cons (pv 1) pa_nil))))
    (pss_cons (ps_if (PW.pt (pw_or (pt_cmpR op_lt (pv 2) pe_int (nomark _)) (pw_or1 (pt_cmpR (op_neD hv) (pe_lc (own := [("sort", 4), ("thing", 5)]) (tt := tYes) rfl nd (pi_list (pe_slice sl_list (pe_fld (pv 0) rfl) (po_some (pv 2)) po_none)) (blkOk_by (N := ["self", "sorts", "under", "things", "sort", "thing"]) (sc := defScope s_Machine_take) (by decide +kernel)) (fun _ _ _ _ _ => (GK.pgTK (n := 2) K rfl (pgs_cons (pg_name (i := 4) nd rfl (.inl rfl)) (pgs_cons (pg_name (i := 5) nd rfl (.inl rfl)) pgs_nil)))) (fun _ _ _ _ _ => pts_nil) (fun _ _ _ _ _ => (pv 4))) (pe_callTy call_list_of (by rfl) T.B.list (by decide +kernel) (pa_cons (pv 1) pa_nil)) (nomark _))))) 
      (pss_one (L2N.ps_raise rfl (L2N.takes_of rfl rfl rfl rfl) (L2N.pmk_own PySem.F.excBase_ValueError T.qR T.gR T.kR (raises_own T.bR T.tR) (by exact rfl)))) pss_nil)
    (pss_cons (ps_setLc (i := 3) (own := [("sort", 4), ("thing", 5)]) (tt := tYes) rfl nd rfl rfl (sw_true rfl rfl rfl (by decide +kernel)) (pi_list (pe_slice sl_list (pe_fld (pv 0) rfl) (po_some (pv 2)) po_none)) (blkOk_by (N := ["self", "sorts", "under", "things", "sort", "thing"]) (sc := defScope s_Machine_take) (by decide +kernel)) (fun _ _ _ _ _ => (GK.pgTK (n := 2) K rfl (pgs_cons (pg_name (i := 4) nd rfl (.inl rfl)) (pgs_cons (pg_name (i := 5) nd rfl (.inl rfl)) pgs_nil)))) (fun _ _ _ _ _ => pts_nil) (fun _ _ _ _ _ => (pv 5)))
    (pss_cons (ps_fld (pv 0) (pe_slice sl_list (pe_fld (pv 0) rfl) po_none (po_some (pv 2))) rfl)
    (pss_one (ps_ret (pv 3))))))), ?_⟩
  have M0 := M
  obtain ⟨⟨dx, s, hp, ts, hs, hP⟩, hsl, ok1, ok2, ok3⟩ := M
  have tl : ts.length = m.st.length := Paired.len hP
  refine ⟨_, rfl, p, C, dx, _, _, rfl, hp, T.cl, T.nS, rfl, s, _, rfl, .inl (SqL.of hs), _, rfl, q, _, rfl, .inr hq.sq, _, _, rfl, rfl, ?_⟩
  rw [List.length_map, List.length_map, tl]
  refine ⟨_, rfl, _, _, rfl, rfl, _, rfl, ?_⟩
  rcases Nat.lt_or_ge m.st.length ins.length with hlt | hlt
  · rw [decide_eq_true (show (m.st.length : Int) - (ins.length : Int) < 0 by omega)]
    refine iteT (iteT (ke ?_ H (Kp.refl H)))
    unfold takeM
    rw [if_neg (fun z => absurd z.1 (by omega))]
  rw [decide_eq_false (show ¬ (m.st.length : Int) - (ins.length : Int) < 0 by omega)]
  obtain ⟨u, hu⟩ : ∃ u : Nat, u = m.st.length - ins.length := ⟨_, rfl⟩
  have eu : (m.st.length : Int) - (ins.length : Int) = (u : Int) := by omega
  refine iteF ⟨_, rfl, p, C, dx, _, _, rfl, hp, T.cl, T.nS, rfl, _, rfl, (u : Int), congrArg V.int eu, s, _, rfl, SqL.of hs, fun c hc => ?_⟩
  rw [cut_from, ← List.map_drop]
  have k1 : Kp H (upd H c (.lst ((ts.drop u).map V.ref))) [] := Kp.new hc
  have c1 : upd H c (.lst ((ts.drop u).map V.ref)) c = some (.lst ((ts.drop u).map V.ref)) := upd_same
  generalize upd H c (.lst ((ts.drop u).map V.ref)) = H1 at k1 c1 ⊢
  have P1 : Paired (PairAt H1) (ts.drop u) (m.st.drop u) := Paired.mapP (Paired.drop hP u) fun _ _ z => z.kp k1 NoTL.nil
  refine ⟨c, rfl, ⟨_, SqL.of c1⟩, fun D hD => ?_⟩
  refine lc_list (K := K) (a := c) (xs := (ts.drop u).map V.ref) (fun i H' => Kp H1 H' [] ∧ H' D = some (.lst ((((m.st.drop u).map (·.1)).take i).map V.str))) ⟨Kp.new hD, by rw [upd_same, List.take_zero]; rfl⟩ (fun i H' _ ⟨k, _⟩ => SqL.of (k.lst0 c1)) (fun i x H' hx ⟨kp, hD'⟩ => ?_) (fun H2 ⟨k2, hD2⟩ => ?_)
  · rw [List.getElem?_map] at hx
    cases hm : (ts.drop u)[i]? with
    | none => rw [hm] at hx; cases hx
    | some t =>
      rw [hm] at hx
      cases hx
      obtain ⟨e, he, pe⟩ := Paired.get P1 i t hm
      have pe : PairAt H' t e := pe.kp kp NoTL.nil
      have len : (((m.st.drop u).map (·.1)).take i).length ≤ 500 := by
        rw [List.length_take, List.length_map, List.length_drop]
        omega
      refine ⟨t, _, rfl, SqT.of pe, rfl, _, _, rfl, _, _, rfl, rfl, rfl, _, rfl, _, hD', ?_, kp.fresh (Kp.wl hD') fun x hx => by rw [List.mem_singleton.mp hx]; exact hD, ?_⟩
      · rw [List.length_map]
        exact Nat.lt_of_le_of_lt len (by decide)
      · rw [upd_same, List.take_add_one, List.getElem?_map, he, List.map_append]
        rfl
  have el : ((ts.drop u).map V.ref).length = ((m.st.drop u).map (·.1)).length := by rw [List.length_map, List.length_map, Paired.len P1]
  rw [el, List.take_length] at hD2
  have k2' := k1.then k2
  have hq2 := hq.kp0 k2'
  refine ⟨_, rfl, q, _, rfl, .inr hq2.sq, fun c2 hc2 => ?_⟩
  have k3 : Kp H2 (upd H2 c2 (.lst (ins.map V.str))) [] := Kp.new hc2
  have c3 : upd H2 c2 (.lst (ins.map V.str)) c2 = some (.lst (ins.map V.str)) := upd_same
  have hD3 := k3.lst0 hD2
  generalize upd H2 c2 (.lst (ins.map V.str)) = H3 at k3 c3 hD3 ⊢
  have k3' := k2'.then k3
  obtain ⟨d1, d2⟩ := strs_dp (K := K) hD3 fun x hx => by
    obtain ⟨e, he, rfl⟩ := List.mem_map.mp hx
    exact (ok1 e (List.mem_of_mem_drop he)).str
  obtain ⟨d3, d4⟩ := strs_dp (K := K) c3 fun x hx => (hi x hx).str
  refine ⟨_, _, d1, d3, d2, d4, _, rfl, ?_⟩
  have ev : PyData.eqv (.list ((((m.st.drop u).map (·.1)).map V.str).map pdOf)) (.list ((ins.map V.str).map pdOf)) = decide ((m.st.drop u).map (·.1) = ins) := eqvS _ _
  rw [ev]
  by_cases hins : (m.st.drop u).map (·.1) = ins
  · rw [decide_eq_true hins]
    have tk : takeM ins m.st = some ((m.st.drop u).map (·.2), m.st.take u) := by
      unfold takeM
      rw [← hu, if_pos ⟨hlt, hins⟩]
    have M3 := M0.kp0 k3'
    obtain ⟨⟨dx3, s3, hp3, ts3, hs3, hP3⟩, hsl3, _⟩ := M3
    have tl3 : ts3.length = m.st.length := Paired.len hP3
    refine iteF ⟨_, rfl, p, C, dx3, _, _, rfl, hp3, T.cl, T.nS, rfl, _, rfl, (u : Int), congrArg V.int eu, s3, _, rfl, SqL.of hs3, fun c4 hc4 => ?_⟩
    rw [cut_from, ← List.map_drop]
    have k4 : Kp H3 (upd H3 c4 (.lst ((ts3.drop u).map V.ref))) [] := Kp.new hc4
    have c5 : upd H3 c4 (.lst ((ts3.drop u).map V.ref)) c4 = some (.lst ((ts3.drop u).map V.ref)) := upd_same
    generalize upd H3 c4 (.lst ((ts3.drop u).map V.ref)) = H4 at k4 c5 ⊢
    have P4 : Paired (PairAt H4) (ts3.drop u) (m.st.drop u) := Paired.mapP (Paired.drop hP3 u) fun _ _ z => z.kp k4 NoTL.nil
    refine ⟨c4, rfl, ⟨_, SqL.of c5⟩, fun D2 hD2 => ?_⟩
    refine lc_list (K := K) (a := c4) (xs := (ts3.drop u).map V.ref) (fun i H' => Kp H4 H' [] ∧ H' D2 = some (.lst (((m.st.drop u).map (·.2)).take i))) ⟨Kp.new hD2, by rw [upd_same, List.take_zero]⟩ (fun i H' _ ⟨k, _⟩ => SqL.of (k.lst0 c5)) (fun i x H' hx ⟨kp, hD'⟩ => ?_) (fun H5 ⟨k5, hD5⟩ => ?_)
    · rw [List.getElem?_map] at hx
      cases hm : (ts3.drop u)[i]? with
      | none => rw [hm] at hx; cases hx
      | some t =>
        rw [hm] at hx
        cases hx
        obtain ⟨e, he, pe⟩ := Paired.get P4 i t hm
        have pe : PairAt H' t e := pe.kp kp NoTL.nil
        have len : (((m.st.drop u).map (·.2)).take i).length ≤ 500 := by
          rw [List.length_take, List.length_map, List.length_drop]
          omega
        refine ⟨t, _, rfl, SqT.of pe, rfl, _, _, rfl, _, _, rfl, rfl, rfl, _, rfl, _, hD', Nat.lt_of_le_of_lt len (by decide), kp.fresh (Kp.wl hD') fun x hx => by rw [List.mem_singleton.mp hx]; exact hD2, ?_⟩
        rw [upd_same, List.take_add_one, List.getElem?_map, he]
        rfl
    have el2 : ((ts3.drop u).map V.ref).length = ((m.st.drop u).map (·.2)).length := by rw [List.length_map, List.length_map, Paired.len P4]
    rw [el2, List.take_length] at hD5
    have k5' := k4.then k5
    obtain ⟨⟨dx6, s6, hp6, ts6, hs6, hP6⟩, hsl6, _⟩ := M0.kp0 (k3'.then k5')
    refine ⟨_, rfl, p, C, dx6, _, _, rfl, hp6, T.cl, T.nS, rfl, _, rfl, (u : Int), congrArg V.int eu, s6, _, rfl, SqL.of hs6, fun c6 hc6 => ?_⟩
    rw [cut_to, ← List.map_take]
    have k7 : Kp H5 (upd H5 c6 (.lst ((ts6.take u).map V.ref))) [] := Kp.new hc6
    have c7 : upd H5 c6 (.lst ((ts6.take u).map V.ref)) c6 = some (.lst ((ts6.take u).map V.ref)) := upd_same
    have P7 : Paired (PairAt (upd H5 c6 (.lst ((ts6.take u).map V.ref)))) (ts6.take u) (m.st.take u) := Paired.mapP (Paired.take hP6 u) fun _ _ z => z.kp k7 NoTL.nil
    have hD7 := k7.lst0 hD5
    have hp7 := k7.keep _ _ hp6 (fun _ z => nomatch z) (by simp)
    have hsl7 := hsl6.kp k7 NoTL.nil (by simp)
    have pc : p ≠ c6 := ne_of_none hp6 hc6
    generalize upd H5 c6 (.lst ((ts6.take u).map V.ref)) = H7 at k7 c7 P7 hD7 hp7 hsl7 ⊢
    refine ⟨_, rfl, p, C, dx6, _, rfl, hp7, T.cl, T.nS, (by show 3 < 1000; decide), ?_⟩
    rw [fl_stack]
    have k8 : Kp H7 (upd H7 p (.ins C dx6 (fl c6 d m.hi))) [p] := Kp.wi hp7
    have kk := ((k3'.then k5').then k7).pre k8
    refine ⟨_, rfl, k _ _ tk _ D2 ⟨⟨dx6, c6, upd_same, ts6.take u, k8.lst c7 (nm1 pc.symm), Paired.mapP P7 fun _ _ z => z.kp k8 (NoTL.one hp7)⟩, hsl7.kp k8 (NoTL.one hp7) (nm1 M0.pd.symm), ⟨fun e he => ok1 e (List.mem_of_mem_take he), ok2, ?_⟩⟩ ?_ kk⟩
    · show (m.st.take u).length ≤ m.hi
      rw [List.length_take]
      omega
    · exact k8.lst hD7 (nm1 fun z => by rw [z, hp7] at hD7; cases hD7)
  · rw [decide_eq_false hins]
    refine iteT (ke ?_ H3 k3')
    unfold takeM
    rw [← hu, if_neg (fun z => hins z.2)]
end
end K48

set_option Elab.async false
set_option maxRecDepth 100000
set_option maxHeartbeats 4000000
namespace K48
open PySem L2
section
variable {P : Program} {w : World} {K : PySem.W.Frag} {mg : Str → Option Value} {base : Heap}
theorem last_get {xs : List V} {z : Int} (h : 1 ≤ xs.length) (e : z = -1) : atI xs z = xs[xs.length - 1]? := by
  subst e
  show (ixN xs.length (-1)).bind _ = _
  have : ixN xs.length (-1) = some (xs.length - 1) := by
    unfold ixN
    rw [if_neg (by decide)]
    rw [if_pos (by omega)]
    congr 1
    omega
  rw [this]
  rfl
theorem sc_Machine_move : FnScope ["self", "instruction", "sort", "thing"] ["self", "instruction"] (defScope s_Machine_move) := ⟨rfl, rfl, rfl, by decide +kernel, rfl, by decide +kernel, by decide +kernel⟩
theorem ok_move {f C Cr Cm f1 : Addr} {fd fd1 : FuncData} (F : Fun K "move" "Machine.move" s_Machine_move f fd) (T : Txt K mg C Cr Cm) (G_Machine_put : FnOk P w K mg base CX0 1 f1 fd1 ["self", "sort", "thing"] (spPut C)) (b_Machine_put : Binds K fd1 ["self", "sort", "thing"] []) (m_Machine_put : Meth K C "put" f1) :
    FnOk P w K mg base (L2N.CX P w) 2 f fd ["self", "instruction"] (spMove C Cr) := by
  refine okR F sc_Machine_move (fun vs H Q E h => ?_) (fun cdv A outer s H vs Q E hr h => ?_)
  · obtain ⟨p, d, q, m, i, rfl, _⟩ := h
    rfl
  obtain ⟨p, d, q, m, i, rfl, M, hq, hno, hh, hs, k, ke⟩ := h
  have nd := sc_Machine_move.nd
  have hu := hu_of hr
  have hr1 := hr
  refine ⟨_, (pss_cons (ps_if (pt_cmpR op_eq (pe_ix ix_tup (pv 1) pe_int (fun _ _ => rfl)) pe_str (nomark _)) 
      (pss_cons (ps_if (pt_cmp (pc_dnotin hu (pe_ix ix_tup (pv 1) pe_int (fun _ _ => rfl)) (pe_fld (pv 0) rfl))) 
        (pss_one (L2N.ps_raise rfl (L2N.takes_of rfl rfl rfl rfl) (L2N.pmk_own PySem.F.excBase_ValueError T.qR T.gR T.kR (raises_own T.bR T.tR) (by exact rfl)))) pss_nil)
      (pss_cons (ps_asg (pe_dget hu (pe_fld (pv 0) rfl) (pe_ix ix_tup (pv 1) pe_int (fun _ _ => rfl)) (fun _ _ => rfl)) (pg_tup rfl (pgs_cons (pg_name (i := 2) nd rfl (.inl rfl)) (pgs_cons (pg_name (i := 3) nd rfl (.inl rfl)) pgs_nil))))
      (pss_cons (ps_expr (pe_meth (pv 0) T.cl m_Machine_put G_Machine_put hr1 b_Machine_put .nil pass0 (pa_cons (pv 2) (pa_cons (pv 3) pa_nil))))
      (pss_one ps_retN)))) pss_nil)
    (pss_cons (ps_if (pt_cmpR op_lt (pe_callB call_len_seq (by rfl) T.B.len (by decide +kernel) (pa_cons (pe_fld (pv 0) rfl) pa_nil)) (pe_ifExp (pt_cmpR op_eq (pe_ix ix_tup (pv 1) pe_int (fun _ _ => rfl)) pe_str (nomark _)) pe_int pe_int) (nomark _)) 
      (pss_one (L2N.ps_raise rfl (L2N.takes_of rfl rfl rfl rfl) (L2N.pmk_own PySem.F.excBase_ValueError T.qR T.gR T.kR (raises_own T.bR T.tR) (by exact rfl)))) pss_nil)
    (pss_one (ps_if (pt_cmpR op_eq (pe_ix ix_tup (pv 1) pe_int (fun _ _ => rfl)) pe_str (nomark _)) 
      (pss_one (ps_dput hu (pe_fld (pv 0) rfl) (pe_ix ix_tup (pv 1) pe_int (fun _ _ => rfl)) (pe_ix ix_list (pe_fld (pv 0) rfl) (pe_un un_neg pe_int) (fun _ _ => rfl)) rfl)) 
      (pss_one (ps_if (pt_cmpR op_eq (pe_ix ix_tup (pv 1) pe_int (fun _ _ => rfl)) pe_str (nomark _)) 
        (pss_one (ps_fld (pv 0) (pe_slice sl_list (pe_fld (pv 0) rfl) po_none (po_some (pe_un un_neg pe_int))) rfl)) 
        (pss_one (ps_fld (pv 0) (pe_lst (StX.pa_star (pe_slice sl_list (pe_fld (pv 0) rfl) po_none (po_some (pe_un un_neg pe_int))) (pa_cons (pe_ix ix_list (pe_fld (pv 0) rfl) (pe_un un_neg pe_int) (fun _ _ => rfl)) (pa_cons (pe_ix ix_list (pe_fld (pv 0) rfl) (pe_un un_neg pe_int) (fun _ _ => rfl)) pa_nil)))) rfl)))))))), ?_⟩
  have M0 := M
  obtain ⟨⟨dx, s, hp, ts, hs, hP⟩, ⟨kvs, hd, hK⟩, ok1, ok2, ok3⟩ := M
  have tl : ts.length = m.st.length := Paired.len hP
  cases i with
  | op n => exact absurd rfl (hno n)
  | fetch n =>
    have hq : H q = some (.tup [.str "fetch", .int (n : Int)]) := hq
    refine ⟨_, rfl, q, _, _, _, rfl, rfl, SqT.of hq, at_of (j := 0) rfl rfl, rfl, true, congrArg V.bl (by decide +kernel), iteT ?_⟩
    refine ⟨_, rfl, q, _, _, _, rfl, rfl, SqT.of hq, at_of (j := 1) rfl rfl, _, rfl, p, C, dx, _, _, rfl, hp, T.cl, T.nL, rfl, d, _, rfl, DGet.k (k := .inl (n : Int)) hd, ?_⟩
    rcases slots_get hK n with ⟨e1, e2⟩ | ⟨e, t, e1, e2, pe⟩
    · rw [e2]
      refine ⟨true, rfl, iteT (ke ?_ H (Kp.refl H))⟩
      show (slot m.sl n).map _ = none
      rw [e1]
      rfl
    · rw [e2]
      refine ⟨false, rfl, iteF ?_⟩
      refine ⟨_, rfl, p, C, dx, _, _, rfl, hp, T.cl, T.nL, rfl, _, rfl, q, _, _, _, rfl, rfl, SqT.of hq, at_of (j := 1) rfl rfl, d, .ref t, rfl, (by rw [← e2]; exact DGet.k (k := .inl (n : Int)) hd), ?_⟩
      have so : SrtOk e.1 := slot_all (R := fun e => SrtOk e.1) ok2 e1
      refine ⟨t, _, rfl, SqT.of pe, rfl, _, _, rfl, _, _, rfl, rfl, ?_⟩
      refine ⟨_, rfl, p, dx, _, rfl, hp, rfl, _, rfl, _, rfl, p, d, m, e, rfl, M0, so, hh, fun H' M' k' => k _ ?_ H' M' (k'.up (by simp) M0.nt)⟩
      show (slot m.sl n).map _ = _
      rw [e1]
      rfl
  | keep n =>
    have hq : H q = some (.tup [.str "keep", .int (n : Int)]) := hq
    refine ⟨_, rfl, q, _, _, _, rfl, rfl, SqT.of hq, at_of (j := 0) rfl rfl, rfl, false, congrArg V.bl (by decide +kernel), iteF ?_⟩
    refine ⟨_, rfl, p, C, dx, _, _, rfl, hp, T.cl, T.nS, rfl, s, _, rfl, .inl (SqL.of hs), ?_⟩
    refine ⟨_, rfl, q, _, _, _, rfl, rfl, SqT.of hq, at_of (j := 0) rfl rfl, rfl, false, congrArg V.bl (by decide +kernel), iteF ⟨_, _, rfl, rfl, _, rfl, ?_⟩⟩
    rw [List.length_map, tl]
    rcases Nat.eq_zero_or_pos m.st.length with z | pos
    · rw [decide_eq_true (show (m.st.length : Int) < 1 by omega)]
      refine iteT (ke ?_ H (Kp.refl H))
      show (m.st.getLast?).map _ = none
      rw [List.eq_nil_of_length_eq_zero z]
      rfl
    rw [decide_eq_false (show ¬ (m.st.length : Int) < 1 by omega)]
    refine iteF ?_
    refine ⟨_, rfl, q, _, _, _, rfl, rfl, SqT.of hq, at_of (j := 0) rfl rfl, rfl, true, congrArg V.bl (by decide +kernel), iteT ?_⟩
    obtain ⟨t, ht⟩ : ∃ t, ts[m.st.length - 1]? = some t := ⟨_, List.getElem?_eq_getElem (by omega)⟩
    obtain ⟨e, he, pe⟩ := Paired.get hP _ t ht
    have at1 : atI (ts.map V.ref) (-1) = some (.ref t) := by
      rw [last_get (by rw [List.length_map]; omega) rfl, List.length_map, tl, List.getElem?_map, ht]
      rfl
    refine ⟨_, rfl, p, C, dx, _, _, rfl, hp, T.cl, T.nS, rfl, _, rfl, s, _, _, _, rfl, rfl, SqL.of hs, at1, ?_⟩
    have hkl : kvs.length = m.sl.length := Paired.len hK
    refine ⟨_, rfl, p, C, dx, _, _, rfl, hp, T.cl, T.nL, rfl, _, rfl, q, _, _, _, rfl, rfl, SqT.of hq, at_of (j := 1) rfl rfl, d, _, rfl, DPut.k (k := .inl (n : Int)) hd (Nat.lt_of_le_of_lt (show _ ≤ 500 by omega) (by decide)), ?_⟩
    have k1 : Kp H (upd H d (.dK (putK kvs (.inl (n : Int)) (.ref t)))) [d] := Kp.wd hd
    have so : SrtOk e.1 := ok1 e (List.mem_of_getElem? he)
    refine k (withSt { m with sl := putS m.sl n e } m.st) ?_ _ ⟨⟨dx, s, ?_, ts, k1.lst hs (nm1 ?_), Paired.mapP hP fun _ _ z => z.kp k1 (NoTL.dic hd)⟩, ⟨_, upd_same, SlAt.pairs (slots_put pe n hK) k1 (NoTL.dic hd)⟩, ok1, putS_all (R := fun e => SrtOk e.1) ok2 so, Nat.le_max_right _ _⟩ (k1.up (by simp) M0.nt)
    · show (m.st.getLast?).map _ = _
      rw [List.getLast?_eq_getElem?, he]
      rfl
    · rw [upd_ne M0.pd, hp]
      show _ = some (HO.ins C dx (fl s d (max m.hi m.st.length)))
      rw [Nat.max_eq_left ok3]
    · exact fun z => by rw [z, hd] at hs; cases hs
  | drop =>
    have hq : H q = some (.tup [.str "drop"]) := hq
    refine ⟨_, rfl, q, _, _, _, rfl, rfl, SqT.of hq, at_of (j := 0) rfl rfl, rfl, false, congrArg V.bl (by decide +kernel), iteF ?_⟩
    refine ⟨_, rfl, p, C, dx, _, _, rfl, hp, T.cl, T.nS, rfl, s, _, rfl, .inl (SqL.of hs), ?_⟩
    refine ⟨_, rfl, q, _, _, _, rfl, rfl, SqT.of hq, at_of (j := 0) rfl rfl, rfl, false, congrArg V.bl (by decide +kernel), iteF ⟨_, _, rfl, rfl, _, rfl, ?_⟩⟩
    rw [List.length_map, tl]
    rcases Nat.eq_zero_or_pos m.st.length with z | pos
    · rw [decide_eq_true (show (m.st.length : Int) < 1 by omega)]
      refine iteT (ke ?_ H (Kp.refl H))
      show (if m.st.length < 1 then none else _) = none
      rw [if_pos (by omega)]
    rw [decide_eq_false (show ¬ (m.st.length : Int) < 1 by omega)]
    refine iteF ?_
    refine ⟨_, rfl, q, _, _, _, rfl, rfl, SqT.of hq, at_of (j := 0) rfl rfl, rfl, false, congrArg V.bl (by decide +kernel), iteF ?_⟩
    refine ⟨_, rfl, q, _, _, _, rfl, rfl, SqT.of hq, at_of (j := 0) rfl rfl, rfl, true, congrArg V.bl (by decide +kernel), iteT ?_⟩
    refine ⟨_, rfl, p, C, dx, _, _, rfl, hp, T.cl, T.nS, rfl, _, rfl, _, rfl, s, _, rfl, SqL.of hs, fun c hc => ?_⟩
    rw [cut_neg _ (-1) 1 rfl (Nat.le_refl _), List.length_map, tl, ← List.map_take]
    have k1 : Kp H (upd H c (.lst ((ts.take (m.st.length - 1)).map V.ref))) [] := Kp.new hc
    have c1 : upd H c (.lst ((ts.take (m.st.length - 1)).map V.ref)) c = some (.lst ((ts.take (m.st.length - 1)).map V.ref)) := upd_same
    have P1 : Paired (PairAt (upd H c (.lst ((ts.take (m.st.length - 1)).map V.ref)))) (ts.take (m.st.length - 1)) (m.st.take (m.st.length - 1)) := Paired.mapP (Paired.take hP _) fun _ _ z => z.kp k1 NoTL.nil
    have hp1 := k1.keep _ _ hp (fun _ z => nomatch z) (by simp)
    have sl1 := M0.sl.kp k1 NoTL.nil (by simp)
    have pc : p ≠ c := ne_of_none hp hc
    generalize upd H c (.lst ((ts.take (m.st.length - 1)).map V.ref)) = H1 at k1 c1 P1 hp1 sl1 ⊢
    refine ⟨_, rfl, p, C, dx, _, rfl, hp1, T.cl, T.nS, (by show 3 < 1000; decide), ?_⟩
    rw [fl_stack]
    have k2 : Kp H1 (upd H1 p (.ins C dx (fl c d m.hi))) [p] := Kp.wi hp1
    refine k (withSt m (m.st.take (m.st.length - 1))) ?_ _ ⟨⟨dx, c, ?_, ts.take (m.st.length - 1), k2.lst c1 (nm1 pc.symm), Paired.mapP P1 fun _ _ z => z.kp k2 (NoTL.one hp1)⟩, sl1.kp k2 (NoTL.one hp1) (nm1 M0.pd.symm), ⟨fun e he => ok1 e (List.mem_of_mem_take he), ok2, Nat.le_max_right _ _⟩⟩ ((k1.pre k2).up (by simp) M0.nt)
    · show (if m.st.length < 1 then none else some _) = some _
      rw [if_neg (by omega)]
    · rw [upd_same]
      show _ = some (HO.ins C dx (fl c d (max m.hi (m.st.take (m.st.length - 1)).length)))
      rw [Nat.max_eq_left (by rw [List.length_take]; omega)]
  | swap =>
    have hq : H q = some (.tup [.str "swap"]) := hq
    refine ⟨_, rfl, q, _, _, _, rfl, rfl, SqT.of hq, at_of (j := 0) rfl rfl, rfl, false, congrArg V.bl (by decide +kernel), iteF ?_⟩
    refine ⟨_, rfl, p, C, dx, _, _, rfl, hp, T.cl, T.nS, rfl, s, _, rfl, .inl (SqL.of hs), ?_⟩
    refine ⟨_, rfl, q, _, _, _, rfl, rfl, SqT.of hq, at_of (j := 0) rfl rfl, rfl, true, congrArg V.bl (by decide +kernel), iteT ⟨_, _, rfl, rfl, _, rfl, ?_⟩⟩
    rw [List.length_map, tl]
    rcases Nat.lt_or_ge m.st.length 2 with z | pos
    · rw [decide_eq_true (show (m.st.length : Int) < 2 by omega)]
      refine iteT (ke ?_ H (Kp.refl H))
      have hl : (m.st.drop (m.st.length - 2)).length < 2 := by rw [List.length_drop]; omega
      show (match m.st.drop (m.st.length - 2) with | [a, b] => some (withSt m (m.st.take (m.st.length - 2) ++ [b, a])) | _ => none) = none
      match m.st.drop (m.st.length - 2), hl with
      | [], _ => rfl
      | [_], _ => rfl
    rw [decide_eq_false (show ¬ (m.st.length : Int) < 2 by omega)]
    refine iteF ?_
    refine ⟨_, rfl, q, _, _, _, rfl, rfl, SqT.of hq, at_of (j := 0) rfl rfl, rfl, false, congrArg V.bl (by decide +kernel), iteF ?_⟩
    refine ⟨_, rfl, q, _, _, _, rfl, rfl, SqT.of hq, at_of (j := 0) rfl rfl, rfl, false, congrArg V.bl (by decide +kernel), iteF ?_⟩
    obtain ⟨t1, ht1⟩ : ∃ t, ts[m.st.length - 1]? = some t := ⟨_, List.getElem?_eq_getElem (by omega)⟩
    obtain ⟨e1, he1, pe1⟩ := Paired.get hP _ t1 ht1
    obtain ⟨t2, ht2⟩ : ∃ t, ts[m.st.length - 2]? = some t := ⟨_, List.getElem?_eq_getElem (by omega)⟩
    obtain ⟨e2, he2, pe2⟩ := Paired.get hP _ t2 ht2
    have at1 : atI (ts.map V.ref) (-1) = some (.ref t1) := by
      rw [last_get (by rw [List.length_map]; omega) rfl, List.length_map, tl, List.getElem?_map, ht1]
      rfl
    have at2 : atI (ts.map V.ref) (-2) = some (.ref t2) := by
      show (ixN (ts.map V.ref).length (-2)).bind _ = _
      have : ixN (ts.map V.ref).length (-2) = some (m.st.length - 2) := by
        rw [List.length_map, tl]
        unfold ixN
        rw [if_neg (by decide), if_pos (by omega)]
        congr 1
        omega
      rw [this]
      show (ts.map V.ref)[m.st.length - 2]? = _
      rw [List.getElem?_map, ht2]
      rfl
    have dr : m.st.drop (m.st.length - 2) = [e2, e1] := by
      apply List.ext_getElem?
      intro i
      rw [List.getElem?_drop]
      match i with
      | 0 => exact he2
      | 1 => rw [show m.st.length - 2 + 1 = m.st.length - 1 by omega]; exact he1
      | i + 2 => rw [List.getElem?_eq_none (by omega)]; rfl
    refine ⟨_, rfl, p, C, dx, _, _, rfl, hp, T.cl, T.nS, rfl, _, rfl, _, rfl, s, _, rfl, SqL.of hs, fun c hc => ?_⟩
    rw [cut_neg _ (-2) 2 rfl (by decide), List.length_map, tl, ← List.map_take]
    have k1 : Kp H (upd H c (.lst ((ts.take (m.st.length - 2)).map V.ref))) [] := Kp.new hc
    have c1 : upd H c (.lst ((ts.take (m.st.length - 2)).map V.ref)) c = some (.lst ((ts.take (m.st.length - 2)).map V.ref)) := upd_same
    have hp1 := k1.keep _ _ hp (fun _ z => nomatch z) (by simp)
    have hs1 := k1.lst0 hs
    generalize upd H c (.lst ((ts.take (m.st.length - 2)).map V.ref)) = H1 at k1 c1 hp1 hs1 ⊢
    refine ⟨c, _, rfl, .inr (SqL.of c1), ?_⟩
    refine ⟨_, rfl, p, C, dx, _, _, rfl, hp1, T.cl, T.nS, rfl, _, rfl, s, _, _, _, rfl, rfl, SqL.of hs1, at1, ?_⟩
    refine ⟨_, rfl, p, C, dx, _, _, rfl, hp1, T.cl, T.nS, rfl, _, rfl, s, _, _, _, rfl, rfl, SqL.of hs1, at2, ?_⟩
    have lt : ((ts.take (m.st.length - 2)).map V.ref ++ [V.ref t1, V.ref t2]).length ≤ 502 := by
      rw [List.length_append, List.length_map, List.length_take]
      show _ + 2 ≤ 502
      omega
    refine ⟨Nat.le_trans lt (by decide), fun l hl => ?_⟩
    have k2 : Kp H1 (upd H1 l (.lst ((ts.take (m.st.length - 2)).map V.ref ++ [V.ref t1, V.ref t2]))) [] := Kp.new hl
    have l2 : upd H1 l (.lst ((ts.take (m.st.length - 2)).map V.ref ++ [V.ref t1, V.ref t2])) l = some (.lst ((ts.take (m.st.length - 2) ++ [t1, t2]).map V.ref)) := by
      rw [upd_same, List.map_append]
      rfl
    have hp2 := k2.keep _ _ hp1 (fun _ z => nomatch z) (by simp)
    have pl : p ≠ l := ne_of_none hp1 hl
    generalize upd H1 l (.lst ((ts.take (m.st.length - 2)).map V.ref ++ [V.ref t1, V.ref t2])) = H2 at k2 l2 hp2 ⊢
    have k12 := k1.then k2
    have P2 : Paired (PairAt H2) (ts.take (m.st.length - 2) ++ [t1, t2]) (m.st.take (m.st.length - 2) ++ [e1, e2]) :=
      Paired.app (Paired.mapP (Paired.take hP _) fun _ _ z => z.kp k12 NoTL.nil) (.cons (pe1.kp k12 NoTL.nil) (.cons (pe2.kp k12 NoTL.nil) .nil))
    refine ⟨_, rfl, p, C, dx, _, rfl, hp2, T.cl, T.nS, (by show 3 < 1000; decide), ?_⟩
    rw [fl_stack]
    have k3 : Kp H2 (upd H2 p (.ins C dx (fl l d m.hi))) [p] := Kp.wi hp2
    refine k (withSt m (m.st.take (m.st.length - 2) ++ [e1, e2])) ?_ _ ⟨⟨dx, l, ?_, ts.take (m.st.length - 2) ++ [t1, t2], k3.lst l2 (nm1 pl.symm), Paired.mapP P2 fun _ _ z => z.kp k3 (NoTL.one hp2)⟩, (M0.sl.kp k12 NoTL.nil (by simp)).kp k3 (NoTL.one hp2) (nm1 M0.pd.symm), ⟨fun e he => ?_, ok2, Nat.le_max_right _ _⟩⟩ ((k12.pre k3).up (by simp) M0.nt)
    · show (match m.st.drop (m.st.length - 2) with | [a, b] => some (withSt m (m.st.take (m.st.length - 2) ++ [b, a])) | _ => none) = some _
      rw [dr]
    · rw [upd_same]
      show _ = some (HO.ins C dx (fl l d (max m.hi (m.st.take (m.st.length - 2) ++ [e1, e2]).length)))
      rw [Nat.max_eq_left (by rw [List.length_append, List.length_take]; show _ + 2 ≤ _; omega)]
    · rcases List.mem_append.mp he with he | he
      · exact ok1 e (List.mem_of_mem_take he)
      · simp only [List.mem_cons, List.not_mem_nil, or_false] at he
        rcases he with rfl | rfl
        · exact ok1 _ (List.mem_of_getElem? he1)
        · exact ok1 _ (List.mem_of_getElem? he2)
end
end K48

set_option Elab.async false
set_option maxRecDepth 100000
set_option maxHeartbeats 4000000
namespace K48
open PySem L2
/-! ### runs, by themselves -/
theorem runM_snoc (f : Str → List V → V) : ∀ (c : List Ins) (i : Ins) (m : Mc), runM f (c ++ [i]) m = (runM f c m).bind fun m => step f m i
  | [], i, m => by
    show (step f m i).bind _ = step f m i
    cases step f m i <;> rfl
  | j :: c, i, m => by
    show (step f m j).bind (runM f (c ++ [i])) = ((step f m j).bind (runM f c)).bind _
    cases step f m j with
    | none => rfl
    | some m' => exact runM_snoc f c i m'
theorem runM_app (f : Str → List V → V) : ∀ (c d : List Ins) (m : Mc), runM f (c ++ d) m = (runM f c m).bind (runM f d)
  | [], d, m => rfl
  | j :: c, d, m => by
    show (step f m j).bind (runM f (c ++ d)) = ((step f m j).bind (runM f c)).bind _
    cases step f m j with
    | none => rfl
    | some m' => exact runM_app f c d m'
theorem runM_next {f : Str → List V → V} {c : List Ins} {i : Nat} {x : Ins} {m m1 : Mc} (h : runM f (c.take i) m = some m1) (hx : c[i]? = some x) : runM f (c.take (i + 1)) m = step f m1 x := by
  rw [List.take_add_one, hx]
  show runM f (c.take i ++ [x]) m = _
  rw [runM_snoc, h]
  rfl
theorem runM_none {f : Str → List V → V} {c : List Ins} {i : Nat} {m : Mc} (h : runM f (c.take i) m = none) : runM f c m = none := by
  rw [← List.take_append_drop i c, runM_app, h]
  rfl
structure Bd (m : Mc) (n : Nat) : Prop where
  s : m.st.length ≤ m.hi
  h : m.hi ≤ n
  l : m.sl.length ≤ n
theorem withSt_bd {m : Mc} {n : Nat} {st : List En} (h : m.hi ≤ n) (l : m.sl.length ≤ n) (e : st.length ≤ n) : Bd (withSt m st) n := ⟨Nat.le_max_right _ _, Nat.max_le.mpr ⟨h, e⟩, l⟩
theorem mv_bd {m m' : Mc} {n : Nat} {i : Ins} (b : Bd m n) (h : mv m i = some m') : Bd m' (n + 1) := by
  have s1 := b.s
  have h1 := b.h
  have l1 := b.l
  cases i with
  | op x => cases h
  | fetch k =>
    have h : (slot m.sl k).map _ = some m' := h
    cases e : slot m.sl k with
    | none => rw [e] at h; cases h
    | some x =>
      rw [e] at h
      cases h
      exact withSt_bd (by omega) (by omega) (by rw [List.length_append]; show _ + 1 ≤ _; omega)
  | keep k =>
    have h : (m.st.getLast?).map _ = some m' := h
    cases e : m.st.getLast? with
    | none => rw [e] at h; cases h
    | some x =>
      rw [e] at h
      cases h
      refine withSt_bd (m := { m with sl := putS m.sl k x }) (show m.hi ≤ _ by omega) ?_ (by omega)
      show (putS m.sl k x).length ≤ n + 1
      exact Nat.le_trans putS_len (by omega)
  | drop =>
    have h : (if m.st.length < 1 then none else some _) = some m' := h
    split at h
    · cases h
    · cases h
      exact withSt_bd (by omega) (by omega) (by rw [List.length_take]; omega)
  | swap =>
    have h : (match m.st.drop (m.st.length - 2) with | [a, b] => some (withSt m (m.st.take (m.st.length - 2) ++ [b, a])) | _ => none) = some m' := h
    split at h
    · rename_i a b hd
      have : (m.st.drop (m.st.length - 2)).length = 2 := by rw [hd]; rfl
      rw [List.length_drop] at this
      cases h
      exact withSt_bd (by omega) (by omega) (by rw [List.length_append, List.length_take]; show _ + 2 ≤ _; omega)
    · cases h
theorem step_bd {f : Str → List V → V} {m m' : Mc} {n : Nat} {i : Ins} (b : Bd m n) (h : step f m i = some m') : Bd m' (n + 1) := by
  cases i with
  | op x =>
    have h : (kindOf x).bind _ = some m' := h
    cases e : kindOf x with
    | none => rw [e] at h; cases h
    | some r =>
      rw [e] at h
      have h : (takeM r.1 m.st).map _ = some m' := h
      cases e2 : takeM r.1 m.st with
      | none => rw [e2] at h; cases h
      | some t =>
        rw [e2] at h
        cases h
        have s1 := b.s
        have h1 := b.h
        have l1 := b.l
        refine withSt_bd (by omega) (by omega) ?_
        unfold takeM at e2
        split at e2
        · cases e2
          rw [List.length_append, List.length_take]
          show _ + 1 ≤ _
          omega
        · cases e2
  | fetch k => exact mv_bd (i := .fetch k) b h
  | keep k => exact mv_bd (i := .keep k) b h
  | drop => exact mv_bd (i := .drop) b h
  | swap => exact mv_bd (i := .swap) b h
theorem runM_bd {f : Str → List V → V} {c : List Ins} : ∀ {i : Nat} {m : Mc}, i ≤ c.length → runM f (c.take i) m0 = some m → Bd m i
  | 0, m, _, h => by
    rw [List.take_zero] at h
    cases h
    exact ⟨Nat.le_refl _, Nat.le_refl _, Nat.le_refl _⟩
  | i + 1, m, hi, h => by
    obtain ⟨x, hx⟩ : ∃ x, c[i]? = some x := ⟨_, List.getElem?_eq_getElem (by omega)⟩
    cases e : runM f (c.take i) m0 with
    | none =>
      rw [List.take_add_one, hx] at h
      have h : runM f (c.take i ++ [x]) m0 = some m := h
      rw [runM_snoc, e] at h
      cases h
    | some m1 =>
      rw [runM_next e hx] at h
      exact step_bd (runM_bd (by omega) e) h
/-! ### codes -/
def CodeAt (H : Hp) (a : Addr) (c : List Ins) : Prop := ∃ qs : List Addr, H a = some (.tup (qs.map V.ref)) ∧ Paired (InsAt H) qs c
theorem CodeAt.kp {H H' : Hp} {M : List Addr} {a : Addr} {c : List Ins} (h : CodeAt H a c) (k : Kp H H' M) (n : ∀ m ∈ M, ∀ xs, H m ≠ some (.tup xs)) : CodeAt H' a c := by
  obtain ⟨qs, x, y⟩ := h
  exact ⟨qs, k.tup x fun z => n _ z _ x, Paired.mapP y fun _ _ e => k.tup e fun z => n _ z _ e⟩
theorem CodeAt.kp0 {H H' : Hp} {a : Addr} {c : List Ins} (h : CodeAt H a c) (k : Kp H H' []) : CodeAt H' a c := h.kp k fun _ h => nomatch h
def NmOk (c : List Ins) : Prop := ∀ n, Ins.op n ∈ c → n ∈ n18
theorem n18_ok : ∀ n ∈ n18, okN n = true ∧ (kindOf n).isSome = true := by decide +kernel
def srtB (s : Str) : Bool := decide (s = ("num" : Str)) || decide (s = ("truth" : Str))
theorem srtB_ok {s : Str} (h : srtB s = true) : SrtOk s := by
  unfold srtB at h
  rw [Bool.or_eq_true, decide_eq_true_eq, decide_eq_true_eq] at h
  exact h
theorem n18_srt : ∀ n ∈ n18, ((kindOf n).map fun r => (r.1.all srtB) && srtB r.2) = some true := by decide +kernel
theorem kind_srt {n : Str} (h : n ∈ n18) {r : List Str × Str} (e : kindOf n = some r) : (∀ s ∈ r.1, SrtOk s) ∧ SrtOk r.2 := by
  have := n18_srt n h
  rw [e] at this
  have := Option.some.inj this
  rw [Bool.and_eq_true, List.all_eq_true] at this
  exact ⟨fun s hs => srtB_ok (this.1 s hs), srtB_ok this.2⟩
def f0 : Str → List V → V := fun _ _ => .non
def spTried (C Cr Pn : Addr) : Sp := fun vs H Q E => ∃ (a : Addr) (c : List Ins), vs = [.ref a] ∧ CodeAt H a c ∧ c.length ≤ 400 ∧ NmOk c ∧ GxR.TabG H Pn ∧
  (∀ m, runM f0 c m0 = some m → ∀ H' p d, MAt C H' p d m → Kp H H' [] → Q (.ref p) H') ∧ (runM f0 c m0 = none → ∀ H', Kp H H' [] → E (.ref Cr) none H')
section
variable {P : Program} {w : World} {K : PySem.W.Frag} {mg : Str → Option Value} {base : Heap}
theorem passN {X : Cx} {E : XK} (hs : X.stack = X.env :: X.outer) (hf : X.env.frame = some X.env.locals) (hex : X.ex = []) {E₁ : Value → Shared → Prop}
    (hx : X.xe = fun e s' => wpAny (model X.prog X.w) X.A (leaving X.env e) (fun _ s'' => L2N.CX X.prog X.w X.outer X.H_0 X.s_0 E e s'') E₁ s') : Passes (L2N.CX X.prog X.w) X E := L2N.passes_call (L2N.takes_of hs hf hex hx) fun _ _ _ _ h => h
theorem made_kp {H H1 : Hp} {C p dx d : Addr} (np : H p = none) (ndx : H dx = none) (nex : dx ≠ p) (M1 : MAt C H1 p d m0) (kp1 : Kp (upd (upd H dx (.own p)) p (.ins C dx [])) H1 [p]) (hd : upd (upd H dx (.own p)) p (.ins C dx []) d = none) : Kp H H1 [] ∧ H d = none := by
  have k0 : Kp H (upd (upd H dx (.own p)) p (.ins C dx [])) [] := (Kp.new ndx).then (Kp.new (by rw [upd_ne nex.symm]; exact np))
  refine ⟨k0.fresh kp1 fun x hx => by rw [List.mem_singleton.mp hx]; exact np, ?_⟩
  cases e : H d with
  | none => rfl
  | some o =>
    exfalso
    by_cases z : d = p
    · exact M1.pd z.symm
    by_cases z2 : d = dx
    · rw [z2, ndx] at e
      cases e
    · rw [upd_ne z, upd_ne z2, e] at hd
      cases hd
theorem not_do (i : Ins) (h : ∀ n, i ≠ .op n) : ∃ s r, cells i = .str s :: r ∧ decide (V.str s = V.str "do") = false := by
  cases i with
  | op n => exact absurd rfl (h n)
  | swap => exact ⟨_, _, rfl, by decide +kernel⟩
  | drop => exact ⟨_, _, rfl, by decide +kernel⟩
  | keep k => exact ⟨_, _, rfl, by decide +kernel⟩
  | fetch k => exact ⟨_, _, rfl, by decide +kernel⟩
theorem step_mv {f : Str → List V → V} {m : Mc} {i : Ins} (h : ∀ n, i ≠ .op n) : step f m i = mv m i := by
  cases i with
  | op n => exact absurd rfl (h n)
  | _ => rfl
theorem Ins.isOp (i : Ins) : (∃ n, i = .op n) ∨ ∀ n, i ≠ .op n := by
  cases i with
  | op n => exact .inl ⟨n, rfl⟩
  | _ => exact .inr fun _ h => nomatch h
theorem fresh2 {H H1 H2 : Hp} {p d : Addr} (a : Kp H H1 []) (b : Kp H1 H2 [p, d]) (hp : H p = none) (hd : H d = none) : Kp H H2 [] := a.fresh b fun x hx => by
  simp only [List.mem_cons, List.not_mem_nil, or_false] at hx
  rcases hx with rfl | rfl
  · exact hp
  · exact hd
theorem fresh1 {H H1 H2 : Hp} {p : Addr} (a : Kp H H1 []) (b : Kp H1 H2 [p]) (hp : H p = none) : Kp H H2 [] := a.fresh b fun x hx => by
  rw [List.mem_singleton.mp hx]
  exact hp
theorem sc_tried : FnScope ["code", "machine", "instruction", "ins", "out"] ["code"] (defScope s_tried) := ⟨rfl, rfl, rfl, by decide +kernel, rfl, by decide +kernel, by decide +kernel⟩
theorem ok_tried {f C Cr Cm Pn S f1 f2 f3 f4 f5 : Addr} {fd fd1 fd2 fd3 fd4 fd5 : FuncData} (F : Fun K "tried" "tried" s_tried f fd) (T : Txt K mg C Cr Cm) (TS : Std K mg S)
    (M_Machine : L2.Mk K C f1) (G_Machine___init__ : FnOk P w K mg base CX0 1 f1 fd1 ["self"] (spInit C)) (b_Machine___init__ : Binds K fd1 ["self"] [])
    (G_kind_of : FnOk P w K mg base CX0 4 f2 fd2 ["signature", "name"] (spKind K Pn S)) (F_kind_of : Fun K "kind_of" "kind_of" s_kind_of f2 fd2) (b_kind_of : Binds K fd2 ["signature", "name"] []) (g_kind_of : mg "kind_of" = some (.ref f2))
    (G_Machine_take : FnOk P w K mg base (L2N.CX P w) 1 f3 fd3 ["self", "sorts"] (spTake K C Cr)) (b_Machine_take : Binds K fd3 ["self", "sorts"] []) (m_Machine_take : Meth K C "take" f3)
    (G_Machine_put : FnOk P w K mg base CX0 1 f4 fd4 ["self", "sort", "thing"] (spPut C)) (b_Machine_put : Binds K fd4 ["self", "sort", "thing"] []) (m_Machine_put : Meth K C "put" f4)
    (G_Machine_move : FnOk P w K mg base (L2N.CX P w) 2 f5 fd5 ["self", "instruction"] (spMove C Cr)) (b_Machine_move : Binds K fd5 ["self", "instruction"] []) (m_Machine_move : Meth K C "move" f5) :
    FnOk P w K mg base (L2N.CX P w) 5 f fd ["code"] (spTried C Cr Pn) := by
  refine okR F sc_tried (fun vs H Q E h => ?_) (fun cdv A outer s H vs Q E hr4 h => ?_)
  · obtain ⟨a, c, rfl, _⟩ := h
    rfl
  obtain ⟨a, c, rfl, hc, len, nm, hT, k, ke⟩ := h
  have nd := sc_tried.nd
  have hr1 := hr4.mono (by decide : 1 ≤ 4)
  have hr2 := hr4.mono (by decide : 2 ≤ 4)
  have g_STANDARD := TS.g
  refine ⟨_, (pss_cons (ps_set (i := 1) nd rfl (.inl rfl) (pe_make0 M_Machine G_Machine___init__ hr2 (by rfl) T.mgC b_Machine___init__ .nil pass0))
    (pss_cons (ps_for PassesOwn.leaving rfl (pi_tup (pv 0)) (pg_name (i := 2) nd rfl (.inl rfl)) 
      (pss_one (ps_if (pt_cmpR op_eq (pe_ix ix_tup (pv 2) pe_int (fun _ _ => rfl)) pe_str (nomark _)) 
        (pss_cons (ps_asg (pe_call G_kind_of hr4 (by rfl) g_kind_of F_kind_of.kp b_kind_of .nil pass0 (pa_cons (pe_gref (by rfl) g_STANDARD) (pa_cons (pe_ix ix_tup (pv 2) pe_int (fun _ _ => rfl)) pa_nil))) (pg_tup rfl (pgs_cons (pg_name (i := 3) nd rfl (.inl rfl)) (pgs_cons (pg_name (i := 4) nd rfl (.inl rfl)) pgs_nil))))
        (pss_cons (ps_expr (pe_meth (pv 1) T.cl m_Machine_take G_Machine_take hr1 b_Machine_take .nil (passN rfl rfl rfl rfl) (pa_cons (pv 3) pa_nil)))
        (pss_one (ps_expr (pe_meth (pv 1) T.cl m_Machine_put G_Machine_put hr1 b_Machine_put .nil pass0 (pa_cons (pv 4) (pa_cons pe_non pa_nil))))))) 
        (pss_one (ps_expr (pe_meth (pv 1) T.cl m_Machine_move G_Machine_move hr2 b_Machine_move .nil (passN rfl rfl rfl rfl) (pa_cons (pv 2) pa_nil)))))))
    (pss_one (ps_ret (pv 1))))), ?_⟩
  intro p dx np ndx nex
  refine ⟨p, dx, rfl, upd_same, fun H1 d M1 kp1 hd => ⟨rfl, ?_⟩⟩
  obtain ⟨k1, hdn⟩ := made_kp np ndx nex M1 kp1 hd
  clear kp1
  obtain ⟨qs, hc1, hC⟩ := hc
  have ql : qs.length = c.length := Paired.len hC
  refine ⟨_, rfl, a, rfl, ⟨_, SqT.of (k1.tup0 hc1)⟩, for_tup (K := K) (a := a) (xs := qs.map V.ref) (fun i σ H' => Kp H H' [] ∧ ∃ (m : Mc) (u2 u3 u4 : Option V), runM f0 (c.take i) m0 = some m ∧ MAt C H' p d m ∧ σ = [some (.ref a), some (.ref p), u2, u3, u4])
    ⟨k1, m0, none, none, none, rfl, M1, rfl⟩ (fun i σ H' _ h => SqT.of (h.1.tup0 hc1)) ?_ ?_⟩
  · rintro i x σ H2 hx ⟨k2, m, u2, u3, u4, hm, M2, rfl⟩
    rw [List.getElem?_map] at hx
    cases hqx : qs[i]? with
    | none => rw [hqx] at hx; cases hx
    | some q =>
      rw [hqx] at hx
      cases hx
      obtain ⟨ins, hi, hq⟩ := Paired.get hC i q hqx
      have hq : H2 q = some (.tup (cells ins)) := k2.tup0 hq
      have ilt : i < c.length := (List.getElem?_eq_some_iff.mp hi).1
      have bd := runM_bd (by omega) hm
      have h5 : m.hi ≤ 500 := by have := bd.h; omega
      have l5 : m.sl.length ≤ 500 := by have := bd.l; omega
      have nx := runM_next hm hi
      have fail : step f0 m ins = none → runM f0 c m0 = none := fun e => runM_none (i := i + 1) (nx.trans e)
      obtain ⟨⟨dx2, s2, hp2, hs2⟩, _, _⟩ := id M2
      rcases ins.isOp with ⟨n, rfl⟩ | hno
      · have hn := nm n (List.mem_of_getElem? hi)
        obtain ⟨okn, kis⟩ := n18_ok n hn
        refine ⟨_, rfl, q, _, _, _, rfl, rfl, SqT.of hq, at_of (j := 0) rfl rfl, rfl, true, congrArg V.bl (by decide +kernel), iteT ?_⟩
        refine ⟨_, rfl, q, _, _, _, rfl, rfl, SqT.of hq, at_of (j := 1) rfl rfl, n, rfl, okn, k2.tabG hT, (fun e => by rw [e] at kis; cases kis), fun r v H3 er k3 kat => ?_⟩
        obtain ⟨kt, kq, rfl, e1, e2⟩ := kat
        obtain ⟨sr1, sr2⟩ := kind_srt hn er
        refine ⟨kt, _, rfl, SqT.of e1, rfl, _, _, rfl, _, _, rfl, rfl, ?_⟩
        have hp3 := k3.keep _ _ hp2 (fun _ z => nomatch z) (by simp)
        have es : ∀ o, takeM r.1 m.st = o → step f0 m (.op n) = o.map fun t => withSt m (t.2 ++ [(r.2, f0 n t.1)]) := fun o eo => by
          show (kindOf n).bind _ = _
          rw [er, ← eo]
          rfl
        refine ⟨_, rfl, p, dx2, _, rfl, hp3, rfl, _, rfl, p, d, kq, m, r.1, rfl, M2.kp0 k3, e2, sr1, h5, fun xs st' tk H4 l M4 hl k4 => ?_, fun tk H4 k4 => ke (fail (es _ tk)) H4 ((k2.then k3).then k4)⟩
        obtain ⟨⟨dx4, s4, hp4, hs4⟩, _, _⟩ := id M4
        refine ⟨_, rfl, p, dx4, _, rfl, hp4, rfl, _, rfl, p, d, { m with st := st' }, (r.2, .non), rfl, M4, sr2, h5, fun H5 M5 k5 => ⟨?_, _, _, _, _, nx.trans (es _ tk), M5, rfl⟩⟩
        exact fresh1 (k2.then k3) (k4.both k5) np
      · obtain ⟨s, r, ec, ed⟩ := not_do ins hno
        rw [ec] at hq
        refine ⟨_, rfl, q, _, _, _, rfl, rfl, SqT.of hq, at_of (j := 0) rfl rfl, rfl, false, congrArg V.bl ed, iteF ?_⟩
        refine ⟨_, rfl, p, dx2, _, rfl, hp2, rfl, _, rfl, p, d, q, m, ins, rfl, M2, by rw [← ec] at hq; exact hq, hno, h5, l5, fun m' em H3 M3 k3 => ⟨?_, m', _, _, _, nx.trans ((step_mv hno).trans em), M3, rfl⟩, fun em H3 k3 => ke (fail ((step_mv hno).trans em)) H3 (k2.then k3)⟩
        exact fresh2 k2 k3 np hdn
  · rintro σ H' ⟨k2, m, u2, u3, u4, hm, M2, rfl⟩
    rw [List.length_map, ql, List.take_length] at hm
    exact ⟨_, rfl, k m hm H' p d M2 k2⟩
end
end K48

set_option Elab.async false
set_option maxRecDepth 100000
set_option maxHeartbeats 4000000
namespace K48
open PySem L2
/-! ### what names make: typed -/
def TyV (B : Nat) (s : Str) (v : V) : Prop := (s = "num" ∧ ∃ i : Int, v = .int i ∧ i.natAbs < 2 ^ B) ∨ (s = "truth" ∧ ∃ b, v = .bl b)
theorem num_truth : ("num" : Str) ≠ "truth" := by decide +kernel
theorem TyV.num {B : Nat} {v : V} (h : TyV B "num" v) : ∃ i : Int, v = .int i ∧ i.natAbs < 2 ^ B := h.elim (fun z => z.2) fun z => absurd z.1 num_truth
theorem TyV.truth {B : Nat} {v : V} (h : TyV B "truth" v) : ∃ b, v = .bl b := h.elim (fun z => absurd z.1 num_truth.symm) fun z => z.2
theorem TyV.up {B C : Nat} {s : Str} {v : V} (h : TyV B s v) (l : B ≤ C) : TyV C s v := h.imp (fun ⟨a, i, b, c⟩ => ⟨a, i, b, Nat.lt_of_lt_of_le c (Nat.pow_le_pow_right (by decide) l)⟩) fun z => z
theorem TyV.int {B : Nat} {i : Int} (h : i.natAbs < 2 ^ B) : TyV B "num" (.int i) := .inl ⟨rfl, i, rfl, h⟩
theorem TyV.bl {B : Nat} {b : Bool} : TyV B "truth" (.bl b) := .inr ⟨rfl, b, rfl⟩
def W3 (ws : List V) : Prop := ∃ a b c : Int, ws = [.int a, .int b, .int c] ∧ a.natAbs ≤ 1000000 ∧ b.natAbs ≤ 1000000 ∧ c.natAbs ≤ 1000000
theorem mulok {a b : Int} {B : Nat} (ha : a.natAbs < 2 ^ B) (hb : b.natAbs < 2 ^ B) (h : B + B ≤ 134217728) : IntMulOk a b :=
  PyProof.Rows.mulOk_of_bits (PyProof.Rows.intBits_le ha) (PyProof.Rows.intBits_le hb) h
theorem two1 {B : Nat} {s : Str} {xs : List V} (h : Paired (TyV B) [s] xs) : ∃ x, xs = [x] ∧ TyV B s x := by
  cases h with
  | cons a r =>
    cases r
    exact ⟨_, rfl, a⟩
theorem two2 {B : Nat} {s t : Str} {xs : List V} (h : Paired (TyV B) [s, t] xs) : ∃ x y, xs = [x, y] ∧ TyV B s x ∧ TyV B t y := by
  cases h with
  | cons a r =>
    obtain ⟨y, rfl, b⟩ := two1 r
    exact ⟨_, _, rfl, a, b⟩
theorem two3 {B : Nat} {s t u : Str} {xs : List V} (h : Paired (TyV B) [s, t, u] xs) : ∃ x y z, xs = [x, y, z] ∧ TyV B s x ∧ TyV B t y ∧ TyV B u z := by
  cases h with
  | cons a r =>
    obtain ⟨y, z, rfl, b, c⟩ := two2 r
    exact ⟨_, _, _, rfl, a, b, c⟩
theorem two0 {B : Nat} {xs : List V} (h : Paired (TyV B) [] xs) : xs = [] := by
  cases h
  rfl
theorem kind_eq {n : Str} {ins : List Str} {out : Str} {r : List Str × Str} (h : kindOf n = some (ins, out)) (e : kindOf n = some r) : r = (ins, out) := by
  rw [h] at e
  exact (Option.some.inj e).symm
theorem mkr_total {ws : List V} (hw : W3 ws) {n : Str} (hn : n ∈ n18) {r : List Str × Str} (e : kindOf n = some r) {B : Nat} {xs : List V} (h : Paired (TyV B) r.1 xs) (hB : B + B ≤ 134217728) : ∃ v, Mkr ws n xs v := by
  obtain ⟨wa, wb, wc, rfl, _⟩ := hw
  simp only [n18, List.mem_cons, List.not_mem_nil, or_false] at hn
  rcases hn with rfl | rfl | rfl | rfl | rfl | rfl | rfl | rfl | rfl | rfl | rfl | rfl | rfl | rfl | rfl | rfl | rfl | rfl
  · have er := kind_eq (show kindOf "x" = some (([], "num") : List Str × Str) from by decide +kernel) e
    subst er
    rw [two0 h]
    exact ⟨_, .x _ rfl⟩
  · have er := kind_eq (show kindOf "y" = some (([], "num") : List Str × Str) from by decide +kernel) e
    subst er
    rw [two0 h]
    exact ⟨_, .y _ rfl⟩
  · have er := kind_eq (show kindOf "z" = some (([], "num") : List Str × Str) from by decide +kernel) e
    subst er
    rw [two0 h]
    exact ⟨_, .z _ rfl⟩
  · have er := kind_eq (show kindOf "7" = some (([], "num") : List Str × Str) from by decide +kernel) e
    subst er
    rw [two0 h]
    exact ⟨_, .n7⟩
  · have er := kind_eq (show kindOf "-2" = some (([], "num") : List Str × Str) from by decide +kernel) e
    subst er
    rw [two0 h]
    exact ⟨_, .n2⟩
  · have er := kind_eq (show kindOf "0" = some (([], "num") : List Str × Str) from by decide +kernel) e
    subst er
    rw [two0 h]
    exact ⟨_, .n0⟩
  · have er := kind_eq (show kindOf "yes" = some (([], "truth") : List Str × Str) from by decide +kernel) e
    subst er
    rw [two0 h]
    exact ⟨_, .ar _ _ _ .yes⟩
  · have er := kind_eq (show kindOf "no" = some (([], "truth") : List Str × Str) from by decide +kernel) e
    subst er
    rw [two0 h]
    exact ⟨_, .ar _ _ _ .no⟩
  · have er := kind_eq (show kindOf "add" = some ((["num", "num"], "num") : List Str × Str) from by decide +kernel) e
    subst er
    obtain ⟨x, y, rfl, tx, ty⟩ := two2 h
    obtain ⟨x, rfl, bx⟩ := tx.num
    obtain ⟨y, rfl, bz⟩ := ty.num
    exact ⟨_, .ar _ _ _ (.add x y (mulok bx bz hB))⟩
  · have er := kind_eq (show kindOf "sub" = some ((["num", "num"], "num") : List Str × Str) from by decide +kernel) e
    subst er
    obtain ⟨x, y, rfl, tx, ty⟩ := two2 h
    obtain ⟨x, rfl, bx⟩ := tx.num
    obtain ⟨y, rfl, bz⟩ := ty.num
    exact ⟨_, .ar _ _ _ (.sub x y (mulok bx bz hB))⟩
  · have er := kind_eq (show kindOf "mul" = some ((["num", "num"], "num") : List Str × Str) from by decide +kernel) e
    subst er
    obtain ⟨x, y, rfl, tx, ty⟩ := two2 h
    obtain ⟨x, rfl, bx⟩ := tx.num
    obtain ⟨y, rfl, bz⟩ := ty.num
    exact ⟨_, .ar _ _ _ (.mul x y (mulok bx bz hB))⟩
  · have er := kind_eq (show kindOf "min" = some ((["num", "num"], "num") : List Str × Str) from by decide +kernel) e
    subst er
    obtain ⟨x, y, rfl, tx, ty⟩ := two2 h
    obtain ⟨x, rfl, bx⟩ := tx.num
    obtain ⟨y, rfl, bz⟩ := ty.num
    exact ⟨_, .ar _ _ _ (.min x y)⟩
  · have er := kind_eq (show kindOf "less" = some ((["num", "num"], "truth") : List Str × Str) from by decide +kernel) e
    subst er
    obtain ⟨x, y, rfl, tx, ty⟩ := two2 h
    obtain ⟨x, rfl, bx⟩ := tx.num
    obtain ⟨y, rfl, bz⟩ := ty.num
    exact ⟨_, .ar _ _ _ (.less x y)⟩
  · have er := kind_eq (show kindOf "alike" = some ((["num", "num"], "truth") : List Str × Str) from by decide +kernel) e
    subst er
    obtain ⟨x, y, rfl, tx, ty⟩ := two2 h
    obtain ⟨x, rfl, bx⟩ := tx.num
    obtain ⟨y, rfl, bz⟩ := ty.num
    exact ⟨_, .ar _ _ _ (.alike x y)⟩
  · have er := kind_eq (show kindOf "both" = some ((["truth", "truth"], "truth") : List Str × Str) from by decide +kernel) e
    subst er
    obtain ⟨x, y, rfl, tx, ty⟩ := two2 h
    obtain ⟨x, rfl⟩ := tx.truth
    obtain ⟨y, rfl⟩ := ty.truth
    exact ⟨_, .ar _ _ _ (.both x y)⟩
  · have er := kind_eq (show kindOf "not" = some ((["truth"], "truth") : List Str × Str) from by decide +kernel) e
    subst er
    obtain ⟨x, rfl, tx⟩ := two1 h
    obtain ⟨x, rfl⟩ := tx.truth
    exact ⟨_, .ar _ _ _ (.not x)⟩
  · have er := kind_eq (show kindOf "neg" = some ((["num"], "num") : List Str × Str) from by decide +kernel) e
    subst er
    obtain ⟨x, rfl, tx⟩ := two1 h
    obtain ⟨x, rfl, bx⟩ := tx.num
    exact ⟨_, .ar _ _ _ (.neg x)⟩
  · have er := kind_eq (show kindOf "pick" = some ((["truth", "num", "num"], "num") : List Str × Str) from by decide +kernel) e
    subst er
    obtain ⟨x, y, z, rfl, tx, ty, tz⟩ := two3 h
    obtain ⟨x, rfl⟩ := tx.truth
    obtain ⟨y, rfl, bz⟩ := ty.num
    obtain ⟨z, rfl, bz⟩ := tz.num
    exact ⟨_, .ar _ _ _ (.pick x y z)⟩
theorem b2 {B : Nat} (i : Int) (h : i.natAbs < 2 ^ B) : i.natAbs < 2 ^ (2 * B) := Nat.lt_of_lt_of_le h (Nat.pow_le_pow_right (by decide) (by omega))
theorem bsum {B : Nat} {a b s : Int} (hB : 21 ≤ B) (ha : a.natAbs < 2 ^ B) (hb : b.natAbs < 2 ^ B) (hs : s.natAbs ≤ a.natAbs + b.natAbs) : s.natAbs < 2 ^ (2 * B) := by
  have : 2 ^ (B + 1) ≤ 2 ^ (2 * B) := Nat.pow_le_pow_right (by decide) (by omega)
  rw [Nat.pow_succ] at this
  omega
theorem bmul {B : Nat} {a b : Int} (ha : a.natAbs < 2 ^ B) (hb : b.natAbs < 2 ^ B) : (a * b).natAbs < 2 ^ (2 * B) := by
  rw [Int.natAbs_mul, Nat.two_mul, Nat.pow_add]
  exact Nat.mul_lt_mul'' ha hb
theorem wsmall {B : Nat} {a : Int} (hB : 21 ≤ B) (h : a.natAbs ≤ 1000000) : a.natAbs < 2 ^ (2 * B) := by
  have : 2 ^ 21 ≤ 2 ^ (2 * B) := Nat.pow_le_pow_right (by decide) (by omega)
  omega
theorem mkr_typed {ws : List V} (hw : W3 ws) {n : Str} {r : List Str × Str} (e : kindOf n = some r) {B : Nat} {xs : List V} {v : V} (h : Paired (TyV B) r.1 xs) (hB : 21 ≤ B) (m : Mkr ws n xs v) : TyV (2 * B) r.2 v := by
  obtain ⟨wa, wb, wc, rfl, h1, h2, h3⟩ := hw
  cases m with
  | x v hx =>
    have er := kind_eq (show kindOf "x" = some (([], "num") : List Str × Str) from by decide +kernel) e
    subst er
    cases hx
    exact TyV.int (wsmall hB h1)
  | y v hx =>
    have er := kind_eq (show kindOf "y" = some (([], "num") : List Str × Str) from by decide +kernel) e
    subst er
    cases hx
    exact TyV.int (wsmall hB h2)
  | z v hx =>
    have er := kind_eq (show kindOf "z" = some (([], "num") : List Str × Str) from by decide +kernel) e
    subst er
    cases hx
    exact TyV.int (wsmall hB h3)
  | n7 =>
    have er := kind_eq (show kindOf "7" = some (([], "num") : List Str × Str) from by decide +kernel) e
    subst er
    exact TyV.int (wsmall hB (by decide))
  | n2 =>
    have er := kind_eq (show kindOf "-2" = some (([], "num") : List Str × Str) from by decide +kernel) e
    subst er
    exact TyV.int (wsmall hB (by decide))
  | n0 =>
    have er := kind_eq (show kindOf "0" = some (([], "num") : List Str × Str) from by decide +kernel) e
    subst er
    exact TyV.int (wsmall hB (by decide))
  | ar _ _ _ ar =>
    cases ar with
    | add a b _ =>
      have er := kind_eq (show kindOf "add" = some ((["num", "num"], "num") : List Str × Str) from by decide +kernel) e
      subst er
      obtain ⟨x, y, exy, tx, ty⟩ := two2 h
      obtain ⟨_, ex, bx⟩ := tx.num
      obtain ⟨_, ey, bz⟩ := ty.num
      subst ex ey
      cases exy
      exact TyV.int (bsum hB bx bz (by omega))
    | sub a b _ =>
      have er := kind_eq (show kindOf "sub" = some ((["num", "num"], "num") : List Str × Str) from by decide +kernel) e
      subst er
      obtain ⟨x, y, exy, tx, ty⟩ := two2 h
      obtain ⟨_, ex, bx⟩ := tx.num
      obtain ⟨_, ey, bz⟩ := ty.num
      subst ex ey
      cases exy
      exact TyV.int (bsum hB bx bz (by omega))
    | mul a b _ =>
      have er := kind_eq (show kindOf "mul" = some ((["num", "num"], "num") : List Str × Str) from by decide +kernel) e
      subst er
      obtain ⟨x, y, exy, tx, ty⟩ := two2 h
      obtain ⟨_, ex, bx⟩ := tx.num
      obtain ⟨_, ey, bz⟩ := ty.num
      subst ex ey
      cases exy
      exact TyV.int (bmul bx bz)
    | min a b =>
      have er := kind_eq (show kindOf "min" = some ((["num", "num"], "num") : List Str × Str) from by decide +kernel) e
      subst er
      obtain ⟨x, y, exy, tx, ty⟩ := two2 h
      obtain ⟨_, ex, bx⟩ := tx.num
      obtain ⟨_, ey, bz⟩ := ty.num
      subst ex ey
      cases exy
      refine TyV.int ?_
      split
      · exact b2 _ bz
      · exact b2 _ bx
    | less a b =>
      have er := kind_eq (show kindOf "less" = some ((["num", "num"], "truth") : List Str × Str) from by decide +kernel) e
      subst er
      exact TyV.bl
    | alike a b =>
      have er := kind_eq (show kindOf "alike" = some ((["num", "num"], "truth") : List Str × Str) from by decide +kernel) e
      subst er
      exact TyV.bl
    | both a b =>
      have er := kind_eq (show kindOf "both" = some ((["truth", "truth"], "truth") : List Str × Str) from by decide +kernel) e
      subst er
      exact TyV.bl
    | neg a =>
      have er := kind_eq (show kindOf "neg" = some ((["num"], "num") : List Str × Str) from by decide +kernel) e
      subst er
      obtain ⟨x, ex, tx⟩ := two1 h
      obtain ⟨_, ex2, bx⟩ := tx.num
      subst ex2
      cases ex
      exact TyV.int (by rw [Int.natAbs_neg]; exact b2 _ bx)
    | not a =>
      have er := kind_eq (show kindOf "not" = some ((["truth"], "truth") : List Str × Str) from by decide +kernel) e
      subst er
      exact TyV.bl
    | pick a b c =>
      have er := kind_eq (show kindOf "pick" = some ((["truth", "num", "num"], "num") : List Str × Str) from by decide +kernel) e
      subst er
      obtain ⟨x, y, z, exyz, tx, ty, tz⟩ := two3 h
      obtain ⟨_, ey, bz⟩ := ty.num
      obtain ⟨_, ez, bw⟩ := tz.num
      subst ey ez
      cases exyz
      refine TyV.int ?_
      split
      · exact b2 _ bz
      · exact b2 _ bw
    | yes =>
      have er := kind_eq (show kindOf "yes" = some (([], "truth") : List Str × Str) from by decide +kernel) e
      subst er
      exact TyV.bl
    | no =>
      have er := kind_eq (show kindOf "no" = some (([], "truth") : List Str × Str) from by decide +kernel) e
      subst er
      exact TyV.bl
/-- what a name makes of values in a world -/
noncomputable def wk (ws : List V) (n : Str) (xs : List V) : V := by
  classical
  exact if h : ∃ v, Mkr ws n xs v then h.choose else .non
theorem wk_mkr {ws : List V} {n : Str} {xs : List V} (h : ∃ v, Mkr ws n xs v) : Mkr ws n xs (wk ws n xs) := by
  unfold wk
  rw [dif_pos h]
  exact h.choose_spec
/-! ### typed runs -/
structure Tm (B : Nat) (m : Mc) : Prop where
  s : ∀ e ∈ m.st, TyV B e.1 e.2
  l : ∀ x ∈ m.sl, TyV B x.2.1 x.2.2
theorem Tm.up {B C : Nat} {m : Mc} (h : Tm B m) (l : B ≤ C) : Tm C m := ⟨fun e he => (h.s e he).up l, fun x hx => (h.l x hx).up l⟩
theorem paired_of : ∀ {B : Nat} {st : List En}, (∀ e ∈ st, TyV B e.1 e.2) → Paired (TyV B) (st.map (·.1)) (st.map (·.2))
  | _, [], _ => .nil
  | _, e :: st, h => .cons (h e List.mem_cons_self) (paired_of fun x hx => h x (List.mem_cons_of_mem _ hx))
theorem takeM_some {ins : List Str} {st st' : List En} {xs : List V} (h : takeM ins st = some (xs, st')) : ∃ k, (st.drop k).map (·.1) = ins ∧ xs = (st.drop k).map (·.2) ∧ st' = st.take k := by
  unfold takeM at h
  split at h
  · rename_i c
    cases h
    exact ⟨_, c.2, rfl, rfl⟩
  · cases h
theorem Tm.take {B : Nat} {m : Mc} (h : Tm B m) {ins : List Str} {st' : List En} {xs : List V} (e : takeM ins m.st = some (xs, st')) : Paired (TyV B) ins xs ∧ ∀ x ∈ st', TyV B x.1 x.2 := by
  obtain ⟨k, rfl, rfl, rfl⟩ := takeM_some e
  exact ⟨paired_of fun x hx => h.s x (List.mem_of_mem_drop hx), fun x hx => h.s x (List.mem_of_mem_take hx)⟩
theorem mv_ty {B : Nat} {m m' : Mc} {i : Ins} (h : Tm B m) (e : mv m i = some m') : Tm B m' := by
  cases i with
  | op x => cases e
  | fetch k =>
    have e : (slot m.sl k).map _ = some m' := e
    cases z : slot m.sl k with
    | none => rw [z] at e; cases e
    | some x =>
      rw [z] at e
      cases e
      refine ⟨fun y hy => ?_, h.l⟩
      rcases List.mem_append.mp hy with hy | hy
      · exact h.s y hy
      · rw [List.mem_singleton.mp hy]
        exact slot_all (R := fun e => TyV B e.1 e.2) h.l z
  | keep k =>
    have e : (m.st.getLast?).map _ = some m' := e
    cases z : m.st.getLast? with
    | none => rw [z] at e; cases e
    | some x =>
      rw [z] at e
      cases e
      exact ⟨h.s, putS_all (R := fun e => TyV B e.1 e.2) h.l (h.s x (List.mem_of_getLast? z))⟩
  | drop =>
    have e : (if m.st.length < 1 then none else some _) = some m' := e
    split at e
    · cases e
    · cases e
      exact ⟨fun y hy => h.s y (List.mem_of_mem_take hy), h.l⟩
  | swap =>
    have e : (match m.st.drop (m.st.length - 2) with | [a, b] => some (withSt m (m.st.take (m.st.length - 2) ++ [b, a])) | _ => none) = some m' := e
    split at e
    · rename_i a b hd
      cases e
      refine ⟨fun y hy => ?_, h.l⟩
      rcases List.mem_append.mp hy with hy | hy
      · exact h.s y (List.mem_of_mem_take hy)
      · exact h.s y (List.mem_of_mem_drop (i := m.st.length - 2) (by
          rw [hd]
          simp only [List.mem_cons, List.not_mem_nil, or_false] at hy ⊢
          exact hy.symm))
    · cases e
theorem step_ty {ws : List V} (hw : W3 ws) {B : Nat} {m m' : Mc} {i : Ins} (hn : ∀ n, i = .op n → n ∈ n18) (h : Tm B m) (h1 : 21 ≤ B) (h2 : B + B ≤ 134217728) (e : step (wk ws) m i = some m') : Tm (2 * B) m' := by
  rcases i.isOp with ⟨n, rfl⟩ | hno
  · have e : (kindOf n).bind _ = some m' := e
    cases z : kindOf n with
    | none => rw [z] at e; cases e
    | some r =>
      rw [z] at e
      have e : (takeM r.1 m.st).map _ = some m' := e
      cases z2 : takeM r.1 m.st with
      | none => rw [z2] at e; cases e
      | some t =>
        rw [z2] at e
        cases e
        obtain ⟨p1, p2⟩ := h.take z2
        have mk := wk_mkr (mkr_total hw (hn n rfl) z p1 h2)
        refine ⟨fun y hy => ?_, fun x hx => (h.l x hx).up (by omega)⟩
        rcases List.mem_append.mp hy with hy | hy
        · exact (p2 y hy).up (by omega)
        · rw [List.mem_singleton.mp hy]
          exact mkr_typed hw z p1 h1 mk
  · rw [step_mv hno] at e
    exact (mv_ty h e).up (by omega)
theorem pow_le20 {i : Nat} (h : i ≤ 20) : 21 * 2 ^ i ≤ 22020096 := by
  have : 2 ^ i ≤ 2 ^ 20 := Nat.pow_le_pow_right (by decide) h
  omega
theorem pow_ge21 (i : Nat) : 21 ≤ 21 * 2 ^ i := by
  have : 1 ≤ 2 ^ i := Nat.one_le_two_pow
  omega
theorem run_ty {ws : List V} (hw : W3 ws) {c : List Ins} (nm : NmOk c) (len : c.length ≤ 20) : ∀ {i : Nat} {m : Mc}, i ≤ c.length → runM (wk ws) (c.take i) m0 = some m → Tm (21 * 2 ^ i) m
  | 0, m, _, h => by
    rw [List.take_zero] at h
    cases h
    exact ⟨fun _ h => (nomatch h), fun _ h => (nomatch h)⟩
  | i + 1, m, hi, h => by
    obtain ⟨x, hx⟩ : ∃ x, c[i]? = some x := ⟨_, List.getElem?_eq_getElem (by omega)⟩
    cases e : runM (wk ws) (c.take i) m0 with
    | none =>
      rw [List.take_add_one, hx] at h
      have h : runM (wk ws) (c.take i ++ [x]) m0 = some m := h
      rw [runM_snoc, e] at h
      cases h
    | some m1 =>
      rw [runM_next e hx] at h
      have ih := run_ty hw nm len (by omega : i ≤ c.length) e
      have := step_ty hw (fun n en => nm n (by rw [← en]; exact List.mem_of_getElem? hx)) ih (pow_ge21 i) (by have := pow_le20 (i := i) (by omega); omega) h
      rw [show 21 * 2 ^ (i + 1) = 2 * (21 * 2 ^ i) by rw [Nat.pow_succ]; omega]
      exact this
/-! ### erasure: what is there without values -/
def er (m : Mc) : Mc := ⟨m.st.map fun e => (e.1, .non), m.sl.map fun x => (x.1, (x.2.1, .non)), m.hi⟩
theorem er_st (m : Mc) (st : List En) : er (withSt m st) = withSt (er m) (st.map fun e => (e.1, .non)) := by
  unfold er withSt
  rw [List.length_map]
theorem er_slot (l : List (Nat × En)) (k : Nat) : slot (l.map fun x => (x.1, (x.2.1, V.non))) k = (slot l k).map fun e => (e.1, .non) := by
  induction l with
  | nil => rfl
  | cons x l ih =>
    unfold slot at ih ⊢
    rw [List.map_cons, List.find?_cons, List.find?_cons]
    cases decide (x.1 = k) with
    | true => rfl
    | false => exact ih
theorem er_put (l : List (Nat × En)) (k : Nat) (e : En) : (putS l k e).map (fun x => (x.1, (x.2.1, V.non))) = putS (l.map fun x => (x.1, (x.2.1, V.non))) k (e.1, .non) := by
  unfold putS
  have ea : ((l.map fun x => (x.1, (x.2.1, V.non))).any fun x => decide (x.1 = k)) = l.any fun x => decide (x.1 = k) := by
    rw [List.any_map]
    rfl
  rw [ea]
  split
  · rw [List.map_map, List.map_map]
    apply List.map_congr_left
    intro x _
    show ((if x.1 = k then (x.1, e) else x).1, ((if x.1 = k then (x.1, e) else x).2.1, V.non)) = (if x.1 = k then (x.1, (e.1, V.non)) else (x.1, (x.2.1, V.non)))
    split <;> rfl
  · rw [List.map_append]
    rfl
theorem er_take (ins : List Str) (st : List En) : takeM ins (st.map fun e => (e.1, V.non)) = (takeM ins st).map fun t => (t.1.map fun _ => V.non, t.2.map fun e => (e.1, .non)) := by
  unfold takeM
  rw [List.length_map, ← List.map_drop, List.map_map]
  have : ((fun x : En => x.1) ∘ fun e : En => (e.1, V.non)) = fun x => x.1 := rfl
  rw [this]
  split
  · rw [← List.map_take, List.map_map]
    simp only [Option.map_some, List.map_map]
    rfl
  · rfl
theorem er_mv (m : Mc) (i : Ins) : mv (er m) i = (mv m i).map er := by
  cases i with
  | op n => rfl
  | fetch k =>
    show (slot (m.sl.map _) k).map _ = ((slot m.sl k).map _).map er
    rw [er_slot]
    cases slot m.sl k with
    | none => rfl
    | some e =>
      show some _ = some _
      rw [er_st, List.map_append]
      rfl
  | keep k =>
    show ((m.st.map _).getLast?).map _ = ((m.st.getLast?).map _).map er
    rw [List.getLast?_map]
    cases m.st.getLast? with
    | none => rfl
    | some e =>
      show some _ = some _
      rw [er_st]
      unfold er withSt
      rw [er_put]
  | drop =>
    show (if (m.st.map _).length < 1 then none else some (withSt (er m) ((m.st.map _).take ((m.st.map _).length - 1)))) = (if m.st.length < 1 then none else some (withSt m (m.st.take (m.st.length - 1)))).map er
    rw [List.length_map]
    split
    · rfl
    · show some _ = some _
      rw [er_st, List.map_take]
  | swap =>
    show (match (m.st.map (fun e : En => (e.1, V.non))).drop ((m.st.map (fun e : En => (e.1, V.non))).length - 2) with | [a, b] => some (withSt (er m) ((m.st.map (fun e : En => (e.1, V.non))).take ((m.st.map (fun e : En => (e.1, V.non))).length - 2) ++ [b, a])) | _ => none) =
      (match m.st.drop (m.st.length - 2) with | [a, b] => some (withSt m (m.st.take (m.st.length - 2) ++ [b, a])) | _ => none).map er
    rw [List.length_map, ← List.map_drop, ← List.map_take]
    match m.st.drop (m.st.length - 2) with
    | [] => rfl
    | [_] => rfl
    | [a, b] =>
      show some _ = some _
      rw [er_st, List.map_append]
      rfl
    | _ :: _ :: _ :: _ => rfl
theorem er_step (f : Str → List V → V) (m : Mc) (i : Ins) : step f0 (er m) i = (step f m i).map er := by
  rcases i.isOp with ⟨n, rfl⟩ | hno
  · show (kindOf n).bind _ = ((kindOf n).bind _).map er
    cases kindOf n with
    | none => rfl
    | some r =>
      show (takeM r.1 (m.st.map _)).map _ = ((takeM r.1 m.st).map _).map er
      rw [er_take]
      cases takeM r.1 m.st with
      | none => rfl
      | some t =>
        show some _ = some _
        rw [er_st, List.map_append]
        rfl
  · rw [step_mv hno, step_mv hno]
    exact er_mv m i
theorem er_run (f : Str → List V → V) : ∀ (c : List Ins) (m : Mc), runM f0 c (er m) = (runM f c m).map er
  | [], m => rfl
  | i :: c, m => by
    show (step f0 (er m) i).bind _ = ((step f m i).bind _).map er
    rw [er_step f]
    cases step f m i with
    | none => rfl
    | some m' => exact er_run f c m'
end K48

set_option Elab.async false
set_option maxRecDepth 100000
set_option maxHeartbeats 4000000
namespace K48
open PySem L2
def spLeft (C Cr Pn : Addr) : Sp := fun vs H Q E => ∃ (a : Addr) (c : List Ins), vs = [.ref a] ∧ CodeAt H a c ∧ c.length ≤ 400 ∧ NmOk c ∧ GxR.TabG H Pn ∧
  (∀ m, runM f0 c m0 = some m → ∀ H' l, H' l = some (.tup (m.st.map fun e => V.str e.1)) → Kp H H' [] → Q (.ref l) H') ∧ (runM f0 c m0 = none → ∀ H', Kp H H' [] → E (.ref Cr) none H')
def spHeight (C Cr Pn : Addr) : Sp := fun vs H Q E => ∃ (a : Addr) (c : List Ins), vs = [.ref a] ∧ CodeAt H a c ∧ c.length ≤ 400 ∧ NmOk c ∧ GxR.TabG H Pn ∧
  (∀ m, runM f0 c m0 = some m → ∀ H', Kp H H' [] → Q (.int (m.hi : Int)) H') ∧ (runM f0 c m0 = none → ∀ H', Kp H H' [] → E (.ref Cr) none H')
def spSlots (C Cr Pn : Addr) : Sp := fun vs H Q E => ∃ (a : Addr) (c : List Ins), vs = [.ref a] ∧ CodeAt H a c ∧ c.length ≤ 400 ∧ NmOk c ∧ GxR.TabG H Pn ∧
  (∀ m, runM f0 c m0 = some m → ∀ H', Kp H H' [] → Q (.int (m.sl.length : Int)) H') ∧ (runM f0 c m0 = none → ∀ H', Kp H H' [] → E (.ref Cr) none H')
def spRun (C Cr Cm Pn Pw : Addr) : Sp := fun vs H Q E => ∃ (a : Addr) (wv : V) (c : List Ins) (b : Bool), vs = [.ref a, wv] ∧ CodeAt H a c ∧ c.length ≤ 20 ∧ NmOk c ∧ GxR.TabG H Pn ∧ GxR.TabG H Pw ∧ WorldV H wv b ∧
  (b = false → ∀ H', Kp H H' [] → E (.ref Cm) none H') ∧
  (b = true → ∃ wt ws, wv = .ref wt ∧ H wt = some (.tup ws) ∧ W3 ws ∧ (∀ m, runM (wk ws) c m0 = some m → ∀ H' l, H' l = some (.tup (m.st.map fun e => e.2)) → Kp H H' [] → Q (.ref l) H') ∧ (runM (wk ws) c m0 = none → ∀ H', Kp H H' [] → E (.ref Cr) none H'))
section
variable {P : Program} {w : World} {K : PySem.W.Frag} {mg : Str → Option Value} {base : Heap}
theorem sc_height_of : FnScope ["code"] ["code"] (defScope s_height_of) := ⟨rfl, rfl, rfl, by decide +kernel, rfl, by decide +kernel, by decide +kernel⟩
theorem ok_height {f C Cr Cm Pn f1 : Addr} {fd fd1 : FuncData} (F : Fun K "height_of" "height_of" s_height_of f fd) (T : Txt K mg C Cr Cm) (G_tried : FnOk P w K mg base (L2N.CX P w) 5 f1 fd1 ["code"] (spTried C Cr Pn)) (F_tried : Fun K "tried" "tried" s_tried f1 fd1) (b_tried : Binds K fd1 ["code"] []) (g_tried : mg "tried" = some (.ref f1)) :
    FnOk P w K mg base (L2N.CX P w) 6 f fd ["code"] (spHeight C Cr Pn) := by
  refine okR F sc_height_of (fun vs H Q E h => ?_) (fun cdv A outer s H vs Q E hr5 h => ?_)
  · obtain ⟨a, c, rfl, _⟩ := h
    rfl
  obtain ⟨a, c, rfl, hc, len, nm, hT, k, ke⟩ := h
  refine ⟨_, (pss_one (ps_ret (pe_fld (pe_call G_tried hr5 (by rfl) g_tried F_tried.kp b_tried .nil (passN rfl rfl rfl rfl) (pa_cons (pv 0) pa_nil)) rfl))), ?_⟩
  refine ⟨_, rfl, a, c, rfl, hc, len, nm, hT, fun m em H' p d M k' => ?_, ke⟩
  obtain ⟨⟨dx, s', hp, _⟩, _, _⟩ := M
  exact ⟨p, C, dx, _, _, rfl, hp, T.cl, T.nH, rfl, k m em H' k'⟩
theorem sc_slots_of : FnScope ["code"] ["code"] (defScope s_slots_of) := ⟨rfl, rfl, rfl, by decide +kernel, rfl, by decide +kernel, by decide +kernel⟩
theorem ok_slots {f C Cr Cm Pn f1 : Addr} {fd fd1 : FuncData} (F : Fun K "slots_of" "slots_of" s_slots_of f fd) (T : Txt K mg C Cr Cm) (G_tried : FnOk P w K mg base (L2N.CX P w) 5 f1 fd1 ["code"] (spTried C Cr Pn)) (F_tried : Fun K "tried" "tried" s_tried f1 fd1) (b_tried : Binds K fd1 ["code"] []) (g_tried : mg "tried" = some (.ref f1)) :
    FnOk P w K mg base (L2N.CX P w) 6 f fd ["code"] (spSlots C Cr Pn) := by
  refine okR F sc_slots_of (fun vs H Q E h => ?_) (fun cdv A outer s H vs Q E hr5 h => ?_)
  · obtain ⟨a, c, rfl, _⟩ := h
    rfl
  obtain ⟨a, c, rfl, hc, len, nm, hT, k, ke⟩ := h
  refine ⟨_, (pss_one (ps_ret (pe_callB call_lenD (by rfl) T.B.len (by decide +kernel) (pa_cons (pe_fld (pe_call G_tried hr5 (by rfl) g_tried F_tried.kp b_tried .nil (passN rfl rfl rfl rfl) (pa_cons (pv 0) pa_nil)) rfl) pa_nil)))), ?_⟩
  refine ⟨_, rfl, a, c, rfl, hc, len, nm, hT, fun m em H' p d M k' => ?_, ke⟩
  obtain ⟨⟨dx, s', hp, _⟩, ⟨kvs, hd, hK⟩, _⟩ := M
  refine ⟨p, C, dx, _, _, rfl, hp, T.cl, T.nL, rfl, d, _, rfl, hd, ?_⟩
  rw [Paired.len hK]
  exact k m em H' k'
theorem sc_sorts_left : FnScope ["code", "sort", "thing"] ["code"] (defScope s_sorts_left) := ⟨rfl, rfl, rfl, by decide +kernel, rfl, by decide +kernel, by decide +kernel⟩
theorem ok_left {f C Cr Cm Pn f1 : Addr} {fd fd1 : FuncData} (F : Fun K "sorts_left" "sorts_left" s_sorts_left f fd) (T : Txt K mg C Cr Cm) (G_tried : FnOk P w K mg base (L2N.CX P w) 5 f1 fd1 ["code"] (spTried C Cr Pn)) (F_tried : Fun K "tried" "tried" s_tried f1 fd1) (b_tried : Binds K fd1 ["code"] []) (g_tried : mg "tried" = some (.ref f1)) :
    FnOk P w K mg base (L2N.CX P w) 6 f fd ["code"] (spLeft C Cr Pn) := by
  refine okR F sc_sorts_left (fun vs H Q E h => ?_) (fun cdv A outer s H vs Q E hr5 h => ?_)
  · obtain ⟨a, c, rfl, _⟩ := h
    rfl
  obtain ⟨a, c, rfl, hc, len, nm, hT, k, ke⟩ := h
  have nd := sc_sorts_left.nd
  refine ⟨_, (pss_one (ps_ret (pe_callTy call_tuple_of (by rfl) T.B.tuple (by decide +kernel) (pa_cons (pe_lc (own := [("sort", 1), ("thing", 2)]) (tt := tYes) rfl nd (pi_list (pe_fld (pe_call G_tried hr5 (by rfl) g_tried F_tried.kp b_tried .nil (passN rfl rfl rfl rfl) (pa_cons (pv 0) pa_nil)) rfl)) (blkOk_by (N := ["code", "sort", "thing"]) (sc := defScope s_sorts_left) (by decide +kernel)) (fun _ _ _ _ _ => (GK.pgTK (n := 2) K rfl (pgs_cons (pg_name (i := 1) nd rfl (.inl rfl)) (pgs_cons (pg_name (i := 2) nd rfl (.inl rfl)) pgs_nil)))) (fun _ _ _ _ _ => pts_nil) (fun _ _ _ _ _ => (pv 1))) pa_nil)))), ?_⟩
  refine ⟨_, rfl, a, c, rfl, hc, len, nm, hT, fun m em H1 p d M k1 => ?_, ke⟩
  have bd := runM_bd (c := c) (i := c.length) (Nat.le_refl _) (by rw [List.take_length]; exact em)
  have ml : m.st.length ≤ 400 := by have := bd.s; have := bd.h; omega
  obtain ⟨⟨dx, s', hp, ts, hs, hP⟩, _, _⟩ := M
  refine ⟨p, C, dx, _, _, rfl, hp, T.cl, T.nS, rfl, s', rfl, ⟨_, SqL.of hs⟩, fun D hD => ?_⟩
  refine lc_list (K := K) (a := s') (xs := ts.map V.ref) (fun i H' => Kp H1 H' [] ∧ H' D = some (.lst ((m.st.map fun e => V.str e.1).take i))) ⟨Kp.new hD, by rw [upd_same, List.take_zero]⟩ (fun i H' _ ⟨k, _⟩ => SqL.of (k.lst0 hs)) (fun i x H' hx ⟨kp, hD'⟩ => ?_) (fun H2 ⟨k2, hD2⟩ => ?_)
  · rw [List.getElem?_map] at hx
    cases hm : ts[i]? with
    | none => rw [hm] at hx; cases hx
    | some t =>
      rw [hm] at hx
      cases hx
      obtain ⟨e, he, pe⟩ := Paired.get hP i t hm
      have pe : PairAt H' t e := pe.kp kp NoTL.nil
      have len : ((m.st.map fun e => V.str e.1).take i).length ≤ 400 := by
        rw [List.length_take, List.length_map]
        omega
      refine ⟨t, _, rfl, SqT.of pe, rfl, _, _, rfl, _, _, rfl, rfl, rfl, _, rfl, _, hD', Nat.lt_of_le_of_lt len (by decide), kp.fresh (Kp.wl hD') fun x hx => by rw [List.mem_singleton.mp hx]; exact hD, ?_⟩
      rw [upd_same, List.take_add_one, List.getElem?_map, he]
      rfl
  · have el : (ts.map V.ref).length = (m.st.map fun e => V.str e.1).length := by rw [List.length_map, List.length_map, Paired.len hP]
    rw [el, List.take_length] at hD2
    exact ⟨D, _, rfl, .inl ⟨SqL.of hD2, fun l hl => k m em _ l upd_same ((k1.then k2).then (Kp.new hl))⟩⟩
theorem sc_run_code : FnScope ["code", "world", "machine", "instruction", "ins", "out", "sort", "thing"] ["code", "world"] (defScope s_run_code) := ⟨rfl, rfl, rfl, by decide +kernel, rfl, by decide +kernel, by decide +kernel⟩
theorem ok_run {f C Cr Cm Pn Pw S f1 f2 f3 f4 f5 f6 f7 : Addr} {fd fd1 fd2 fd3 fd4 fd5 fd6 fd7 : FuncData} (F : Fun K "run_code" "run_code" s_run_code f fd) (T : Txt K mg C Cr Cm) (TS : Std K mg S)
    (M_Machine : L2.Mk K C f1) (G_Machine___init__ : FnOk P w K mg base CX0 1 f1 fd1 ["self"] (spInit C)) (b_Machine___init__ : Binds K fd1 ["self"] [])
    (G_kind_of : FnOk P w K mg base CX0 4 f2 fd2 ["signature", "name"] (spKind K Pn S)) (F_kind_of : Fun K "kind_of" "kind_of" s_kind_of f2 fd2) (b_kind_of : Binds K fd2 ["signature", "name"] []) (g_kind_of : mg "kind_of" = some (.ref f2))
    (G_Machine_take : FnOk P w K mg base (L2N.CX P w) 1 f3 fd3 ["self", "sorts"] (spTake K C Cr)) (b_Machine_take : Binds K fd3 ["self", "sorts"] []) (m_Machine_take : Meth K C "take" f3)
    (G_Machine_put : FnOk P w K mg base CX0 1 f4 fd4 ["self", "sort", "thing"] (spPut C)) (b_Machine_put : Binds K fd4 ["self", "sort", "thing"] []) (m_Machine_put : Meth K C "put" f4)
    (G_Machine_move : FnOk P w K mg base (L2N.CX P w) 2 f5 fd5 ["self", "instruction"] (spMove C Cr)) (b_Machine_move : Binds K fd5 ["self", "instruction"] []) (m_Machine_move : Meth K C "move" f5)
    (G_is_world : FnOk P w K mg base CX0 3 f6 fd6 ["value"] (spWorld Pw)) (F_is_world : Fun K "is_world" "is_world" s_is_world f6 fd6) (b_is_world : Binds K fd6 ["value"] []) (g_is_world : mg "is_world" = some (.ref f6))
    (G_made : FnOk P w K mg base CX0 4 f7 fd7 ["name", "values", "world"] (spMade Pn)) (F_made : Fun K "made" "made" s_made f7 fd7) (b_made : Binds K fd7 ["name", "values", "world"] []) (g_made : mg "made" = some (.ref f7)) :
    FnOk P w K mg base (L2N.CX P w) 5 f fd ["code", "world"] (spRun C Cr Cm Pn Pw) := by
  refine okR F sc_run_code (fun vs H Q E h => ?_) (fun cdv A outer s H vs Q E hr4 h => ?_)
  · obtain ⟨a, wv, c, b, rfl, _⟩ := h
    rfl
  obtain ⟨a, wv, c, b, rfl, hc, len, nm, hT, hTw, hw, kf, kt⟩ := h
  have nd := sc_run_code.nd
  have hr1 := hr4.mono (by decide : 1 ≤ 4)
  have hr2 := hr4.mono (by decide : 2 ≤ 4)
  have hr3 := hr4.mono (by decide : 3 ≤ 4)
  have g_STANDARD := TS.g
  refine ⟨_, (pss_cons (ps_if (pt_not (pt_val (pe_call G_is_world hr3 (by rfl) g_is_world F_is_world.kp b_is_world .nil pass0 (pa_cons (pv 1) pa_nil)))) 
      (pss_one (L2N.ps_raise rfl (L2N.takes_of rfl rfl rfl rfl) (L2N.pmk_own PySem.F.excBase_ValueError T.qM T.gM T.kM (raises_own T.bM T.tM) (by exact rfl)))) pss_nil)
    (pss_cons (ps_set (i := 2) nd rfl (.inl rfl) (pe_make0 M_Machine G_Machine___init__ hr2 (by rfl) T.mgC b_Machine___init__ .nil pass0))
    (pss_cons (ps_for PassesOwn.leaving rfl (pi_tup (pv 0)) (pg_name (i := 3) nd rfl (.inl rfl)) 
      (pss_one (ps_if (pt_cmpR op_eq (pe_ix ix_tup (pv 3) pe_int (fun _ _ => rfl)) pe_str (nomark _)) 
        (pss_cons (ps_asg (pe_call G_kind_of hr4 (by rfl) g_kind_of F_kind_of.kp b_kind_of .nil pass0 (pa_cons (pe_gref (by rfl) g_STANDARD) (pa_cons (pe_ix ix_tup (pv 3) pe_int (fun _ _ => rfl)) pa_nil))) (pg_tup rfl (pgs_cons (pg_name (i := 4) nd rfl (.inl rfl)) (pgs_cons (pg_name (i := 5) nd rfl (.inl rfl)) pgs_nil))))
        (pss_one (ps_expr (pe_meth (pv 2) T.cl m_Machine_put G_Machine_put hr1 b_Machine_put .nil pass0 (pa_cons (pv 5) (pa_cons (pe_call G_made hr4 (by rfl) g_made F_made.kp b_made .nil pass0 (pa_cons (pe_ix ix_tup (pv 3) pe_int (fun _ _ => rfl)) (pa_cons (pe_meth (pv 2) T.cl m_Machine_take G_Machine_take hr1 b_Machine_take .nil (passN rfl rfl rfl rfl) (pa_cons (pv 4) pa_nil)) (pa_cons (pv 1) pa_nil)))) pa_nil)))))) 
        (pss_one (ps_expr (pe_meth (pv 2) T.cl m_Machine_move G_Machine_move hr2 b_Machine_move .nil (passN rfl rfl rfl rfl) (pa_cons (pv 3) pa_nil)))))))
    (pss_one (ps_ret (pe_callTy call_tuple_of (by rfl) T.B.tuple (by decide +kernel) (pa_cons (pe_lc (own := [("sort", 6), ("thing", 7)]) (tt := tYes) rfl nd (pi_list (pe_fld (pv 2) rfl)) (blkOk_by (N := ["code", "world", "machine", "instruction", "ins", "out", "sort", "thing"]) (sc := defScope s_run_code) (by decide +kernel)) (fun _ _ _ _ _ => (GK.pgTK (n := 2) K rfl (pgs_cons (pg_name (i := 6) nd rfl (.inl rfl)) (pgs_cons (pg_name (i := 7) nd rfl (.inl rfl)) pgs_nil)))) (fun _ _ _ _ _ => pts_nil) (fun _ _ _ _ _ => (pv 7))) pa_nil))))))), ?_⟩
  refine ⟨_, rfl, wv, b, rfl, hw, hTw, fun H0 k0 => ⟨_, rfl, ?_⟩⟩
  cases b with
  | false => exact iteT (kf rfl H0 k0)
  | true =>
    obtain ⟨wt, ws, rfl, hwt, w3, k, ke⟩ := kt rfl
    refine iteF ?_
    intro p dx np ndx nex
    refine ⟨p, dx, rfl, upd_same, fun H1 d M1 kp1 hd => ⟨rfl, ?_⟩⟩
    obtain ⟨k1', hdn'⟩ := made_kp np ndx nex M1 kp1 hd
    clear kp1
    have k1 := k0.then k1'
    have np := k0.free0 np
    have hdn := k0.free0 hdn'
    obtain ⟨qs, hc1, hC⟩ := hc
    have ql : qs.length = c.length := Paired.len hC
    refine ⟨_, rfl, a, rfl, ⟨_, SqT.of (k1.tup0 hc1)⟩, for_tup (K := K) (a := a) (xs := qs.map V.ref) (fun i σ H' => Kp H H' [] ∧ ∃ (m : Mc) (u3 u4 u5 : Option V), runM (wk ws) (c.take i) m0 = some m ∧ MAt C H' p d m ∧ σ = [some (.ref a), some (.ref wt), some (.ref p), u3, u4, u5, none, none])
      ⟨k1, m0, none, none, none, rfl, M1, rfl⟩ (fun i σ H' _ h => SqT.of (h.1.tup0 hc1)) ?_ ?_⟩
    · rintro i x σ H2 hx ⟨k2, m, u3, u4, u5, hm, M2, rfl⟩
      rw [List.getElem?_map] at hx
      cases hqx : qs[i]? with
      | none => rw [hqx] at hx; cases hx
      | some q =>
        rw [hqx] at hx
        cases hx
        obtain ⟨ins, hi, hq⟩ := Paired.get hC i q hqx
        have hq : H2 q = some (.tup (cells ins)) := k2.tup0 hq
        have ilt : i < c.length := (List.getElem?_eq_some_iff.mp hi).1
        have bd := runM_bd (by omega) hm
        have h5 : m.hi ≤ 500 := by have := bd.h; omega
        have l5 : m.sl.length ≤ 500 := by have := bd.l; omega
        have ty := run_ty w3 nm len (by omega) hm
        have nx := runM_next hm hi
        have fail : step (wk ws) m ins = none → runM (wk ws) c m0 = none := fun e => runM_none (i := i + 1) (nx.trans e)
        obtain ⟨⟨dx2, s2, hp2, hs2⟩, _, _⟩ := id M2
        rcases ins.isOp with ⟨n, rfl⟩ | hno
        · have hn := nm n (List.mem_of_getElem? hi)
          obtain ⟨okn, kis⟩ := n18_ok n hn
          refine ⟨_, rfl, q, _, _, _, rfl, rfl, SqT.of hq, at_of (j := 0) rfl rfl, rfl, true, congrArg V.bl (by decide +kernel), iteT ?_⟩
          refine ⟨_, rfl, q, _, _, _, rfl, rfl, SqT.of hq, at_of (j := 1) rfl rfl, n, rfl, okn, k2.tabG hT, (fun e => by rw [e] at kis; cases kis), fun r v H3 er k3 kat => ?_⟩
          obtain ⟨kt, kq, rfl, e1, e2⟩ := kat
          obtain ⟨sr1, sr2⟩ := kind_srt hn er
          refine ⟨kt, _, rfl, SqT.of e1, rfl, _, _, rfl, _, _, rfl, rfl, ?_⟩
          have hp3 := k3.keep _ _ hp2 (fun _ z => nomatch z) (by simp)
          have hq3 := k3.tup0 hq
          have es : ∀ o, takeM r.1 m.st = o → step (wk ws) m (.op n) = o.map fun t => withSt m (t.2 ++ [(r.2, wk ws n t.1)]) := fun o eo => by
            show (kindOf n).bind _ = _
            rw [er, ← eo]
            rfl
          refine ⟨_, rfl, p, dx2, _, rfl, hp3, rfl, _, rfl, _, rfl, q, _, _, _, rfl, rfl, SqT.of hq3, at_of (j := 1) rfl rfl, ?_⟩
          refine ⟨_, rfl, p, dx2, _, rfl, hp3, rfl, _, rfl, p, d, kq, m, r.1, rfl, M2.kp0 k3, e2, sr1, h5, fun xs st' tk H4 l M4 hl k4 => ?_, fun tk H4 k4 => ke (fail (es _ tk)) H4 ((k2.then k3).then k4)⟩
          obtain ⟨⟨dx4, s4, hp4, hs4⟩, _, _⟩ := id M4
          have k24 := fresh1 (k2.then k3) k4 np
          have tyx := (ty.take tk).1
          have mk := wk_mkr (mkr_total w3 hn er tyx (by have := pow_le20 (i := i) (by omega); omega))
          refine ⟨_, rfl, n, l, wt, xs, ws, _, rfl, hl, k24.tup0 hwt, mk, k24.tabG hT, fun H5 k5 => ?_⟩
          refine ⟨p, d, { m with st := st' }, (r.2, wk ws n xs), rfl, M4.kp0 k5, sr2, h5, fun H6 M6 k6 => ⟨?_, _, _, _, _, nx.trans (es _ tk), M6, rfl⟩⟩
          exact fresh1 (k24.then k5) k6 np
        · obtain ⟨s, r, ec, ed⟩ := not_do ins hno
          rw [ec] at hq
          refine ⟨_, rfl, q, _, _, _, rfl, rfl, SqT.of hq, at_of (j := 0) rfl rfl, rfl, false, congrArg V.bl ed, iteF ?_⟩
          refine ⟨_, rfl, p, dx2, _, rfl, hp2, rfl, _, rfl, p, d, q, m, ins, rfl, M2, by rw [← ec] at hq; exact hq, hno, h5, l5, fun m' em H3 M3 k3 => ⟨?_, m', _, _, _, nx.trans ((step_mv hno).trans em), M3, rfl⟩, fun em H3 k3 => ke (fail ((step_mv hno).trans em)) H3 (k2.then k3)⟩
          exact fresh2 k2 k3 np hdn
    · rintro σ H2 ⟨k2, m, u3, u4, u5, hm, M2, rfl⟩
      rw [List.length_map, ql, List.take_length] at hm
      have bd := runM_bd (c := c) (i := c.length) (Nat.le_refl _) (by rw [List.take_length]; exact hm)
      have ml : m.st.length ≤ 400 := by have := bd.s; have := bd.h; omega
      obtain ⟨⟨dx2, s2, hp, ts, hs, hP⟩, _, _⟩ := M2
      refine ⟨_, rfl, p, C, dx2, _, _, rfl, hp, T.cl, T.nS, rfl, s2, rfl, ⟨_, SqL.of hs⟩, fun D hD => ?_⟩
      refine lc_list (K := K) (a := s2) (xs := ts.map V.ref) (fun i H' => Kp H2 H' [] ∧ H' D = some (.lst ((m.st.map fun e => e.2).take i))) ⟨Kp.new hD, by rw [upd_same, List.take_zero]⟩ (fun i H' _ ⟨k, _⟩ => SqL.of (k.lst0 hs)) (fun i x H' hx ⟨kp, hD'⟩ => ?_) (fun H3 ⟨k3, hD3⟩ => ?_)
      · rw [List.getElem?_map] at hx
        cases hmx : ts[i]? with
        | none => rw [hmx] at hx; cases hx
        | some t =>
          rw [hmx] at hx
          cases hx
          obtain ⟨e, he, pe⟩ := Paired.get hP i t hmx
          have pe : PairAt H' t e := pe.kp kp NoTL.nil
          have len : ((m.st.map fun e => e.2).take i).length ≤ 400 := by
            rw [List.length_take, List.length_map]
            omega
          refine ⟨t, _, rfl, SqT.of pe, rfl, _, _, rfl, _, _, rfl, rfl, rfl, _, rfl, _, hD', Nat.lt_of_le_of_lt len (by decide), kp.fresh (Kp.wl hD') fun x hx => by rw [List.mem_singleton.mp hx]; exact hD, ?_⟩
          rw [upd_same, List.take_add_one, List.getElem?_map, he]
          rfl
      · have el : (ts.map V.ref).length = (m.st.map fun e => e.2).length := by rw [List.length_map, List.length_map, Paired.len hP]
        rw [el, List.take_length] at hD3
        exact ⟨D, _, rfl, .inl ⟨SqL.of hD3, fun l hl => k m hm _ l upd_same ((k2.then k3).then (Kp.new hl))⟩⟩
end
end K48

set_option Elab.async false
set_option maxRecDepth 100000
set_option maxHeartbeats 4000000
namespace K48
open PySem L2
def spLRun : Sp := fun vs H Q _ => ∃ (a wt : Addr) (ws : List V) (c : List Ins), vs = [.ref a, .ref wt] ∧ CodeAt H a c ∧ c.length ≤ 20 ∧ NmOk c ∧ H wt = some (.tup ws) ∧ W3 ws ∧
  (runM (wk ws) c m0 = none → ∀ H', Kp H H' [] → Q .non H') ∧
  (∀ m, runM (wk ws) c m0 = some m → ∀ H' p ls lv, H' p = some (.tup [.ref ls, .ref lv, .int (m.hi : Int), .int (m.sl.length : Int)]) → H' ls = some (.tup (m.st.map fun e => .str e.1)) → H' lv = some (.tup (m.st.map fun e => e.2)) → Kp H H' [] → Q (.ref p) H')
section
variable {P : Program} {w : World} {K : PySem.W.Frag} {mg : Str → Option Value} {base : Heap}
/-- [one[j] for one in the list at s], pairs -/
theorem lc_pairs {s D : Addr} {ts : List Addr} {st : List En} {v j : Nat} {val : En → V} {σ : L2.St} {vs : List Nat} {H1 : Hp} {Qd : Hp → Prop} (hs : H1 s = some (.lst (ts.map V.ref))) (hP : Paired (PairAt H1) ts st) (hl : st.length ≤ 400) (hD : H1 D = none)
    (hv : ∀ e : En, ([.str e.1, e.2] : List V)[j]? = some (val e)) (h1 : ∀ x : V, wipe ((wipe σ vs).set v (some x)) vs = wipe σ vs) (h2 : ∀ x : V, ((wipe σ vs).set v (some x))[v]? = some (some x))
    (hq : ∀ H2, Kp H1 H2 [] → H2 D = some (.lst (st.map val)) → Qd H2) :
    ∃ W : Nat → Nat → Hp → Prop, (∃ m, W 0 m (upd H1 D (.lst []))) ∧ ∀ i m H, W i m H →
      ((Itl K s).stop i H ∧ Qd H) ∨ ((Itl K s).go i H ∧ ∃ Nx : Hp → Prop, (∀ H', Nx H' → ∃ m', m' < m ∧ W (i + 1) m' H') ∧ ∀ x H', (Itl K s).yld i H x H' → gName v x (wipe σ vs) H' fun σ2 H2 => wipe σ2 vs = wipe σ vs ∧ tYes σ2 H2 fun b H3 =>
        if b = true then (tOp (rIxT K) (tVar v) (tC (.int (j : Int)))) σ2 H3 fun y H4 => ∃ acc, H4 D = some (.lst acc) ∧ acc.length < sizeLine ∧ Nx (upd H4 D (.lst (acc ++ [y]))) else Nx H3) := by
  refine lc_list (K := K) (a := s) (xs := ts.map V.ref) (fun i H' => Kp H1 H' [] ∧ H' D = some (.lst ((st.map val).take i))) ⟨Kp.new hD, by rw [upd_same, List.take_zero]⟩ (fun i H' _ ⟨k, _⟩ => SqL.of (k.lst0 hs)) (fun i x H' hx ⟨kp, hD'⟩ => ?_) (fun H3 ⟨k3, hD3⟩ => ?_)
  · rw [List.getElem?_map] at hx
    cases hmx : ts[i]? with
    | none => rw [hmx] at hx; cases hx
    | some t =>
      rw [hmx] at hx
      cases hx
      obtain ⟨e, he, pe⟩ := Paired.get hP i t hmx
      have pe : PairAt H' t e := pe.kp kp NoTL.nil
      have len : ((st.map val).take i).length ≤ 400 := by
        rw [List.length_take, List.length_map]
        omega
      refine ⟨h1 _, _, h2 _, t, _, _, _, rfl, rfl, SqT.of pe, at_of rfl (hv e), _, hD', Nat.lt_of_le_of_lt len (by decide), kp.fresh (Kp.wl hD') fun x hx => by rw [List.mem_singleton.mp hx]; exact hD, ?_⟩
      rw [upd_same, List.take_add_one, List.getElem?_map, he]
      rfl
  · have el : (ts.map V.ref).length = (st.map val).length := by rw [List.length_map, List.length_map, Paired.len hP]
    rw [el, List.take_length] at hD3
    exact hq H3 k3 hD3
theorem max_if (a b : Nat) : (if (b : Int) > (a : Int) then (b : Int) else (a : Int)) = ((max a b : Nat) : Int) := by
  split <;> omega
theorem sc__law_run : FnScope ["code", "world", "stack", "slots", "high", "row", "ins", "out", "mine", "one"] ["code", "world"] (defScope s__law_run) := ⟨rfl, rfl, rfl, by decide +kernel, rfl, by decide +kernel, by decide +kernel⟩
theorem ok_lrun {f f1 f2 : Addr} {fd fd1 fd2 : FuncData} (F : Fun K "_law_run" "_law_run" s__law_run f fd) (T : Txt0 mg)
    (G__law_kind : FnOk P w K mg base CX0 1 f1 fd1 ["name"] spLK) (F__law_kind : Fun K "_law_kind" "_law_kind" s__law_kind f1 fd1) (b__law_kind : Binds K fd1 ["name"] []) (g__law_kind : mg "_law_kind" = some (.ref f1))
    (G__law_work : FnOk P w K mg base CX0 1 f2 fd2 ["name", "mine", "world"] spWork) (F__law_work : Fun K "_law_work" "_law_work" s__law_work f2 fd2) (b__law_work : Binds K fd2 ["name", "mine", "world"] []) (g__law_work : mg "_law_work" = some (.ref f2)) :
    FnOk P w K mg base CX0 2 f fd ["code", "world"] spLRun := by
  refine F.ok sc__law_run (fun vs H Q E h => ?_) (fun cdv A outer s H vs Q E hr1 h => ?_)
  · obtain ⟨a, wt, ws, c, rfl, _⟩ := h
    rfl
  obtain ⟨a, wt, ws, c, rfl, ⟨qs, hc1, hC⟩, len, nm, hwt, w3, kn, ks⟩ := h
  have nd := sc__law_run.nd
  have hv := hr1.units
  have hu := hu_of hr1
  refine ⟨_, (pss_cons (ps_par3 (i := 2) (j := 3) (l := 4) rfl nd rfl rfl rfl (by decide) (by decide) (by decide) rfl rfl rfl (pa_cons (pe_lst pa_nil) (pa_cons pe_dnewK (pa_cons pe_int pa_nil))) (by rfl))
    (pss_cons (ps_for PassesOwn.never rfl (pi_tup (pv 0)) (pg_name (i := 5) nd rfl (.inl rfl)) 
      (Evl.pss_cut (ps_if (pt_cmpR op_eq (pe_ix ix_tup (pv 5) pe_int (fun _ _ => rfl)) pe_str (nomark _)) 
        (pss_cons (ps_asg (pe_call G__law_kind hr1 (by rfl) g__law_kind F__law_kind.kp b__law_kind .nil pass0 (pa_cons (pe_ix ix_tup (pv 5) pe_int (fun _ _ => rfl)) pa_nil)) (pg_tup rfl (pgs_cons (pg_name (i := 6) nd rfl (.inl rfl)) (pgs_cons (pg_name (i := 7) nd rfl (.inl rfl)) pgs_nil))))
        (pss_cons (ps_set (i := 8) nd rfl (.inl rfl) (pe_ifExp (pt_cmpR op_ge (pe_callB call_len_seq (by rfl) T.B.len (by decide +kernel) (pa_cons (pv 2) pa_nil)) (pe_callB call_len_seq (by rfl) T.B.len (by decide +kernel) (pa_cons (pv 6) pa_nil)) (nomark _)) (pe_slice sl_list (pv 2) (po_some (pe_op op_sub (pe_callB call_len_seq (by rfl) T.B.len (by decide +kernel) (pa_cons (pv 2) pa_nil)) (pe_callB call_len_seq (by rfl) T.B.len (by decide +kernel) (pa_cons (pv 6) pa_nil)))) po_none) pe_non))
        (pss_cons (ps_if (PW.pt (pw_or (pt_cmpR op_isN (pv 8) pe_non (nomark _)) (pw_or1 (pt_cmpR (op_neD hv) (pe_lc (own := [("one", 9)]) (g := gName 9) (tt := tYes) rfl nd (pi_list (pv 8)) (blkOk_by (N := ["code", "world", "stack", "slots", "high", "row", "ins", "out", "mine", "one"]) (sc := defScope s__law_run) (by decide +kernel)) (fun _ _ _ _ _ => (pg_name (i := 9) nd rfl (.inl rfl))) (fun _ _ _ _ _ => pts_nil) (fun _ _ _ _ _ => (pe_ix (GK.ixTK K) (pv 9) pe_int (fun _ _ => rfl)))) (pv 6) (nomark _))))) 
          (pss_one (ps_ret pe_non)) pss_nil)
        (pss_one (ps_set (i := 2) nd rfl (.inl rfl) (pe_op op_cat (pe_slice sl_list (pv 2) po_none (po_some (pe_op op_sub (pe_callB call_len_seq (by rfl) T.B.len (by decide +kernel) (pa_cons (pv 2) pa_nil)) (pe_callB call_len_seq (by rfl) T.B.len (by decide +kernel) (pa_cons (pv 6) pa_nil))))) (pe_lst (pa_cons (pe_tup (pa_cons (pv 7) (pa_cons (pe_call G__law_work hr1 (by rfl) g__law_work F__law_work.kp b__law_work .nil pass0 (pa_cons (pe_ix ix_tup (pv 5) pe_int (fun _ _ => rfl)) (pa_cons (pe_lc (own := [("one", 9)]) (g := gName 9) (tt := tYes) rfl nd (pi_list (pv 8)) (blkOk_by (N := ["code", "world", "stack", "slots", "high", "row", "ins", "out", "mine", "one"]) (sc := defScope s__law_run) (by decide +kernel)) (fun _ _ _ _ _ => (pg_name (i := 9) nd rfl (.inl rfl))) (fun _ _ _ _ _ => pts_nil) (fun _ _ _ _ _ => (pe_ix (GK.ixTK K) (pv 9) pe_int (fun _ _ => rfl)))) (pa_cons (pv 1) pa_nil)))) pa_nil))) pa_nil)))))))) 
        (pss_one (ps_if (pt_cmpR op_eq (pe_ix ix_tup (pv 5) pe_int (fun _ _ => rfl)) pe_str (nomark _)) 
          (pss_cons (ps_if (pt_cmp (pc_dnotin hu (pe_ix ix_tup (pv 5) pe_int (fun _ _ => rfl)) (pv 3))) 
            (pss_one (ps_ret pe_non)) pss_nil)
          (pss_one (ps_set (i := 2) nd rfl (.inl rfl) (pe_op op_cat (pv 2) (pe_lst (pa_cons (pe_dget hu (pv 3) (pe_ix ix_tup (pv 5) pe_int (fun _ _ => rfl)) (fun _ _ => rfl)) pa_nil)))))) 
          (pss_cons (ps_if (pt_cmpR op_lt (pe_callB call_len_seq (by rfl) T.B.len (by decide +kernel) (pa_cons (pv 2) pa_nil)) (pe_op op_add pe_int (pe_callTy call_int1 (by rfl) T.B.int (by decide +kernel) (pa_cons (pe_cmpR op_eq (pe_ix ix_tup (pv 5) pe_int (fun _ _ => rfl)) pe_str (nomark _)) pa_nil))) (nomark _)) 
            (pss_one (ps_ret pe_non)) pss_nil)
          (pss_one (ps_if (pt_cmpR op_eq (pe_ix ix_tup (pv 5) pe_int (fun _ _ => rfl)) pe_str (nomark _)) 
            (pss_one (ps_dput hu (pv 3) (pe_ix ix_tup (pv 5) pe_int (fun _ _ => rfl)) (pe_ix ix_list (pv 2) (pe_un un_neg pe_int) (fun _ _ => rfl)) rfl)) 
            (pss_one (ps_if (pt_cmpR op_eq (pe_ix ix_tup (pv 5) pe_int (fun _ _ => rfl)) pe_str (nomark _)) 
              (pss_one (ps_set (i := 2) nd rfl (.inl rfl) (pe_slice sl_list (pv 2) po_none (po_some (pe_un un_neg pe_int))))) 
              (pss_one (ps_set (i := 2) nd rfl (.inl rfl) (pe_op op_cat (pe_slice sl_list (pv 2) po_none (po_some (pe_un un_neg pe_int))) (pe_lst (pa_cons (pe_ix ix_list (pv 2) (pe_un un_neg pe_int) (fun _ _ => rfl)) (pa_cons (pe_ix ix_list (pv 2) (pe_un un_neg pe_int) (fun _ _ => rfl)) pa_nil))))))))))))))
      (pss_one (ps_set (i := 4) nd rfl (.inl rfl) (pe_callB (call_max2 rfl) (by rfl) T.B.max (by decide +kernel) (pa_cons (pv 4) (pa_cons (pe_callB call_len_seq (by rfl) T.B.len (by decide +kernel) (pa_cons (pv 2) pa_nil)) pa_nil)))))))
    (pss_one (ps_ret (pe_tup (pa_cons (pe_callTy call_tuple_of (by rfl) T.B.tuple (by decide +kernel) (pa_cons (pe_lc (own := [("one", 9)]) (g := gName 9) (tt := tYes) rfl nd (pi_list (pv 2)) (blkOk_by (N := ["code", "world", "stack", "slots", "high", "row", "ins", "out", "mine", "one"]) (sc := defScope s__law_run) (by decide +kernel)) (fun _ _ _ _ _ => (pg_name (i := 9) nd rfl (.inl rfl))) (fun _ _ _ _ _ => pts_nil) (fun _ _ _ _ _ => (pe_ix (GK.ixTK K) (pv 9) pe_int (fun _ _ => rfl)))) pa_nil)) (pa_cons (pe_callTy call_tuple_of (by rfl) T.B.tuple (by decide +kernel) (pa_cons (pe_lc (own := [("one", 9)]) (g := gName 9) (tt := tYes) rfl nd (pi_list (pv 2)) (blkOk_by (N := ["code", "world", "stack", "slots", "high", "row", "ins", "out", "mine", "one"]) (sc := defScope s__law_run) (by decide +kernel)) (fun _ _ _ _ _ => (pg_name (i := 9) nd rfl (.inl rfl))) (fun _ _ _ _ _ => pts_nil) (fun _ _ _ _ _ => (pe_ix (GK.ixTK K) (pv 9) pe_int (fun _ _ => rfl)))) pa_nil)) (pa_cons (pv 4) (pa_cons (pe_callB call_lenD (by rfl) T.B.len (by decide +kernel) (pa_cons (pv 3) pa_nil)) pa_nil))))))))), ?_⟩
  refine ⟨Nat.zero_le _, fun s0 hs0 => fun d hd => ⟨_, _, _, rfl, ?_⟩⟩
  have k1 : Kp H (upd H s0 (.lst [])) [] := Kp.new hs0
  have k2 : Kp H (upd (upd H s0 (.lst [])) d (.dK [])) [] := k1.then (Kp.new hd)
  have hdn : H d = none := k1.free0 hd
  have s2 : upd (upd H s0 (.lst [])) d (.dK []) s0 = some (.lst []) := (Kp.new hd).lst0 upd_same
  have d2 : upd (upd H s0 (.lst [])) d (.dK []) d = some (.dK []) := upd_same
  generalize upd (upd H s0 (.lst [])) d (.dK []) = H2 at k2 s2 d2 ⊢
  have ql : qs.length = c.length := Paired.len hC
  refine ⟨_, rfl, a, rfl, ⟨_, SqT.of (k2.tup0 hc1)⟩, for_tup (K := K) (a := a) (xs := qs.map V.ref) (fun i σ H' => Kp H H' [] ∧ ∃ (m : Mc) (s : Addr) (u5 u6 u7 u8 : Option V), runM (wk ws) (c.take i) m0 = some m ∧ StAt H' s m.st ∧ SlAt H' d m.sl ∧ σ = [some (.ref a), some (.ref wt), some (.ref s), some (.ref d), some (.int (m.hi : Int)), u5, u6, u7, u8, none])
    ⟨k2, m0, s0, none, none, none, none, rfl, ⟨[], s2, .nil⟩, ⟨[], d2, .nil⟩, rfl⟩ (fun i σ H' _ h => SqT.of (h.1.tup0 hc1)) ?_ ?_⟩
  · rintro i x σ H3 hx ⟨k3, m, s, u5, u6, u7, u8, hm, ⟨ts, hs, hP⟩, ⟨kvs, hdk, hK⟩, rfl⟩
    rw [List.getElem?_map] at hx
    cases hqx : qs[i]? with
    | none => rw [hqx] at hx; cases hx
    | some q =>
      rw [hqx] at hx
      cases hx
      obtain ⟨ins, hi, hq⟩ := Paired.get hC i q hqx
      have hq : H3 q = some (.tup (cells ins)) := k3.tup0 hq
      have ilt : i < c.length := (List.getElem?_eq_some_iff.mp hi).1
      have bd := runM_bd (by omega) hm
      have ml : m.st.length ≤ 20 := by have := bd.s; have := bd.h; omega
      have l5 : m.sl.length ≤ 20 := by have := bd.l; omega
      have tl : ts.length = m.st.length := Paired.len hP
      have ty := run_ty w3 nm len (by omega) hm
      have nx := runM_next hm hi
      have fail : step (wk ws) m ins = none → runM (wk ws) c m0 = none := fun e => runM_none (i := i + 1) (nx.trans e)
      refine ⟨fun σ' H4 => Kp H H4 [] ∧ ∃ (st' : List En) (sl' : List (Nat × En)) (s' : Addr) (u6 u7 u8 : Option V), step (wk ws) m ins = some (withSt { m with sl := sl' } st') ∧ st'.length ≤ 40 ∧ StAt H4 s' st' ∧ SlAt H4 d sl' ∧ σ' = [some (.ref a), some (.ref wt), some (.ref s'), some (.ref d), some (.int (m.hi : Int)), some (.ref q), u6, u7, u8, none], ?_, ?_⟩
      · cases ins with
        | op n =>
          have hn := nm n (List.mem_of_getElem? hi)
          obtain ⟨okn, kis⟩ := n18_ok n hn
          have hq : H3 q = some (.tup [.str "do", .str n]) := hq
          refine ⟨_, rfl, q, _, _, _, rfl, rfl, SqT.of hq, at_of (j := 0) rfl rfl, rfl, true, congrArg V.bl (by decide +kernel), iteT ?_⟩
          refine ⟨_, rfl, q, _, _, _, rfl, rfl, SqT.of hq, at_of (j := 1) rfl rfl, n, rfl, hn, fun r v H4 er k4 lk => ?_⟩
          obtain ⟨kt, kq, rfl, e1, e2⟩ := lk
          obtain ⟨sr1, sr2⟩ := kind_srt hn er
          refine ⟨kt, _, rfl, SqT.of e1, rfl, _, _, rfl, _, _, rfl, rfl, ?_⟩
          have hs4 := k4.lst0 hs
          have es : ∀ o, takeM r.1 m.st = o → step (wk ws) m (.op n) = o.map fun t => withSt m (t.2 ++ [(r.2, wk ws n t.1)]) := fun o eo => by
            show (kindOf n).bind _ = _
            rw [er, ← eo]
            rfl
          refine ⟨_, rfl, s, _, rfl, .inl (SqL.of hs4), _, rfl, kq, _, rfl, .inl (SqL.of e2), _, _, rfl, rfl, _, rfl, ?_⟩
          rw [List.length_map, List.length_map, tl]
          rcases Nat.lt_or_ge m.st.length r.1.length with hlt | hlt
          · rw [decide_eq_false (show ¬ (m.st.length : Int) ≥ (r.1.length : Int) by omega)]
            refine iteF ?_
            refine ⟨_, rfl, rfl, true, congrArg V.bl (decide_eq_true rfl), iteT (iteT (kn (fail ((es none ?_).trans rfl)) _ (k3.then k4)))⟩
            unfold takeM
            rw [if_neg (fun z => absurd z.1 (by omega))]
          rw [decide_eq_true (show (m.st.length : Int) ≥ (r.1.length : Int) by omega)]
          obtain ⟨u, hu⟩ : ∃ u : Nat, u = m.st.length - r.1.length := ⟨_, rfl⟩
          have eu : (((ts.map V.ref).length : Nat) : Int) - (((r.1.map V.str).length : Nat) : Int) = (u : Int) := by
            rw [List.length_map, List.length_map, tl]
            omega
          refine iteT ⟨_, rfl, _, rfl, s, _, rfl, .inl (SqL.of hs4), _, rfl, kq, _, rfl, .inl (SqL.of e2), _, _, rfl, rfl, (u : Int), congrArg V.int eu, s, _, rfl, SqL.of hs4, fun c1 hc1' => ?_⟩
          rw [cut_from, ← List.map_drop]
          have k5 : Kp H4 (upd H4 c1 (.lst ((ts.drop u).map V.ref))) [] := Kp.new hc1'
          have c5 : upd H4 c1 (.lst ((ts.drop u).map V.ref)) c1 = some (.lst ((ts.drop u).map V.ref)) := upd_same
          have e25 := k5.lst0 e2
          have hs5 := k5.lst0 hs4
          generalize upd H4 c1 (.lst ((ts.drop u).map V.ref)) = H5 at k5 c5 e25 hs5 ⊢
          have k45 := k4.then k5
          have P5 : Paired (PairAt H5) (ts.drop u) (m.st.drop u) := Paired.mapP (Paired.drop hP u) fun _ _ z => z.kp k45 NoTL.nil
          have dl : (m.st.drop u).length ≤ 400 := by rw [List.length_drop]; omega
          refine ⟨_, rfl, rfl, false, congrArg V.bl (decide_eq_false fun z => nomatch z), iteF ?_⟩
          refine ⟨_, rfl, c1, rfl, ⟨_, SqL.of c5⟩, fun D hD => lc_pairs (val := fun e => .str e.1) (j := 0) c5 P5 dl hD (fun _ => rfl) (fun _ => rfl) (fun _ => rfl) fun H6 k6 hD6 => ?_⟩
          have hD6' : H6 D = some (.lst (((m.st.drop u).map (·.1)).map V.str)) := by rw [hD6, List.map_map]; rfl
          have srt : ∀ e ∈ m.st, SrtOk e.1 := fun e he => (ty.s e he).elim (fun z => .inl z.1) fun z => .inr z.1
          obtain ⟨d1, d2⟩ := strs_dp (K := K) hD6' fun x hx => by
            obtain ⟨e, he, rfl⟩ := List.mem_map.mp hx
            exact (srt e (List.mem_of_mem_drop he)).str
          obtain ⟨d3, d4⟩ := strs_dp (K := K) (k6.lst0 e25) fun x hx => (sr1 x hx).str
          refine ⟨_, rfl, _, _, d1, d3, d2, d4, _, rfl, ?_⟩
          have ev : PyData.eqv (.list ((((m.st.drop u).map (·.1)).map V.str).map pdOf)) (.list ((r.1.map V.str).map pdOf)) = decide ((m.st.drop u).map (·.1) = r.1) := eqvS _ _
          rw [ev]
          have k36 := (k3.then k45).then k6
          by_cases hins : (m.st.drop u).map (·.1) = r.1
          · rw [decide_eq_true hins]
            have tk : takeM r.1 m.st = some ((m.st.drop u).map (·.2), m.st.take u) := by
              unfold takeM
              rw [← hu, if_pos ⟨hlt, hins⟩]
            have hs6 := k6.lst0 hs5
            refine iteF ⟨_, rfl, _, rfl, s, _, rfl, .inl (SqL.of hs6), _, rfl, kq, _, rfl, .inl (SqL.of (k6.lst0 e25)), _, _, rfl, rfl, (u : Int), congrArg V.int eu, s, _, rfl, SqL.of hs6, fun c2 hc2 => ?_⟩
            rw [cut_to, ← List.map_take]
            have k7 : Kp H6 (upd H6 c2 (.lst ((ts.take u).map V.ref))) [] := Kp.new hc2
            have c7 : upd H6 c2 (.lst ((ts.take u).map V.ref)) c2 = some (.lst ((ts.take u).map V.ref)) := upd_same
            generalize upd H6 c2 (.lst ((ts.take u).map V.ref)) = H7 at k7 c7 ⊢
            have k37 := k36.then k7
            have k57 := k6.then k7
            refine ⟨_, rfl, _, rfl, q, _, _, _, rfl, rfl, SqT.of ((k45.then k57).tup0 hq), at_of (j := 1) rfl rfl, ?_⟩
            refine ⟨_, rfl, c1, rfl, ⟨_, SqL.of (k57.lst0 c5)⟩, fun D2 hD2 => lc_pairs (val := fun e => e.2) (j := 1) (k57.lst0 c5) (Paired.mapP P5 fun _ _ z => z.kp k57 NoTL.nil) dl hD2 (fun _ => rfl) (fun _ => rfl) (fun _ => rfl) fun H8 k8 hD8 => ?_⟩
            have tyx := (ty.take tk).1
            have mk := wk_mkr (mkr_total w3 hn er tyx (by have := pow_le20 (i := i) (by omega); omega))
            refine ⟨_, rfl, n, D2, wt, (m.st.drop u).map (·.2), ws, _, rfl, hD8, (k37.then k8).tup0 hwt, mk, fun H9 k9 => ?_⟩
            have k39 := (k37.then k8).then k9
            have k79 := k8.then k9
            have c9 := k79.lst0 c7
            have es1 : step (wk ws) m (.op n) = some (withSt m (m.st.take u ++ [(r.2, wk ws n ((m.st.drop u).map (·.2)))])) := es _ tk
            generalize wk ws n ((m.st.drop u).map (·.2)) = wv at es1 ⊢
            refine ⟨(by show 2 ≤ sizeLine; decide), fun t ht => ?_⟩
            have kA : Kp H9 (upd H9 t (.tup [.str r.2, wv])) [] := Kp.new ht
            have tA : PairAt (upd H9 t (.tup [.str r.2, wv])) t (r.2, wv) := upd_same
            generalize upd H9 t (.tup [.str r.2, wv]) = HA at kA tA ⊢
            refine ⟨(by show 1 ≤ sizeLine; decide), fun l hl => ?_⟩
            have kB : Kp HA (upd HA l (.lst [.ref t])) [] := Kp.new hl
            have lB : upd HA l (.lst [.ref t]) l = some (.lst [.ref t]) := upd_same
            have kAB := kA.then kB
            refine ⟨c2, l, _, _, rfl, rfl, kAB.lst0 c9, lB, ?_, fun s' hs' => ?_⟩
            · rw [List.length_map, List.length_take]
              exact Nat.le_trans (show min u ts.length + 1 ≤ 500 by omega) (by decide)
            have kC := kAB.then (Kp.new (o := .lst ((ts.take u).map V.ref ++ [V.ref t])) hs')
            have k4C := (((k45.then k57).then k79).then kC)
            refine ⟨k3.then k4C, m.st.take u ++ [(r.2, wv)], m.sl, s', _, _, _, es1, ?_, ⟨ts.take u ++ [t], ?_, ?_⟩, SlAt.kp ⟨kvs, hdk, hK⟩ k4C NoTL.nil (by simp), rfl⟩
            · rw [List.length_append, List.length_take]
              show min u m.st.length + 1 ≤ 40
              omega
            · rw [upd_same, List.map_append]
              rfl
            · exact Paired.snoc (tA.kp (kB.then (Kp.new hs')) NoTL.nil) (Paired.mapP (Paired.take hP u) fun _ _ z => z.kp k4C NoTL.nil)
          · rw [decide_eq_false hins]
            refine iteT (kn (fail ((es none ?_).trans rfl)) _ k36)
            unfold takeM
            rw [← hu, if_neg (fun z => hins z.2)]
        | fetch n =>
          have hq : H3 q = some (.tup [.str "fetch", .int (n : Int)]) := hq
          refine ⟨_, rfl, q, _, _, _, rfl, rfl, SqT.of hq, at_of (j := 0) rfl rfl, rfl, false, congrArg V.bl (by decide +kernel), iteF ?_⟩
          refine ⟨_, rfl, q, _, _, _, rfl, rfl, SqT.of hq, at_of (j := 0) rfl rfl, rfl, true, congrArg V.bl (by decide +kernel), iteT ?_⟩
          refine ⟨_, rfl, q, _, _, _, rfl, rfl, SqT.of hq, at_of (j := 1) rfl rfl, _, rfl, d, _, rfl, DGet.k (k := .inl (n : Int)) hdk, ?_⟩
          rcases slots_get hK n with ⟨e1, e2⟩ | ⟨e, t, e1, e2, pe⟩
          · rw [e2]
            refine ⟨true, rfl, iteT (kn (fail ?_) H3 k3)⟩
            show (slot m.sl n).map _ = none
            rw [e1]
            rfl
          · rw [e2]
            refine ⟨false, rfl, iteF ?_⟩
            refine ⟨_, rfl, _, rfl, _, rfl, q, _, _, _, rfl, rfl, SqT.of hq, at_of (j := 1) rfl rfl, d, .ref t, rfl, (by rw [← e2]; exact DGet.k (k := .inl (n : Int)) hdk), (by show 1 ≤ sizeLine; decide), fun l hl => ?_⟩
            have k4 : Kp H3 (upd H3 l (.lst [.ref t])) [] := Kp.new hl
            refine ⟨s, l, _, _, rfl, rfl, k4.lst0 hs, upd_same, ?_, fun s' hs' => ?_⟩
            · rw [List.length_map]
              exact Nat.le_trans (show ts.length + 1 ≤ 500 by omega) (by decide)
            have k5 := k4.then (Kp.new (o := .lst (ts.map V.ref ++ [V.ref t])) hs')
            refine ⟨k3.then k5, m.st ++ [e], m.sl, s', _, _, _, ?_, ?_, ⟨ts ++ [t], ?_, ?_⟩, SlAt.kp ⟨kvs, hdk, hK⟩ k5 NoTL.nil (by simp), rfl⟩
            · show (slot m.sl n).map _ = _
              rw [e1]
              rfl
            · rw [List.length_append]
              show _ + 1 ≤ 40
              omega
            · rw [upd_same, List.map_append]
              rfl
            · exact Paired.snoc (pe.kp k5 NoTL.nil) (Paired.mapP hP fun _ _ z => z.kp k5 NoTL.nil)
        | keep n =>
          have hq : H3 q = some (.tup [.str "keep", .int (n : Int)]) := hq
          refine ⟨_, rfl, q, _, _, _, rfl, rfl, SqT.of hq, at_of (j := 0) rfl rfl, rfl, false, congrArg V.bl (by decide +kernel), iteF ?_⟩
          refine ⟨_, rfl, q, _, _, _, rfl, rfl, SqT.of hq, at_of (j := 0) rfl rfl, rfl, false, congrArg V.bl (by decide +kernel), iteF ?_⟩
          refine ⟨_, rfl, s, _, rfl, .inl (SqL.of hs), _, rfl, q, _, _, _, rfl, rfl, SqT.of hq, at_of (j := 0) rfl rfl, rfl, .inr ⟨false, congrArg (fun b => [V.bl b]) (by decide +kernel), _, _, rfl, rfl, _, _, rfl, rfl, _, rfl, ?_⟩⟩
          rw [List.length_map, tl]
          rcases Nat.lt_or_ge m.st.length 1 with z | pos
          · rw [decide_eq_true (show (m.st.length : Int) < 1 + (if false = true then 1 else 0) by simp; omega)]
            refine iteT (kn (fail ?_) H3 k3)
            show (m.st.getLast?).map _ = none
            rw [List.eq_nil_of_length_eq_zero (show m.st.length = 0 by omega)]
            rfl
          rw [decide_eq_false (show ¬ (m.st.length : Int) < 1 + (if false = true then 1 else 0) by simp; omega)]
          refine iteF ?_
          refine ⟨_, rfl, q, _, _, _, rfl, rfl, SqT.of hq, at_of (j := 0) rfl rfl, rfl, true, congrArg V.bl (by decide +kernel), iteT ?_⟩
          obtain ⟨t, ht⟩ : ∃ t, ts[m.st.length - 1]? = some t := ⟨_, List.getElem?_eq_getElem (by omega)⟩
          obtain ⟨e, he, pe⟩ := Paired.get hP _ t ht
          have at1 : atI (ts.map V.ref) (-1) = some (.ref t) := by
            rw [last_get (by rw [List.length_map]; omega) rfl, List.length_map, tl, List.getElem?_map, ht]
            rfl
          have hkl : kvs.length = m.sl.length := Paired.len hK
          refine ⟨_, rfl, _, rfl, s, _, _, _, rfl, rfl, SqL.of hs, at1, _, rfl, _, rfl, q, _, _, _, rfl, rfl, SqT.of hq, at_of (j := 1) rfl rfl, d, _, rfl, DPut.k (k := .inl (n : Int)) hdk (Nat.lt_of_le_of_lt (show _ ≤ 500 by omega) (by decide)), ?_⟩
          have k4 : Kp H3 (upd H3 d (.dK (putK kvs (.inl (n : Int)) (.ref t)))) [d] := Kp.wd hdk
          refine ⟨fresh1 k3 k4 hdn, m.st, putS m.sl n e, s, _, _, _, ?_, by omega, ⟨ts, k4.lst hs (nm1 fun z => by rw [z, hdk] at hs; cases hs), Paired.mapP hP fun _ _ z => z.kp k4 (NoTL.dic hdk)⟩, ⟨_, upd_same, SlAt.pairs (slots_put pe n hK) k4 (NoTL.dic hdk)⟩, rfl⟩
          show (m.st.getLast?).map _ = _
          rw [List.getLast?_eq_getElem?, he]
          rfl
        | drop =>
          have hq : H3 q = some (.tup [.str "drop"]) := hq
          refine ⟨_, rfl, q, _, _, _, rfl, rfl, SqT.of hq, at_of (j := 0) rfl rfl, rfl, false, congrArg V.bl (by decide +kernel), iteF ?_⟩
          refine ⟨_, rfl, q, _, _, _, rfl, rfl, SqT.of hq, at_of (j := 0) rfl rfl, rfl, false, congrArg V.bl (by decide +kernel), iteF ?_⟩
          refine ⟨_, rfl, s, _, rfl, .inl (SqL.of hs), _, rfl, q, _, _, _, rfl, rfl, SqT.of hq, at_of (j := 0) rfl rfl, rfl, .inr ⟨false, congrArg (fun b => [V.bl b]) (by decide +kernel), _, _, rfl, rfl, _, _, rfl, rfl, _, rfl, ?_⟩⟩
          rw [List.length_map, tl]
          rcases Nat.lt_or_ge m.st.length 1 with z | pos
          · rw [decide_eq_true (show (m.st.length : Int) < 1 + (if false = true then 1 else 0) by simp; omega)]
            refine iteT (kn (fail ?_) H3 k3)
            show (if m.st.length < 1 then none else _) = none
            rw [if_pos (by omega)]
          rw [decide_eq_false (show ¬ (m.st.length : Int) < 1 + (if false = true then 1 else 0) by simp; omega)]
          refine iteF ?_
          refine ⟨_, rfl, q, _, _, _, rfl, rfl, SqT.of hq, at_of (j := 0) rfl rfl, rfl, false, congrArg V.bl (by decide +kernel), iteF ?_⟩
          refine ⟨_, rfl, q, _, _, _, rfl, rfl, SqT.of hq, at_of (j := 0) rfl rfl, rfl, true, congrArg V.bl (by decide +kernel), iteT ?_⟩
          refine ⟨_, rfl, _, rfl, _, rfl, s, _, rfl, SqL.of hs, fun c1 hc1' => ?_⟩
          rw [cut_neg _ (-1) 1 rfl (Nat.le_refl _), List.length_map, tl, ← List.map_take]
          have k4 : Kp H3 (upd H3 c1 (.lst ((ts.take (m.st.length - 1)).map V.ref))) [] := Kp.new hc1'
          refine ⟨k3.then k4, m.st.take (m.st.length - 1), m.sl, c1, _, _, _, ?_, by rw [List.length_take]; omega, ⟨ts.take (m.st.length - 1), upd_same, Paired.mapP (Paired.take hP _) fun _ _ z => z.kp k4 NoTL.nil⟩, SlAt.kp ⟨kvs, hdk, hK⟩ k4 NoTL.nil (by simp), rfl⟩
          show (if m.st.length < 1 then none else some _) = some _
          rw [if_neg (by omega)]
        | swap =>
          have hq : H3 q = some (.tup [.str "swap"]) := hq
          refine ⟨_, rfl, q, _, _, _, rfl, rfl, SqT.of hq, at_of (j := 0) rfl rfl, rfl, false, congrArg V.bl (by decide +kernel), iteF ?_⟩
          refine ⟨_, rfl, q, _, _, _, rfl, rfl, SqT.of hq, at_of (j := 0) rfl rfl, rfl, false, congrArg V.bl (by decide +kernel), iteF ?_⟩
          refine ⟨_, rfl, s, _, rfl, .inl (SqL.of hs), _, rfl, q, _, _, _, rfl, rfl, SqT.of hq, at_of (j := 0) rfl rfl, rfl, .inr ⟨true, congrArg (fun b => [V.bl b]) (by decide +kernel), _, _, rfl, rfl, _, _, rfl, rfl, _, rfl, ?_⟩⟩
          rw [List.length_map, tl]
          rcases Nat.lt_or_ge m.st.length 2 with z | pos
          · rw [decide_eq_true (show (m.st.length : Int) < 1 + (if true = true then 1 else 0) by simp; omega)]
            refine iteT (kn (fail ?_) H3 k3)
            have hl : (m.st.drop (m.st.length - 2)).length < 2 := by rw [List.length_drop]; omega
            show (match m.st.drop (m.st.length - 2) with | [a, b] => some (withSt m (m.st.take (m.st.length - 2) ++ [b, a])) | _ => none) = none
            match m.st.drop (m.st.length - 2), hl with
            | [], _ => rfl
            | [_], _ => rfl
          rw [decide_eq_false (show ¬ (m.st.length : Int) < 1 + (if true = true then 1 else 0) by simp; omega)]
          refine iteF ?_
          refine ⟨_, rfl, q, _, _, _, rfl, rfl, SqT.of hq, at_of (j := 0) rfl rfl, rfl, false, congrArg V.bl (by decide +kernel), iteF ?_⟩
          refine ⟨_, rfl, q, _, _, _, rfl, rfl, SqT.of hq, at_of (j := 0) rfl rfl, rfl, false, congrArg V.bl (by decide +kernel), iteF ?_⟩
          obtain ⟨t1, ht1⟩ : ∃ t, ts[m.st.length - 1]? = some t := ⟨_, List.getElem?_eq_getElem (by omega)⟩
          obtain ⟨e1, he1, pe1⟩ := Paired.get hP _ t1 ht1
          obtain ⟨t2, ht2⟩ : ∃ t, ts[m.st.length - 2]? = some t := ⟨_, List.getElem?_eq_getElem (by omega)⟩
          obtain ⟨e2, he2, pe2⟩ := Paired.get hP _ t2 ht2
          have at1 : atI (ts.map V.ref) (-1) = some (.ref t1) := by
            rw [last_get (by rw [List.length_map]; omega) rfl, List.length_map, tl, List.getElem?_map, ht1]
            rfl
          have at2 : atI (ts.map V.ref) (-2) = some (.ref t2) := by
            show (ixN (ts.map V.ref).length (-2)).bind _ = _
            have : ixN (ts.map V.ref).length (-2) = some (m.st.length - 2) := by
              rw [List.length_map, tl]
              unfold ixN
              rw [if_neg (by decide), if_pos (by omega)]
              congr 1
              omega
            rw [this]
            show (ts.map V.ref)[m.st.length - 2]? = _
            rw [List.getElem?_map, ht2]
            rfl
          have dr : m.st.drop (m.st.length - 2) = [e2, e1] := by
            apply List.ext_getElem?
            intro i
            rw [List.getElem?_drop]
            match i with
            | 0 => exact he2
            | 1 => rw [show m.st.length - 2 + 1 = m.st.length - 1 by omega]; exact he1
            | i + 2 => rw [List.getElem?_eq_none (by omega)]; rfl
          refine ⟨_, rfl, _, rfl, _, rfl, s, _, rfl, SqL.of hs, fun c1 hc1' => ?_⟩
          rw [cut_neg _ (-2) 2 rfl (by decide), List.length_map, tl, ← List.map_take]
          have k4 : Kp H3 (upd H3 c1 (.lst ((ts.take (m.st.length - 2)).map V.ref))) [] := Kp.new hc1'
          have c4 : upd H3 c1 (.lst ((ts.take (m.st.length - 2)).map V.ref)) c1 = some (.lst ((ts.take (m.st.length - 2)).map V.ref)) := upd_same
          have hs4 := k4.lst0 hs
          generalize upd H3 c1 (.lst ((ts.take (m.st.length - 2)).map V.ref)) = H4 at k4 c4 hs4 ⊢
          refine ⟨_, rfl, _, rfl, s, _, _, _, rfl, rfl, SqL.of hs4, at1, _, rfl, _, rfl, s, _, _, _, rfl, rfl, SqL.of hs4, at2, (by show 2 ≤ sizeLine; decide), fun l hl => ?_⟩
          have k5 : Kp H4 (upd H4 l (.lst [.ref t1, .ref t2])) [] := Kp.new hl
          refine ⟨c1, l, _, _, rfl, rfl, k5.lst0 c4, upd_same, ?_, fun s' hs' => ?_⟩
          · rw [List.length_map, List.length_take]
            exact Nat.le_trans (show min _ ts.length + 2 ≤ 500 by omega) (by decide)
          have k6 := (k4.then k5).then (Kp.new (o := .lst ((ts.take (m.st.length - 2)).map V.ref ++ [V.ref t1, V.ref t2])) hs')
          refine ⟨k3.then k6, m.st.take (m.st.length - 2) ++ [e1, e2], m.sl, s', _, _, _, ?_, ?_, ⟨ts.take (m.st.length - 2) ++ [t1, t2], ?_, ?_⟩, SlAt.kp ⟨kvs, hdk, hK⟩ k6 NoTL.nil (by simp), rfl⟩
          · show (match m.st.drop (m.st.length - 2) with | [a, b] => some (withSt m (m.st.take (m.st.length - 2) ++ [b, a])) | _ => none) = some _
            rw [dr]
          · rw [List.length_append, List.length_take]
            show _ + 2 ≤ 40
            omega
          · rw [upd_same, List.map_append]
            rfl
          · exact Paired.app (Paired.mapP (Paired.take hP _) fun _ _ z => z.kp k6 NoTL.nil) (.cons (pe1.kp k6 NoTL.nil) (.cons (pe2.kp k6 NoTL.nil) .nil))
      · rintro σ' H4 ⟨k4, st', sl', s', u6, u7, u8, es, l40, ⟨ts4, hs4, hP4⟩, sl4, rfl⟩
        refine ⟨_, rfl, _, rfl, s', _, rfl, .inl (SqL.of hs4), _, _, rfl, ?_⟩
        rw [List.length_map, Paired.len hP4, max_if]
        exact ⟨k4, _, s', _, _, _, _, nx.trans es, ⟨ts4, hs4, hP4⟩, sl4, rfl⟩
  · rintro σ H3 ⟨k3, m, s, u5, u6, u7, u8, hm, ⟨ts, hs, hP⟩, ⟨kvs, hdk, hK⟩, rfl⟩
    rw [List.length_map, ql, List.take_length] at hm
    have bd := runM_bd (c := c) (i := c.length) (Nat.le_refl _) (by rw [List.take_length]; exact hm)
    have ml : m.st.length ≤ 400 := by have := bd.s; have := bd.h; omega
    refine ⟨_, rfl, s, rfl, ⟨_, SqL.of hs⟩, fun D hD => lc_pairs (val := fun e => .str e.1) (j := 0) hs hP ml hD (fun _ => rfl) (fun _ => rfl) (fun _ => rfl) fun H4 k4 hD4 => ?_⟩
    refine ⟨D, _, rfl, .inl ⟨SqL.of hD4, fun l1 hl1 => ?_⟩⟩
    have k5 : Kp H4 (upd H4 l1 (.tup (m.st.map fun e => .str e.1))) [] := Kp.new hl1
    have l15 : upd H4 l1 (.tup (m.st.map fun e => .str e.1)) l1 = some (.tup (m.st.map fun e => .str e.1)) := upd_same
    generalize upd H4 l1 (.tup (m.st.map fun e => V.str e.1)) = H5 at k5 l15 ⊢
    have k35 := k4.then k5
    refine ⟨_, rfl, s, rfl, ⟨_, SqL.of (k35.lst0 hs)⟩, fun D2 hD2 => lc_pairs (val := fun e => e.2) (j := 1) (k35.lst0 hs) (Paired.mapP hP fun _ _ z => z.kp k35 NoTL.nil) ml hD2 (fun _ => rfl) (fun _ => rfl) (fun _ => rfl) fun H6 k6 hD6 => ?_⟩
    refine ⟨D2, _, rfl, .inl ⟨SqL.of hD6, fun l2 hl2 => ?_⟩⟩
    have k7 : Kp H6 (upd H6 l2 (.tup (m.st.map fun e => e.2))) [] := Kp.new hl2
    have l27 : upd H6 l2 (.tup (m.st.map fun e => e.2)) l2 = some (.tup (m.st.map fun e => e.2)) := upd_same
    have l17 := (k6.then k7).tup0 l15
    generalize upd H6 l2 (.tup (m.st.map fun e => e.2)) = H7 at k7 l27 l17 ⊢
    have k37 := (k35.then k6).then k7
    refine ⟨_, rfl, _, rfl, d, _, rfl, k37.dic hdk (by simp), (by show 4 ≤ sizeLine; decide), fun p hp => ?_⟩
    rw [Paired.len hK]
    exact ks m hm _ p l1 l2 upd_same ((Kp.new hp).tup0 l17) ((Kp.new hp).tup0 l27) ((k3.then k37).then (Kp.new hp))
end
end K48

set_option Elab.async false
set_option maxRecDepth 100000
set_option maxHeartbeats 8000000
namespace K48
open PySem L2
/-! ### one instruction -/
def IOk : Ins → Prop
  | .op n => n ∈ n18
  | .keep k => k < 3
  | .fetch k => k < 3
  | _ => True
def spOne : Sp := fun vs H Q _ => ∃ d c : Addr, vs = [.ref d] ∧ DrawsAt H d c ∧ ∀ H' q i, DrawsAt H' d c → Kp H H' [d] → InsAt H' q i → IOk i → Q (.ref q) H'
/-! ### errors -/
structure Kit (K : PySem.W.Frag) (D Ce Co Cm Cn Cr Ct : Addr) (bo bm bn br bt : Bool) : Prop where
  o : PySem.W.kitOne K (.ref D) (.ref Co) = some bo
  m : PySem.W.kitOne K (.ref D) (.ref Cm) = some bm
  n : PySem.W.kitOne K (.ref D) (.ref Cn) = some bn
  r : PySem.W.kitOne K (.ref D) (.ref Cr) = some br
  t : PySem.W.kitOne K (.ref D) (.ref Ct) = some bt
  e : PySem.W.kitOne K (.ref D) (.ref Ce) = some true
  ex : ExcC K D
  em : PySem.W.exmOne K (.ref D) (.ref Ce) = some true
structure Ers (K : PySem.W.Frag) (mg : Str → Option Value) (Ce Co Cm Cn Cr Ct : Addr) : Prop where
  gE : mg "EqualError" = some (.ref Ce)
  gO : mg "OutOfRange" = some (.ref Co)
  gM : mg "Malformed" = some (.ref Cm)
  gN : mg "NotThere" = some (.ref Cn)
  gR : mg "Refused" = some (.ref Cr)
  gT : mg "TooMuch" = some (.ref Ct)
  kr : Kit K Cr Ce Co Cm Cn Cr Ct false false false true false
  km : Kit K Cm Ce Co Cm Cn Cr Ct false true false false false
def Zw (C : Addr) : Obj → Prop := fun o => Zc (.ref C) none o ∧ ∃ vs, o.data = .fields vs
def spWord (n : Str) : Addr → Sp := fun a vs H Q _ => vs = [.ref a] ∧ ∀ H', Kp H H' [] → Q (.str n) H'
def keepP (G : Hp) : V → Bool
  | .ref t => match G t with
    | some (.tup [_, .bl b]) => b
    | _ => false
  | _ => false
def outP (G : Hp) : V → V
  | .ref t => match G t with
    | some (.tup [s, _]) => s
    | _ => .non
  | _ => .non
theorem keepP_at {G : Hp} {t : Addr} {s : V} {b : Bool} (h : G t = some (.tup [s, .bl b])) : keepP G (.ref t) = b := by
  show (match G t with | some (.tup [_, .bl b]) => b | _ => false) = b
  rw [h]
theorem outP_at {G : Hp} {t : Addr} {s v : V} (h : G t = some (.tup [s, v])) : outP G (.ref t) = s := by
  show (match G t with | some (.tup [s, _]) => s | _ => .non) = s
  rw [h]
section
variable {P : Program} {w : World} {K : PySem.W.Frag} {mg : Str → Option Value} {base : Heap}
theorem sc__law_told : FnScope ["error", "kinds", "names", "name", "true"] ["error"] (defScope s__law_told) := ⟨rfl, rfl, rfl, by decide +kernel, rfl, by decide +kernel, by decide +kernel⟩
theorem ok_told_Refused {f Ce Co Cm Cn Cr Ct : Addr} {fd : FuncData} (F : Fun K "_law_told" "_law_told" s__law_told f fd) (T : Txt0 mg) (R : Ers K mg Ce Co Cm Cn Cr Ct) : GE.FnW P w K mg base CX0 1 f fd ["error"] (Zw Cr) (spWord "Refused") := by
  refine GE.Fun.okW F sc__law_told (fun a vs H Q E h => ?_) (fun cdv A outer s H vs Q E p hot hz hB hr h => ?_)
  · rw [h.1]
    rfl
  obtain ⟨rfl, go⟩ := h
  have nd := sc__law_told.nd
  have isP : CallR (L2H.cxH CX0 P w K mg base ["error", "kinds", "names", "name", "true"] "_law_told" (defScope s__law_told) f cdv A outer s H E p) (.builtin "isinstance") (rIsE K Cr p.1) := GE.call_isP (oe := p.2) R.kr.ex List.mem_cons_self hz.1 hz.2
  refine ⟨_, (pss_cons (ps_set (i := 1) nd rfl (.inl rfl) (pe_lst (pa_cons (pe_tup (pa_cons pe_str (pa_cons (pe_callB isP (by rfl) T.B.isinstance (by decide +kernel) (pa_cons (pv 0) (pa_cons (pe_gref (by rfl) R.gO) pa_nil))) pa_nil))) (pa_cons (pe_tup (pa_cons pe_str (pa_cons (pe_callB isP (by rfl) T.B.isinstance (by decide +kernel) (pa_cons (pv 0) (pa_cons (pe_gref (by rfl) R.gM) pa_nil))) pa_nil))) (pa_cons (pe_tup (pa_cons pe_str (pa_cons (pe_callB isP (by rfl) T.B.isinstance (by decide +kernel) (pa_cons (pv 0) (pa_cons (pe_gref (by rfl) R.gN) pa_nil))) pa_nil))) (pa_cons (pe_tup (pa_cons pe_str (pa_cons (pe_callB isP (by rfl) T.B.isinstance (by decide +kernel) (pa_cons (pv 0) (pa_cons (pe_gref (by rfl) R.gR) pa_nil))) pa_nil))) (pa_cons (pe_tup (pa_cons pe_str (pa_cons (pe_callB isP (by rfl) T.B.isinstance (by decide +kernel) (pa_cons (pv 0) (pa_cons (pe_gref (by rfl) R.gT) pa_nil))) pa_nil))) pa_nil)))))))
    (pss_cons (GE.ps_setLcHot (i := 2) (own := [("name", 3), ("true", 4)]) hB nd rfl rfl (sw_true rfl rfl rfl (by decide +kernel)) (pv 1) (blkOk_by (N := ["error", "kinds", "names", "name", "true"]) (sc := defScope s__law_told) (by decide +kernel)) (fun _ _ _ _ _ hb => (GE.pg_tupHot (n := 2) K hb (pgs_cons (pg_name (i := 3) nd rfl (.inl rfl)) (pgs_cons (pg_name (i := 4) nd rfl (.inl rfl)) pgs_nil)))) (fun _ _ _ _ _ => (pts_one (pt_val (pv 4)))) (fun _ _ _ _ _ => (pv 3)))
    (pss_cons (ps_if (PW.pt (pw_or (pt_cmpR op_ne (pe_callB call_len_seq (by rfl) T.B.len (by decide +kernel) (pa_cons (pv 2) pa_nil)) pe_int (nomark _)) (pw_or1 (pt_not (pt_val (pe_callB isP (by rfl) T.B.isinstance (by decide +kernel) (pa_cons (pv 0) (pa_cons (pe_gref (by rfl) R.gE) pa_nil)))))))) 
      (pss_one (ps_ret pe_str)) pss_nil)
    (pss_one (ps_ret (pe_ix ix_list (pv 2) pe_int (fun _ _ => rfl))))))), ?_⟩
  have rv : ∀ {c : Addr} (u : Value), RelV (.ref c) u → u = .ref c := fun u r => r
  refine ⟨_, rfl, _, _, false, rfl, rv, R.kr.o, (by show 2 ≤ sizeLine; decide), fun t0 h0 => ?_⟩
  have k0 : Kp H (upd H t0 (.tup [.str "OutOfRange", .bl false])) [] := Kp.new h0
  have e0 : upd H t0 (.tup [.str "OutOfRange", .bl false]) t0 = some (.tup [.str "OutOfRange", .bl false]) := upd_same
  generalize upd H t0 (.tup [.str "OutOfRange", .bl false]) = G0 at k0 e0 ⊢
  refine ⟨_, rfl, _, _, false, rfl, rv, R.kr.m, (by show 2 ≤ sizeLine; decide), fun t1 h1 => ?_⟩
  have k1 : Kp G0 (upd G0 t1 (.tup [.str "Malformed", .bl false])) [] := Kp.new h1
  have e1 : upd G0 t1 (.tup [.str "Malformed", .bl false]) t1 = some (.tup [.str "Malformed", .bl false]) := upd_same
  have e0 := k1.tup0 e0
  generalize upd G0 t1 (.tup [.str "Malformed", .bl false]) = G1 at k1 e0 e1 ⊢
  refine ⟨_, rfl, _, _, false, rfl, rv, R.kr.n, (by show 2 ≤ sizeLine; decide), fun t2 h2 => ?_⟩
  have k2 : Kp G1 (upd G1 t2 (.tup [.str "NotThere", .bl false])) [] := Kp.new h2
  have e2 : upd G1 t2 (.tup [.str "NotThere", .bl false]) t2 = some (.tup [.str "NotThere", .bl false]) := upd_same
  have e0 := k2.tup0 e0
  have e1 := k2.tup0 e1
  generalize upd G1 t2 (.tup [.str "NotThere", .bl false]) = G2 at k2 e0 e1 e2 ⊢
  refine ⟨_, rfl, _, _, true, rfl, rv, R.kr.r, (by show 2 ≤ sizeLine; decide), fun t3 h3 => ?_⟩
  have k3 : Kp G2 (upd G2 t3 (.tup [.str "Refused", .bl true])) [] := Kp.new h3
  have e3 : upd G2 t3 (.tup [.str "Refused", .bl true]) t3 = some (.tup [.str "Refused", .bl true]) := upd_same
  have e0 := k3.tup0 e0
  have e1 := k3.tup0 e1
  have e2 := k3.tup0 e2
  generalize upd G2 t3 (.tup [.str "Refused", .bl true]) = G3 at k3 e0 e1 e2 e3 ⊢
  refine ⟨_, rfl, _, _, false, rfl, rv, R.kr.t, (by show 2 ≤ sizeLine; decide), fun t4 h4 => ?_⟩
  have k4 : Kp G3 (upd G3 t4 (.tup [.str "TooMuch", .bl false])) [] := Kp.new h4
  have e4 : upd G3 t4 (.tup [.str "TooMuch", .bl false]) t4 = some (.tup [.str "TooMuch", .bl false]) := upd_same
  have e0 := k4.tup0 e0
  have e1 := k4.tup0 e1
  have e2 := k4.tup0 e2
  have e3 := k4.tup0 e3
  generalize upd G3 t4 (.tup [.str "TooMuch", .bl false]) = G4 at k4 e0 e1 e2 e3 e4 ⊢
  refine ⟨(by show 5 ≤ sizeLine; decide), fun l hl => ?_⟩
  have k5 : Kp G4 (upd G4 l (.lst [.ref t0, .ref t1, .ref t2, .ref t3, .ref t4])) [] := Kp.new hl
  have hl5 : upd G4 l (.lst [.ref t0, .ref t1, .ref t2, .ref t3, .ref t4]) l = some (.lst [.ref t0, .ref t1, .ref t2, .ref t3, .ref t4]) := upd_same
  have e0 := k5.tup0 e0
  have e1 := k5.tup0 e1
  have e2 := k5.tup0 e2
  have e3 := k5.tup0 e3
  have e4 := k5.tup0 e4
  generalize upd G4 l (.lst [.ref t0, .ref t1, .ref t2, .ref t3, .ref t4]) = G5 at k5 hl5 e0 e1 e2 e3 e4 ⊢
  refine ⟨_, rfl, l, [.ref t0, .ref t1, .ref t2, .ref t3, .ref t4], keepP G5, outP G5, rfl, SqL.of hl5, fun x hx H' sm => ?_, fun D hD => ?_⟩
  · simp only [List.mem_cons, List.not_mem_nil, or_false] at hx
    rcases hx with rfl | rfl | rfl | rfl | rfl
    · exact ⟨t0, _, rfl, SqT.of (sm _ _ e0), rfl, _, _, rfl, _, _, rfl, rfl, rfl, rfl, _, rfl, _, rfl, rfl, (keepP_at e0).symm, fun z => (nomatch z)⟩
    · exact ⟨t1, _, rfl, SqT.of (sm _ _ e1), rfl, _, _, rfl, _, _, rfl, rfl, rfl, rfl, _, rfl, _, rfl, rfl, (keepP_at e1).symm, fun z => (nomatch z)⟩
    · exact ⟨t2, _, rfl, SqT.of (sm _ _ e2), rfl, _, _, rfl, _, _, rfl, rfl, rfl, rfl, _, rfl, _, rfl, rfl, (keepP_at e2).symm, fun z => (nomatch z)⟩
    · exact ⟨t3, _, rfl, SqT.of (sm _ _ e3), rfl, _, _, rfl, _, _, rfl, rfl, rfl, rfl, _, rfl, _, rfl, rfl, (keepP_at e3).symm, fun z => ⟨_, rfl, rfl, (outP_at e3).symm⟩⟩
    · exact ⟨t4, _, rfl, SqT.of (sm _ _ e4), rfl, _, _, rfl, _, _, rfl, rfl, rfl, rfl, _, rfl, _, rfl, rfl, (keepP_at e4).symm, fun z => (nomatch z)⟩
  have fl : (([.ref t0, .ref t1, .ref t2, .ref t3, .ref t4] : List V).filter (keepP G5)).map (outP G5) = [.str "Refused"] := by
    simp only [List.filter_cons, List.filter_nil, keepP_at e0, keepP_at e1, keepP_at e2, keepP_at e3, keepP_at e4]
    simp [outP_at e3]
  rw [fl]
  have k6 : Kp G5 (upd G5 D (.lst [.str "Refused"])) [] := Kp.new hD
  refine ⟨_, rfl, D, [.str "Refused"], rfl, .inl (SqL.of upd_same), rfl, false, rfl, iteF ⟨_, rfl, _, _, true, rfl, rv, R.kr.e, true, rfl, iteF ?_⟩⟩
  exact ⟨_, rfl, D, _, 0, _, rfl, rfl, SqL.of upd_same, at_of (j := 0) rfl rfl, go _ (((((((k0.then k1).then k2).then k3).then k4).then k5).then k6))⟩
theorem ok_told_Malformed {f Ce Co Cm Cn Cr Ct : Addr} {fd : FuncData} (F : Fun K "_law_told" "_law_told" s__law_told f fd) (T : Txt0 mg) (R : Ers K mg Ce Co Cm Cn Cr Ct) : GE.FnW P w K mg base CX0 1 f fd ["error"] (Zw Cm) (spWord "Malformed") := by
  refine GE.Fun.okW F sc__law_told (fun a vs H Q E h => ?_) (fun cdv A outer s H vs Q E p hot hz hB hr h => ?_)
  · rw [h.1]
    rfl
  obtain ⟨rfl, go⟩ := h
  have nd := sc__law_told.nd
  have isP : CallR (L2H.cxH CX0 P w K mg base ["error", "kinds", "names", "name", "true"] "_law_told" (defScope s__law_told) f cdv A outer s H E p) (.builtin "isinstance") (rIsE K Cm p.1) := GE.call_isP (oe := p.2) R.km.ex List.mem_cons_self hz.1 hz.2
  refine ⟨_, (pss_cons (ps_set (i := 1) nd rfl (.inl rfl) (pe_lst (pa_cons (pe_tup (pa_cons pe_str (pa_cons (pe_callB isP (by rfl) T.B.isinstance (by decide +kernel) (pa_cons (pv 0) (pa_cons (pe_gref (by rfl) R.gO) pa_nil))) pa_nil))) (pa_cons (pe_tup (pa_cons pe_str (pa_cons (pe_callB isP (by rfl) T.B.isinstance (by decide +kernel) (pa_cons (pv 0) (pa_cons (pe_gref (by rfl) R.gM) pa_nil))) pa_nil))) (pa_cons (pe_tup (pa_cons pe_str (pa_cons (pe_callB isP (by rfl) T.B.isinstance (by decide +kernel) (pa_cons (pv 0) (pa_cons (pe_gref (by rfl) R.gN) pa_nil))) pa_nil))) (pa_cons (pe_tup (pa_cons pe_str (pa_cons (pe_callB isP (by rfl) T.B.isinstance (by decide +kernel) (pa_cons (pv 0) (pa_cons (pe_gref (by rfl) R.gR) pa_nil))) pa_nil))) (pa_cons (pe_tup (pa_cons pe_str (pa_cons (pe_callB isP (by rfl) T.B.isinstance (by decide +kernel) (pa_cons (pv 0) (pa_cons (pe_gref (by rfl) R.gT) pa_nil))) pa_nil))) pa_nil)))))))
    (pss_cons (GE.ps_setLcHot (i := 2) (own := [("name", 3), ("true", 4)]) hB nd rfl rfl (sw_true rfl rfl rfl (by decide +kernel)) (pv 1) (blkOk_by (N := ["error", "kinds", "names", "name", "true"]) (sc := defScope s__law_told) (by decide +kernel)) (fun _ _ _ _ _ hb => (GE.pg_tupHot (n := 2) K hb (pgs_cons (pg_name (i := 3) nd rfl (.inl rfl)) (pgs_cons (pg_name (i := 4) nd rfl (.inl rfl)) pgs_nil)))) (fun _ _ _ _ _ => (pts_one (pt_val (pv 4)))) (fun _ _ _ _ _ => (pv 3)))
    (pss_cons (ps_if (PW.pt (pw_or (pt_cmpR op_ne (pe_callB call_len_seq (by rfl) T.B.len (by decide +kernel) (pa_cons (pv 2) pa_nil)) pe_int (nomark _)) (pw_or1 (pt_not (pt_val (pe_callB isP (by rfl) T.B.isinstance (by decide +kernel) (pa_cons (pv 0) (pa_cons (pe_gref (by rfl) R.gE) pa_nil)))))))) 
      (pss_one (ps_ret pe_str)) pss_nil)
    (pss_one (ps_ret (pe_ix ix_list (pv 2) pe_int (fun _ _ => rfl))))))), ?_⟩
  have rv : ∀ {c : Addr} (u : Value), RelV (.ref c) u → u = .ref c := fun u r => r
  refine ⟨_, rfl, _, _, false, rfl, rv, R.km.o, (by show 2 ≤ sizeLine; decide), fun t0 h0 => ?_⟩
  have k0 : Kp H (upd H t0 (.tup [.str "OutOfRange", .bl false])) [] := Kp.new h0
  have e0 : upd H t0 (.tup [.str "OutOfRange", .bl false]) t0 = some (.tup [.str "OutOfRange", .bl false]) := upd_same
  generalize upd H t0 (.tup [.str "OutOfRange", .bl false]) = G0 at k0 e0 ⊢
  refine ⟨_, rfl, _, _, true, rfl, rv, R.km.m, (by show 2 ≤ sizeLine; decide), fun t1 h1 => ?_⟩
  have k1 : Kp G0 (upd G0 t1 (.tup [.str "Malformed", .bl true])) [] := Kp.new h1
  have e1 : upd G0 t1 (.tup [.str "Malformed", .bl true]) t1 = some (.tup [.str "Malformed", .bl true]) := upd_same
  have e0 := k1.tup0 e0
  generalize upd G0 t1 (.tup [.str "Malformed", .bl true]) = G1 at k1 e0 e1 ⊢
  refine ⟨_, rfl, _, _, false, rfl, rv, R.km.n, (by show 2 ≤ sizeLine; decide), fun t2 h2 => ?_⟩
  have k2 : Kp G1 (upd G1 t2 (.tup [.str "NotThere", .bl false])) [] := Kp.new h2
  have e2 : upd G1 t2 (.tup [.str "NotThere", .bl false]) t2 = some (.tup [.str "NotThere", .bl false]) := upd_same
  have e0 := k2.tup0 e0
  have e1 := k2.tup0 e1
  generalize upd G1 t2 (.tup [.str "NotThere", .bl false]) = G2 at k2 e0 e1 e2 ⊢
  refine ⟨_, rfl, _, _, false, rfl, rv, R.km.r, (by show 2 ≤ sizeLine; decide), fun t3 h3 => ?_⟩
  have k3 : Kp G2 (upd G2 t3 (.tup [.str "Refused", .bl false])) [] := Kp.new h3
  have e3 : upd G2 t3 (.tup [.str "Refused", .bl false]) t3 = some (.tup [.str "Refused", .bl false]) := upd_same
  have e0 := k3.tup0 e0
  have e1 := k3.tup0 e1
  have e2 := k3.tup0 e2
  generalize upd G2 t3 (.tup [.str "Refused", .bl false]) = G3 at k3 e0 e1 e2 e3 ⊢
  refine ⟨_, rfl, _, _, false, rfl, rv, R.km.t, (by show 2 ≤ sizeLine; decide), fun t4 h4 => ?_⟩
  have k4 : Kp G3 (upd G3 t4 (.tup [.str "TooMuch", .bl false])) [] := Kp.new h4
  have e4 : upd G3 t4 (.tup [.str "TooMuch", .bl false]) t4 = some (.tup [.str "TooMuch", .bl false]) := upd_same
  have e0 := k4.tup0 e0
  have e1 := k4.tup0 e1
  have e2 := k4.tup0 e2
  have e3 := k4.tup0 e3
  generalize upd G3 t4 (.tup [.str "TooMuch", .bl false]) = G4 at k4 e0 e1 e2 e3 e4 ⊢
  refine ⟨(by show 5 ≤ sizeLine; decide), fun l hl => ?_⟩
  have k5 : Kp G4 (upd G4 l (.lst [.ref t0, .ref t1, .ref t2, .ref t3, .ref t4])) [] := Kp.new hl
  have hl5 : upd G4 l (.lst [.ref t0, .ref t1, .ref t2, .ref t3, .ref t4]) l = some (.lst [.ref t0, .ref t1, .ref t2, .ref t3, .ref t4]) := upd_same
  have e0 := k5.tup0 e0
  have e1 := k5.tup0 e1
  have e2 := k5.tup0 e2
  have e3 := k5.tup0 e3
  have e4 := k5.tup0 e4
  generalize upd G4 l (.lst [.ref t0, .ref t1, .ref t2, .ref t3, .ref t4]) = G5 at k5 hl5 e0 e1 e2 e3 e4 ⊢
  refine ⟨_, rfl, l, [.ref t0, .ref t1, .ref t2, .ref t3, .ref t4], keepP G5, outP G5, rfl, SqL.of hl5, fun x hx H' sm => ?_, fun D hD => ?_⟩
  · simp only [List.mem_cons, List.not_mem_nil, or_false] at hx
    rcases hx with rfl | rfl | rfl | rfl | rfl
    · exact ⟨t0, _, rfl, SqT.of (sm _ _ e0), rfl, _, _, rfl, _, _, rfl, rfl, rfl, rfl, _, rfl, _, rfl, rfl, (keepP_at e0).symm, fun z => (nomatch z)⟩
    · exact ⟨t1, _, rfl, SqT.of (sm _ _ e1), rfl, _, _, rfl, _, _, rfl, rfl, rfl, rfl, _, rfl, _, rfl, rfl, (keepP_at e1).symm, fun z => ⟨_, rfl, rfl, (outP_at e1).symm⟩⟩
    · exact ⟨t2, _, rfl, SqT.of (sm _ _ e2), rfl, _, _, rfl, _, _, rfl, rfl, rfl, rfl, _, rfl, _, rfl, rfl, (keepP_at e2).symm, fun z => (nomatch z)⟩
    · exact ⟨t3, _, rfl, SqT.of (sm _ _ e3), rfl, _, _, rfl, _, _, rfl, rfl, rfl, rfl, _, rfl, _, rfl, rfl, (keepP_at e3).symm, fun z => (nomatch z)⟩
    · exact ⟨t4, _, rfl, SqT.of (sm _ _ e4), rfl, _, _, rfl, _, _, rfl, rfl, rfl, rfl, _, rfl, _, rfl, rfl, (keepP_at e4).symm, fun z => (nomatch z)⟩
  have fl : (([.ref t0, .ref t1, .ref t2, .ref t3, .ref t4] : List V).filter (keepP G5)).map (outP G5) = [.str "Malformed"] := by
    simp only [List.filter_cons, List.filter_nil, keepP_at e0, keepP_at e1, keepP_at e2, keepP_at e3, keepP_at e4]
    simp [outP_at e1]
  rw [fl]
  have k6 : Kp G5 (upd G5 D (.lst [.str "Malformed"])) [] := Kp.new hD
  refine ⟨_, rfl, D, [.str "Malformed"], rfl, .inl (SqL.of upd_same), rfl, false, rfl, iteF ⟨_, rfl, _, _, true, rfl, rv, R.km.e, true, rfl, iteF ?_⟩⟩
  exact ⟨_, rfl, D, _, 0, _, rfl, rfl, SqL.of upd_same, at_of (j := 0) rfl rfl, go _ (((((((k0.then k1).then k2).then k3).then k4).then k5).then k6))⟩
end
end K48

set_option Elab.async false
set_option maxRecDepth 100000
set_option maxHeartbeats 8000000
namespace K48
open PySem L2
def AnsV (H : Hp) (wh : Nat) (m : Mc) (v : V) : Prop :=
  (wh = 0 ∧ ∃ l, v = .ref l ∧ H l = some (.tup (m.st.map fun e => .str e.1))) ∨ (wh = 1 ∧ ∃ l, v = .ref l ∧ H l = some (.tup (m.st.map fun e => e.2))) ∨ (wh = 2 ∧ v = .int (m.hi : Int)) ∨ (wh = 3 ∧ v = .int (m.sl.length : Int))
def spAsked (Pn Pw : Addr) : Sp := fun vs H Q _ => ∃ (wh : Nat) (a : Addr) (wv : V) (c : List Ins) (b : Bool), vs = [.int (wh : Int), .ref a, wv] ∧ CodeAt H a c ∧ c.length ≤ 20 ∧ NmOk c ∧ GxR.TabG H Pn ∧ GxR.TabG H Pw ∧ WorldV H wv b ∧
  ((b = false ∧ wh = 1 ∧ ∀ H', Kp H H' [] → Q (.str "Malformed") H') ∨
   (b = true ∧ wh ≤ 3 ∧ ∃ wt ws, wv = .ref wt ∧ H wt = some (.tup ws) ∧ W3 ws ∧ (runM (wk ws) c m0 = none → ∀ H', Kp H H' [] → Q (.str "Refused") H') ∧ ∀ m, runM (wk ws) c m0 = some m → ∀ H' v, Kp H H' [] → AnsV H' wh m v → Q v H'))
section
variable {P : Program} {w : World} {K : PySem.W.Frag} {mg : Str → Option Value} {base : Heap}
theorem n18_at {z : Nat} (h : z < 18) : ∃ n, (n18.map V.str)[z]? = some (.str n) ∧ n ∈ n18 := by
  have : z < n18.length := h
  exact ⟨n18[z], by rw [List.getElem?_map, List.getElem?_eq_getElem this]; rfl, List.getElem_mem this⟩
theorem sc__law_one : FnScope ["draws", "names", "kind"] ["draws"] (defScope s__law_one) := ⟨rfl, rfl, rfl, by decide +kernel, rfl, by decide +kernel, by decide +kernel⟩
theorem ok_one {f f1 : Addr} {fd fd1 : FuncData} (F : Fun K "_law_one" "_law_one" s__law_one f fd) (T : Txt0 mg) (G__law_draw : FnOk P w K mg base CX0 2 f1 fd1 ["draws", "size"] spDraw) (F__law_draw : Fun K "_law_draw" "_law_draw" s__law_draw f1 fd1) (b__law_draw : Binds K fd1 ["draws", "size"] []) (g__law_draw : mg "_law_draw" = some (.ref f1)) :
    FnOk P w K mg base CX0 3 f fd ["draws"] spOne := by
  refine F.ok sc__law_one (fun vs H Q E h => ?_) (fun cdv A outer s H vs Q E hr2 h => ?_)
  · obtain ⟨d, c, rfl, _⟩ := h
    rfl
  obtain ⟨d, c, rfl, D0, k⟩ := h
  have nd := sc__law_one.nd
  refine ⟨_, (pss_cons (ps_set (i := 1) nd rfl (.inl rfl) (pe_lst (pa_cons pe_str (pa_cons pe_str (pa_cons pe_str (pa_cons pe_str (pa_cons pe_str (pa_cons pe_str (pa_cons pe_str (pa_cons pe_str (pa_cons pe_str (pa_cons pe_str (pa_cons pe_str (pa_cons pe_str (pa_cons pe_str (pa_cons pe_str (pa_cons pe_str (pa_cons pe_str (pa_cons pe_str (pa_cons pe_str pa_nil))))))))))))))))))))
    (pss_cons (ps_set (i := 2) nd rfl (.inl rfl) (pe_call G__law_draw hr2 (by rfl) g__law_draw F__law_draw.kp b__law_draw .nil pass0 (pa_cons (pv 0) (pa_cons pe_int pa_nil))))
    (pss_cons (ps_if (pt_cmpR op_eq (pv 2) pe_int (nomark _)) 
      (pss_one (ps_ret (pe_tup (pa_cons pe_str pa_nil)))) pss_nil)
    (pss_cons (ps_if (pt_cmpR op_eq (pv 2) pe_int (nomark _)) 
      (pss_one (ps_ret (pe_tup (pa_cons pe_str pa_nil)))) pss_nil)
    (pss_cons (ps_if (pt_cmpR op_in_seq (pv 2) (pe_tup (pa_cons pe_int (pa_cons pe_int pa_nil))) rfl) 
      (pss_one (ps_ret (pe_tup (pa_cons (pe_ix ix_list (pe_lst (pa_cons pe_str (pa_cons pe_str pa_nil))) (pe_op op_sub (pv 2) pe_int) (fun _ _ => rfl)) (pa_cons (pe_call G__law_draw hr2 (by rfl) g__law_draw F__law_draw.kp b__law_draw .nil pass0 (pa_cons (pv 0) (pa_cons pe_int pa_nil))) pa_nil))))) pss_nil)
    (pss_one (ps_ret (pe_tup (pa_cons pe_str (pa_cons (pe_ix ix_list (pv 1) (pe_call G__law_draw hr2 (by rfl) g__law_draw F__law_draw.kp b__law_draw .nil pass0 (pa_cons (pv 0) (pa_cons (pe_ix ix_list (pe_lst (pa_cons pe_int (pa_cons pe_int pa_nil))) (pe_call G__law_draw hr2 (by rfl) g__law_draw F__law_draw.kp b__law_draw .nil pass0 (pa_cons (pv 0) (pa_cons pe_int pa_nil))) (fun _ _ => rfl)) pa_nil))) (fun _ _ => rfl)) pa_nil)))))))))), ?_⟩
  refine ⟨(by show 18 ≤ sizeLine; decide), fun l hl => ?_⟩
  have k1 : Kp H (upd H l (.lst (n18.map V.str))) [] := Kp.new hl
  have l1 : upd H l (.lst (n18.map V.str)) l = some (.lst (n18.map V.str)) := upd_same
  have D1 := D0.kp0 k1
  have ld : l ≠ d := by
    obtain ⟨xs, e⟩ := D0.isL
    exact nw e hl
  show tSeq _ _ _ _ (upd H l (.lst (n18.map V.str)))
  generalize upd H l (.lst (n18.map V.str)) = H1 at k1 l1 D1 ⊢
  refine ⟨_, rfl, d, c, 12, rfl, D1, by decide, by decide, fun z H2 z0 z1 k2 D2 => ?_⟩
  have kd : Kp H H2 [d] := k1.pre k2
  have l2 := k2.lst l1 (nm1 ld)
  have eqz : ∀ {i : Int}, z = i → decide (V.int z = V.int i) = true := fun h => decide_eq_true (by rw [h])
  have nez : ∀ {i : Int}, z ≠ i → decide (V.int z = V.int i) = false := fun h => decide_eq_false fun e => h (V.int.inj e)
  refine ⟨_, rfl, rfl, _, rfl, ?_⟩
  by_cases e0 : z = 0
  · rw [eqz e0]
    exact iteT ⟨(by show 1 ≤ sizeLine; decide), fun q hq => k _ q .swap (D2.kp0 (Kp.new hq)) (kd.then (Kp.new hq)) upd_same trivial⟩
  rw [nez e0]
  refine iteF ⟨_, rfl, rfl, _, rfl, ?_⟩
  by_cases e1 : z = 1
  · rw [eqz e1]
    exact iteT ⟨(by show 1 ≤ sizeLine; decide), fun q hq => k _ q .drop (D2.kp0 (Kp.new hq)) (kd.then (Kp.new hq)) upd_same trivial⟩
  rw [nez e1]
  refine iteF ⟨_, rfl, (by show 2 ≤ sizeLine; decide), fun p hp => ?_⟩
  have k3 : Kp H2 (upd H2 p (.tup [.int 2, .int 3])) [] := Kp.new hp
  have p3 : upd H2 p (.tup [.int 2, .int 3]) p = some (.tup [.int 2, .int 3]) := upd_same
  have kd3 := kd.then k3
  have D3 := D2.kp0 k3
  have l3 := k3.lst0 l2
  generalize upd H2 p (.tup [.int 2, .int 3]) = H3 at k3 p3 kd3 D3 l3 ⊢
  by_cases e23 : z = 2 ∨ z = 3
  · have iv : inV (.int z) [.int 2, .int 3] = true := by rcases e23 with rfl | rfl <;> decide +kernel
    refine ⟨p, _, rfl, .inr (SqT.of p3), rfl, rfl, true, congrArg V.bl iv, iteT ?_⟩
    refine ⟨(by show 2 ≤ sizeLine; decide), fun m hm => ?_⟩
    have k4 : Kp H3 (upd H3 m (.lst [.str "keep", .str "fetch"])) [] := Kp.new hm
    have m4 : upd H3 m (.lst [.str "keep", .str "fetch"]) m = some (.lst [.str "keep", .str "fetch"]) := upd_same
    have D4 := D3.kp0 k4
    generalize upd H3 m (.lst [.str "keep", .str "fetch"]) = H4 at k4 m4 D4 ⊢
    have kd4 := kd3.then k4
    rcases e23 with e | e
    · refine ⟨_, rfl, _, _, rfl, rfl, m, _, _, .str "keep", rfl, rfl, SqL.of m4, at_of (j := 0) (by rw [e]; rfl) rfl, ?_⟩
      refine ⟨_, rfl, d, c, 3, rfl, D4, by decide, by decide, fun y H5 y0 y1 k5 D5 => ⟨(by show 2 ≤ sizeLine; decide), fun q hq => k _ q (.keep y.toNat) (D5.kp0 (Kp.new hq)) ((kd4.both k5).then (Kp.new hq)) ?_ (show y.toNat < 3 by omega)⟩⟩
      show _ = some (HO.tup [.str "keep", .int (y.toNat : Int)])
      rw [Int.toNat_of_nonneg y0]
      exact upd_same
    · refine ⟨_, rfl, _, _, rfl, rfl, m, _, _, .str "fetch", rfl, rfl, SqL.of m4, at_of (j := 1) (by rw [e]; rfl) rfl, ?_⟩
      refine ⟨_, rfl, d, c, 3, rfl, D4, by decide, by decide, fun y H5 y0 y1 k5 D5 => ⟨(by show 2 ≤ sizeLine; decide), fun q hq => k _ q (.fetch y.toNat) (D5.kp0 (Kp.new hq)) ((kd4.both k5).then (Kp.new hq)) ?_ (show y.toNat < 3 by omega)⟩⟩
      show _ = some (HO.tup [.str "fetch", .int (y.toNat : Int)])
      rw [Int.toNat_of_nonneg y0]
      exact upd_same
  · have iv : inV (.int z) [.int 2, .int 3] = false := by
      have : z = 4 ∨ z = 5 ∨ z = 6 ∨ z = 7 ∨ z = 8 ∨ z = 9 ∨ z = 10 ∨ z = 11 := by omega
      rcases this with rfl | rfl | rfl | rfl | rfl | rfl | rfl | rfl <;> decide +kernel
    refine ⟨p, _, rfl, .inr (SqT.of p3), rfl, rfl, false, congrArg V.bl iv, iteF ?_⟩
    refine ⟨_, rfl, _, rfl, (by show 2 ≤ sizeLine; decide), fun m hm => ?_⟩
    have k4 : Kp H3 (upd H3 m (.lst [.int 8, .int 18])) [] := Kp.new hm
    have m4 : upd H3 m (.lst [.int 8, .int 18]) m = some (.lst [.int 8, .int 18]) := upd_same
    have D4 := D3.kp0 k4
    have l4 := k4.lst0 l3
    have md : m ≠ d := by
      obtain ⟨xs, e⟩ := D3.isL
      exact nw e hm
    generalize upd H3 m (.lst [.int 8, .int 18]) = H4 at k4 m4 D4 l4 ⊢
    have kd4 := kd3.then k4
    refine ⟨_, rfl, d, c, 2, rfl, D4, by decide, by decide, fun y H5 y0 y1 k5 D5 => ?_⟩
    have l5 := k5.lst l4 (nm1 ld)
    have m5 := k5.lst m4 (nm1 md)
    have kd5 := kd4.both k5
    obtain ⟨b, hb, b0, b1⟩ : ∃ b : Int, atI [V.int 8, V.int 18] y = some (.int b) ∧ 0 < b ∧ b ≤ 18 := by
      have : y = 0 ∨ y = 1 := by omega
      rcases this with rfl | rfl
      · exact ⟨8, at_of (j := 0) rfl rfl, by decide, by decide⟩
      · exact ⟨18, at_of (j := 1) rfl rfl, by decide, by decide⟩
    refine ⟨m, _, _, _, rfl, rfl, SqL.of m5, hb, d, c, b, rfl, D5, b0, by omega, fun x H6 x0 x1 k6 D6 => ?_⟩
    obtain ⟨n, hn1, hn2⟩ := n18_at (z := x.toNat) (by omega)
    refine ⟨l, _, _, _, rfl, rfl, SqL.of (k6.lst l5 (nm1 ld)), at_of (j := x.toNat) (by omega) hn1, (by show 2 ≤ sizeLine; decide), fun q hq => ?_⟩
    exact k _ q (.op n) (D6.kp0 (Kp.new hq)) ((kd5.both k6).then (Kp.new hq)) upd_same hn2
theorem takesF {X : Cx} : L2N.Takes X (fun _ _ _ _ => False) := fun _ _ ⟨_, _, _, _, _, _, _, _, _, _, _, _, _, _, _, _, w⟩ => w.elim
theorem pass0At {X : Cx} {E : L2.St → XK} : ∀ σ, PassesAt CX0 X σ (E σ) := fun _ _ _ _ _ _ _ h => h.elim
theorem sc__law_asked : FnScope ["what", "code", "world", "error"] ["what", "code", "world"] (defScope s__law_asked) := ⟨rfl, rfl, rfl, by decide +kernel, rfl, by decide +kernel, by decide +kernel⟩
theorem ok_asked {f C Ce Co Cm Cn Cr Ct Pn Pw f1 f2 f3 f4 f5 : Addr} {fd fd1 fd2 fd3 fd4 fd5 : FuncData} (F : Fun K "_law_asked" "_law_asked" s__law_asked f fd) (T : Txt K mg C Cr Cm) (R : Ers K mg Ce Co Cm Cn Cr Ct)
    (G_sorts_left : FnOk P w K mg base (L2N.CX P w) 6 f1 fd1 ["code"] (spLeft C Cr Pn)) (F_sorts_left : Fun K "sorts_left" "sorts_left" s_sorts_left f1 fd1) (b_sorts_left : Binds K fd1 ["code"] []) (g_sorts_left : mg "sorts_left" = some (.ref f1))
    (G_run_code : FnOk P w K mg base (L2N.CX P w) 5 f2 fd2 ["code", "world"] (spRun C Cr Cm Pn Pw)) (F_run_code : Fun K "run_code" "run_code" s_run_code f2 fd2) (b_run_code : Binds K fd2 ["code", "world"] []) (g_run_code : mg "run_code" = some (.ref f2))
    (G_height_of : FnOk P w K mg base (L2N.CX P w) 6 f3 fd3 ["code"] (spHeight C Cr Pn)) (F_height_of : Fun K "height_of" "height_of" s_height_of f3 fd3) (b_height_of : Binds K fd3 ["code"] []) (g_height_of : mg "height_of" = some (.ref f3))
    (G_slots_of : FnOk P w K mg base (L2N.CX P w) 6 f4 fd4 ["code"] (spSlots C Cr Pn)) (F_slots_of : Fun K "slots_of" "slots_of" s_slots_of f4 fd4) (b_slots_of : Binds K fd4 ["code"] []) (g_slots_of : mg "slots_of" = some (.ref f4))
    (G_R : GE.FnW P w K mg base CX0 1 f5 fd5 ["error"] (Zw Cr) (spWord "Refused")) (G_M : GE.FnW P w K mg base CX0 1 f5 fd5 ["error"] (Zw Cm) (spWord "Malformed")) (k_told : PySem.W.keepIn K (.ref f5) = true) (b_told : Binds K fd5 ["error"] []) (g_told : mg "_law_told" = some (.ref f5)) :
    FnOk P w K mg base CX0 7 f fd ["what", "code", "world"] (spAsked Pn Pw) := by
  refine F.ok sc__law_asked (fun vs H Q E h => ?_) (fun cdv A outer s H vs Q E hr h => ?_)
  · obtain ⟨wh, a, wv, c, b, rfl, _⟩ := h
    rfl
  obtain ⟨wh, a, wv, c, b, rfl, hc, len, nm, hT, hTw, hw, out⟩ := h
  have nd := sc__law_asked.nd
  have hr5 : Room 5 _ := hr.mono (by decide : 5 ≤ 6)
  have hr1 : Room 1 _ := hr.mono (by decide : 1 ≤ 6)
  refine ⟨_, pss_one (L2N.ps_try_as (i := 3) rfl rfl nd rfl rfl ⟨by rfl, by decide, .inl R.gE⟩ takesF
    (fun W pn xe tk pw =>
      (pss_cons (ps_if (pt_cmpR op_eq (pv 0) pe_int (nomark _)) (pss_one (ps_ret (pe_callS (E := WE W) G_sorts_left hr (by rfl) g_sorts_left F_sorts_left.kp b_sorts_left (L2N.passAt tk) (pa_cons (pv 1) pa_nil)))) pss_nil)
      (pss_cons (ps_if (pt_cmpR op_eq (pv 0) pe_int (nomark _)) (pss_one (ps_ret (pe_callS (E := WE W) G_run_code hr5 (by rfl) g_run_code F_run_code.kp b_run_code (L2N.passAt tk) (pa_cons (pv 1) (pa_cons (pv 2) pa_nil))))) pss_nil)
      (pss_one (ps_ret (pe_ifExp (pt_cmpR op_eq (pv 0) pe_int (nomark _)) (pe_callS (E := WE W) G_height_of hr (by rfl) g_height_of F_height_of.kp b_height_of (L2N.passAt tk) (pa_cons (pv 1) pa_nil)) (pe_callS (E := WE W) G_slots_of hr (by rfl) g_slots_of F_slots_of.kp b_slots_of (L2N.passAt tk) (pa_cons (pv 1) pa_nil))))))))
    (fun a oe cls d pn hz hf => GE.pss_either (p1 := cls = .ref Cr ∧ d = none) (p2 := cls = .ref Cm ∧ d = none)
      (fun hp => pss_one (ps_ret (GE.pe_callW (E := fun _ => XF) (a := a) (oe := oe) G_R ⟨hr1.dp, hr1.un⟩ ⟨rfl, hf.elim fun vs e => ⟨vs, e, hz.2.2 vs e⟩⟩ List.mem_cons_self ⟨⟨by rw [← hp.1]; exact hz.1, by rw [← hp.2]; exact hz.2.1⟩, hf⟩ (by rfl) g_told k_told b_told pass0At (pa_cons (pv 3) pa_nil))))
      (fun hp => pss_one (ps_ret (GE.pe_callW (E := fun _ => XF) (a := a) (oe := oe) G_M ⟨hr1.dp, hr1.un⟩ ⟨rfl, hf.elim fun vs e => ⟨vs, e, hz.2.2 vs e⟩⟩ List.mem_cons_self ⟨⟨by rw [← hp.1]; exact hz.1, by rw [← hp.2]; exact hz.2.1⟩, hf⟩ (by rfl) g_told k_told b_told pass0At (pa_cons (pv 3) pa_nil)))))), ?_⟩
  have ne : ∀ {x : Nat} {y : Int}, (x : Int) ≠ y → decide (V.int (x : Int) = V.int y) = false := fun h => decide_eq_false fun z => h (V.int.inj z)
  have eq : ∀ {x : Nat} {y : Int}, (x : Int) = y → decide (V.int (x : Int) = V.int y) = true := fun h => decide_eq_true (by rw [h])
  rcases out with ⟨rfl, rfl, go⟩ | ⟨rfl, w3', wt, ws, rfl, hwt, W3', gn, gs⟩
  · refine ⟨_, rfl, rfl, _, rfl, ?_⟩
    rw [ne (by decide)]
    refine iteF ⟨_, rfl, rfl, _, rfl, ?_⟩
    rw [eq (by decide)]
    refine iteT ⟨_, rfl, _, rfl, a, wv, c, false, rfl, hc, len, nm, hT, hTw, hw, fun _ H' k' => ⟨true, R.km.em, fun _ x hx => .inr ⟨⟨rfl, rfl⟩, _, rfl, rfl, fun H'' k'' => go H'' (k'.then k'')⟩, fun z => nomatch z⟩, fun z => nomatch z⟩
  · have er0 := er_run (wk ws) c m0
    have er0 : runM f0 c m0 = (runM (wk ws) c m0).map er := er0
    have hfail : runM f0 c m0 = none → runM (wk ws) c m0 = none := fun e => by
      rw [er0] at e
      cases z : runM (wk ws) c m0 with
      | none => rfl
      | some m => rw [z] at e; cases e
    have hsucc : ∀ m, runM f0 c m0 = some m → ∃ m1, runM (wk ws) c m0 = some m1 ∧ m = er m1 := fun m e => by
      rw [er0] at e
      cases z : runM (wk ws) c m0 with
      | none => rw [z] at e; cases e
      | some m1 =>
        rw [z] at e
        exact ⟨m1, rfl, (Option.some.inj e).symm⟩
    have st : ∀ m1 : Mc, ((er m1).st.map fun e => V.str e.1) = m1.st.map fun e => V.str e.1 := fun m1 => by
      show (m1.st.map _).map _ = _
      rw [List.map_map]
      rfl
    have sl : ∀ m1 : Mc, (er m1).sl.length = m1.sl.length := fun m1 => List.length_map _
    have : wh = 0 ∨ wh = 1 ∨ wh = 2 ∨ wh = 3 := by omega
    rcases this with rfl | rfl | rfl | rfl
    · refine ⟨_, rfl, rfl, _, rfl, ?_⟩
      rw [eq (by decide)]
      refine iteT ⟨_, rfl, a, c, rfl, hc, by omega, nm, hT, fun m em H' l hl k' => ?_, fun em H' k' => ⟨true, R.kr.em, fun _ x hx => .inl ⟨⟨rfl, rfl⟩, _, rfl, rfl, fun H'' k'' => gn (hfail em) H'' (k'.then k'')⟩, fun z => nomatch z⟩⟩
      obtain ⟨m1, e1, rfl⟩ := hsucc m em
      exact gs m1 e1 H' _ k' (.inl ⟨rfl, l, rfl, by rw [hl, st]⟩)
    · refine ⟨_, rfl, rfl, _, rfl, ?_⟩
      rw [ne (by decide)]
      refine iteF ⟨_, rfl, rfl, _, rfl, ?_⟩
      rw [eq (by decide)]
      refine iteT ⟨_, rfl, _, rfl, a, .ref wt, c, true, rfl, hc, len, nm, hT, hTw, hw, (fun z => nomatch z), fun _ => ⟨wt, ws, rfl, hwt, W3', fun m em H' l hl k' => gs m em H' _ k' (.inr (.inl ⟨rfl, l, rfl, hl⟩)), fun em H' k' => ⟨true, R.kr.em, fun _ x hx => .inl ⟨⟨rfl, rfl⟩, _, rfl, rfl, fun H'' k'' => gn em H'' (k'.then k'')⟩, fun z => nomatch z⟩⟩⟩
    · refine ⟨_, rfl, rfl, _, rfl, ?_⟩
      rw [ne (by decide)]
      refine iteF ⟨_, rfl, rfl, _, rfl, ?_⟩
      rw [ne (by decide)]
      refine iteF ⟨_, rfl, rfl, _, rfl, ?_⟩
      rw [eq (by decide)]
      refine iteT ⟨_, rfl, a, c, rfl, hc, by omega, nm, hT, fun m em H' k' => ?_, fun em H' k' => ⟨true, R.kr.em, fun _ x hx => .inl ⟨⟨rfl, rfl⟩, _, rfl, rfl, fun H'' k'' => gn (hfail em) H'' (k'.then k'')⟩, fun z => nomatch z⟩⟩
      obtain ⟨m1, e1, rfl⟩ := hsucc m em
      exact gs m1 e1 H' _ k' (.inr (.inr (.inl ⟨rfl, rfl⟩)))
    · refine ⟨_, rfl, rfl, _, rfl, ?_⟩
      rw [ne (by decide)]
      refine iteF ⟨_, rfl, rfl, _, rfl, ?_⟩
      rw [ne (by decide)]
      refine iteF ⟨_, rfl, rfl, _, rfl, ?_⟩
      rw [ne (by decide)]
      refine iteF ⟨_, rfl, a, c, rfl, hc, by omega, nm, hT, fun m em H' k' => ?_, fun em H' k' => ⟨true, R.kr.em, fun _ x hx => .inl ⟨⟨rfl, rfl⟩, _, rfl, rfl, fun H'' k'' => gn (hfail em) H'' (k'.then k'')⟩, fun z => nomatch z⟩⟩
      obtain ⟨m1, e1, rfl⟩ := hsucc m em
      rw [sl]
      exact gs m1 e1 H' _ k' (.inr (.inr (.inr ⟨rfl, rfl⟩)))
end
end K48

set_option Elab.async false
set_option maxRecDepth 100000
set_option maxHeartbeats 8000000
namespace K48
open PySem L2
/-! ### codes that the law builds -/
theorem Kp.wnew {H H1 H2 : Hp} {M : List Addr} {D : Addr} (a : Kp H H1 M) (b : Kp H1 H2 [D]) (hD : H D = none) : Kp H H2 M := a.trans b (fun _ h => h) (fun x hx => .inr (by rw [List.mem_singleton.mp hx]; exact hD)) a.kind
def COk (c : List Ins) : Prop := ∀ i ∈ c, IOk i
theorem COk.app {c e : List Ins} (h : COk c) (h2 : COk e) : COk (c ++ e) := fun i hi => (List.mem_append.mp hi).elim (h i) (h2 i)
theorem COk.take {c : List Ins} (h : COk c) (n : Nat) : COk (c.take n) := fun i hi => h i (List.mem_of_mem_take hi)
theorem COk.drop {c : List Ins} (h : COk c) (n : Nat) : COk (c.drop n) := fun i hi => h i (List.mem_of_mem_drop hi)
theorem COk.one {i : Ins} (h : IOk i) : COk [i] := fun j hj => by rw [List.mem_singleton.mp hj]; exact h
theorem COk.nil : COk [] := fun _ h => nomatch h
theorem COk.nm {c : List Ins} (h : COk c) : NmOk c := fun _ hn => h _ hn
theorem CodeAt.sq {K : PySem.W.Frag} {H : Hp} {a : Addr} {c : List Ins} (h : CodeAt H a c) : ∃ qs : List Addr, SqT K H a (qs.map V.ref) ∧ Paired (InsAt H) qs c := let ⟨qs, x, y⟩ := h; ⟨qs, SqT.of x, y⟩
theorem CodeAt.nil {H : Hp} {a : Addr} (h : H a = some (.tup [])) : CodeAt H a [] := ⟨[], h, .nil⟩
theorem CodeAt.one {H : Hp} {a q : Addr} {i : Ins} (h : H a = some (.tup [.ref q])) (hq : InsAt H q i) : CodeAt H a [i] := ⟨[q], h, .cons hq .nil⟩
theorem CodeAt.two {H : Hp} {a q r : Addr} {i j : Ins} (h : H a = some (.tup [.ref q, .ref r])) (hq : InsAt H q i) (hr : InsAt H r j) : CodeAt H a [i, j] := ⟨[q, r], h, .cons hq (.cons hr .nil)⟩
theorem CodeAt.kpd {H H' : Hp} {d a : Addr} {c : List Ins} (h : CodeAt H a c) (k : Kp H H' [d]) (hd : ∃ xs, H d = some (.lst xs)) : CodeAt H' a c := h.kp k fun m hm xs e => by
  obtain ⟨ys, z⟩ := hd
  rw [List.mem_singleton.mp hm, z] at e
  cases e
theorem tup_kpd {H H' : Hp} {d a : Addr} {xs : List V} (h : H a = some (.tup xs)) (k : Kp H H' [d]) (hd : ∃ xs, H d = some (.lst xs)) : H' a = some (.tup xs) := k.tup h fun hm => by
  obtain ⟨ys, z⟩ := hd
  rw [List.mem_singleton.mp hm, z] at h
  cases h
theorem cat_code {K : PySem.W.Frag} {H : Hp} {a b : Addr} {c e : List Ins} {Q : VK} (ha : CodeAt H a c) (hb : CodeAt H b e) (len : c.length + e.length ≤ 100) (q : ∀ H' p, Kp H H' [] → CodeAt H' p (c ++ e) → Q (.ref p) H') : rCatA K (.ref a) (.ref b) H Q := by
  obtain ⟨xs, hx, px⟩ := ha
  obtain ⟨ys, hy, py⟩ := hb
  have lx : xs.length = c.length := Paired.len px
  have ly : ys.length = e.length := Paired.len py
  refine ⟨a, b, xs.map V.ref, ys.map V.ref, rfl, rfl, SqT.of hx, SqT.of hy, ?_, fun e0 => ?_, fun _ e0 => ?_, fun _ _ p hp => ?_⟩
  · rw [List.length_map, List.length_map, lx, ly]
    exact Nat.le_trans len (by decide)
  · have : c = [] := List.eq_nil_of_length_eq_zero (by rw [← lx]; have := congrArg List.length e0; rw [List.length_map] at this; exact this)
    subst this
    exact q H b (Kp.refl H) ⟨ys, hy, py⟩
  · have : e = [] := List.eq_nil_of_length_eq_zero (by rw [← ly]; have := congrArg List.length e0; rw [List.length_map] at this; exact this)
    subst this
    refine q H a (Kp.refl H) ?_
    rw [List.append_nil]
    exact ⟨xs, hx, px⟩
  · have k : Kp H (upd H p (.tup (xs.map V.ref ++ ys.map V.ref))) [] := Kp.new hp
    refine q _ p k ⟨xs ++ ys, ?_, Paired.app (Paired.mapP px fun _ _ z => k.tup0 z) (Paired.mapP py fun _ _ z => k.tup0 z)⟩
    rw [upd_same, List.map_append]
theorem sl_code {K : PySem.W.Frag} {H : Hp} {a : Addr} {c : List Ins} {lo hi : Option Int} {Q : VK} (u v : Nat) (ha : CodeAt H a c) (hlo : HT.sIx c.length 0 lo = u) (hhi : HT.sIx c.length c.length hi = v)
    (q : ∀ H' p, Kp H H' [] → CodeAt H' p ((c.drop u).take (v - u)) → Q (.ref p) H') : rSlA K (.ref a) lo hi H Q := by
  obtain ⟨xs, hx, px⟩ := ha
  have lx : (xs.map V.ref).length = c.length := by rw [List.length_map]; exact Paired.len px
  refine ⟨a, xs.map V.ref, rfl, SqT.of hx, fun e => ?_, fun _ p hp => ?_⟩
  · rw [lx, hlo, hhi] at e
    refine q H a (Kp.refl H) ?_
    rw [e.1, e.2, List.drop_zero, Nat.sub_zero, List.take_length]
    exact ⟨xs, hx, px⟩
  · have k : Kp H (upd H p (.tup (cutV (xs.map V.ref) lo hi))) [] := Kp.new hp
    refine q _ p k ⟨(xs.drop u).take (v - u), ?_, Paired.mapP (Paired.take (Paired.drop px u) _) fun _ _ z => k.tup0 z⟩
    rw [upd_same]
    unfold cutV
    rw [lx, hlo, hhi, ← List.map_drop, ← List.map_take]
theorem sl_from {K : PySem.W.Frag} {σ : L2.St} {H : Hp} {a : Addr} {c : List Ins} {lo : Option Int} {Q : VK} (u v : Nat) (ha : CodeAt H a c) (hlo : HT.sIx c.length 0 lo = u) (hhi : HT.sIx c.length c.length none = v)
    (q : ∀ H' p, Kp H H' [] → CodeAt H' p ((c.drop u).take (v - u)) → Q (.ref p) H') : tNoPart σ H fun o H3 => rSlA K (.ref a) lo o H3 Q := sl_code u v ha hlo hhi q
theorem ix_to {n : Nat} (d : Nat) {i : Int} (j : Nat) (e : i = (j : Int)) (h : j ≤ n) : HT.sIx n d (some i) = j := by
  rw [e, HT.sIx_nat, Nat.min_eq_left h]
theorem ix_min {n : Nat} (d : Nat) {i : Int} (j : Nat) (e : i = (j : Int)) : HT.sIx n d (some i) = min j n := by
  rw [e, HT.sIx_nat]
theorem rep_code {K : PySem.W.Frag} {H : Hp} {t q : Addr} {i : Ins} {Q : VK} (ht : H t = some (.tup [.ref q])) (hq : InsAt H q i) (b : Bool) (k : ∀ H' p, Kp H H' [] → CodeAt H' p (if b = true then [i] else []) → Q (.ref p) H') :
    GT.rRepA K (.ref t) (.int (if b = true then 1 else 0)) H Q := by
  refine ⟨t, _, _, rfl, rfl, SqT.of ht, (fun z => nomatch z), by split <;> decide, by split <;> decide, (by show 1 ≤ 1000; decide), fun h p hp => ?_, fun h => ?_, fun h => ?_⟩
  · cases b with
    | true => exact absurd h (by decide)
    | false => exact k _ p (Kp.new hp) (CodeAt.nil upd_same)
  · cases b with
    | true => exact k H t (Kp.refl H) (CodeAt.one ht hq)
    | false => exact absurd h (by decide)
  · cases b with
    | true => exact absurd h (by decide)
    | false => exact absurd h (by decide)
/-! ### is_code of them -/
theorem ins_ok {i : Ins} (h : IOk i) : insT (cells i) = true ∧ (∀ x ∈ cells i, PrimV x) ∧ ∀ n, cells i = [.str "do", .str n] → okN n = true := by
  have st : ∀ s : Str, PyData.strOk s = true → PrimV (.str s) := fun s hs => .inr (.inr (.inr ⟨s, rfl, hs⟩))
  cases i with
  | swap => exact ⟨by decide +kernel, fun x hx => by rw [List.mem_singleton.mp hx]; exact st _ (by decide +kernel), fun n e => (nomatch (List.cons.inj e).2)⟩
  | drop => exact ⟨by decide +kernel, fun x hx => by rw [List.mem_singleton.mp hx]; exact st _ (by decide +kernel), fun n e => (nomatch (List.cons.inj e).2)⟩
  | keep k =>
    refine ⟨?_, fun x hx => ?_, fun n e => (nomatch (List.cons.inj (List.cons.inj e).2).1)⟩
    · have h : k < 3 := h
      have : k = 0 ∨ k = 1 ∨ k = 2 := by omega
      rcases this with rfl | rfl | rfl <;> decide +kernel
    · simp only [cells, List.mem_cons, List.not_mem_nil, or_false] at hx
      rcases hx with rfl | rfl
      · exact st _ (by decide +kernel)
      · exact .inl ⟨_, rfl⟩
  | fetch k =>
    refine ⟨?_, fun x hx => ?_, fun n e => (nomatch (List.cons.inj (List.cons.inj e).2).1)⟩
    · have h : k < 3 := h
      have : k = 0 ∨ k = 1 ∨ k = 2 := by omega
      rcases this with rfl | rfl | rfl <;> decide +kernel
    · simp only [cells, List.mem_cons, List.not_mem_nil, or_false] at hx
      rcases hx with rfl | rfl
      · exact st _ (by decide +kernel)
      · exact .inl ⟨_, rfl⟩
  | op n =>
    have h : n ∈ n18 := h
    have all : ∀ n ∈ n18, insT (cells (.op n)) = true ∧ PyData.strOk n = true := by decide +kernel
    obtain ⟨a, b⟩ := all n h
    refine ⟨a, fun x hx => ?_, fun m e => ?_⟩
    · simp only [cells, List.mem_cons, List.not_mem_nil, or_false] at hx
      rcases hx with rfl | rfl
      · exact st _ (by decide +kernel)
      · exact st _ b
    · have e : [V.str "do", V.str n] = [.str "do", .str m] := e
      have := V.str.inj (List.cons.inj (List.cons.inj e).2).1
      rw [← this]
      exact (n18_ok n h).1
theorem ins_v {H : Hp} {q : Addr} {i : Ins} (h : InsAt H q i) (o : IOk i) : InsV H (.ref q) true := by
  obtain ⟨a, b, c⟩ := ins_ok o
  exact .inr ⟨q, _, rfl, h, b, c, a.symm⟩
theorem paired_rep {α β : Type} {R : α → β → Prop} {x : α} {y : β} (h : R x y) : ∀ n, Paired R (List.replicate n x) (List.replicate n y)
  | 0 => .nil
  | n + 1 => .cons h (paired_rep h n)
theorem code_pairs {H : Hp} : ∀ {qs : List Addr} {c : List Ins}, Paired (InsAt H) qs c → COk c → Paired (InsV H) (qs.map V.ref) (List.replicate c.length true)
  | _, _, .nil, _ => .nil
  | _, _, .cons a b, o => .cons (ins_v a (o _ List.mem_cons_self)) (code_pairs b fun i hi => o i (List.mem_cons_of_mem _ hi))
theorem all_rep (n : Nat) : (List.replicate n true).all id = true := by
  rw [List.all_eq_true]
  intro x hx
  rw [List.eq_of_mem_replicate hx]
  rfl
theorem code_v {H : Hp} {a : Addr} {c : List Ins} (h : CodeAt H a c) (o : COk c) (len : c.length ≤ 2000) : CodeV H (.ref a) true := by
  obtain ⟨qs, x, y⟩ := h
  refine .inr ⟨a, _, _, rfl, x, code_pairs y o, ?_⟩
  rw [List.length_map, Paired.len y, decide_eq_true len, all_rep]
  rfl
theorem flat_rep {α : Type} (x : α) : ∀ n, (List.replicate n [x]).flatten = List.replicate n x
  | 0 => rfl
  | n + 1 => by
    rw [List.replicate_succ, List.flatten_cons, flat_rep x n, List.replicate_succ]
    rfl
theorem code_many {H : Hp} {p t : Addr} {n : Nat} (h : H p = some (.tup (List.replicate n [V.ref t]).flatten)) (ht : H t = some (.tup [.str "drop"])) : CodeV H (.ref p) (decide (n ≤ 2000)) := by
  rw [flat_rep] at h
  refine .inr ⟨p, _, List.replicate n true, rfl, h, paired_rep (ins_v (i := .drop) ht trivial) n, ?_⟩
  rw [List.length_replicate, all_rep, Bool.and_true]
theorem CodeV.kp {H H' : Hp} {v : V} {b : Bool} (h : CodeV H v b) (k : Kp H H' []) : CodeV H' v b := by
  rcases h with ⟨e, h⟩ | ⟨a, xs, bs, e, ha, p, r⟩
  · rcases h with h | h | ⟨a, xs, e2, ha⟩
    · exact .inl ⟨e, .inl h⟩
    · exact .inl ⟨e, .inr (.inl h)⟩
    · exact .inl ⟨e, .inr (.inr ⟨a, xs, e2, k.lst0 ha⟩)⟩
  · exact .inr ⟨a, xs, bs, e, k.tup0 ha, Paired.mapP p fun _ _ z => z.kp k, r⟩
def NoCode (H : Hp) (vs : List V) : Prop := ∀ v ∈ vs, CodeV H v false
theorem NoCode.kp {H H' : Hp} {vs : List V} (h : NoCode H vs) (k : Kp H H' []) : NoCode H' vs := fun v hv => (h v hv).kp k
theorem NoCode.nil {H : Hp} : NoCode H [] := fun _ h => nomatch h
theorem NoCode.snoc {H : Hp} {vs : List V} {v : V} (h : NoCode H vs) (hv : CodeV H v false) : NoCode H (vs ++ [v]) := fun x hx => by
  rcases List.mem_append.mp hx with hx | hx
  · exact h x hx
  · rw [List.mem_singleton.mp hx]
    exact hv
/-- a tuple of one thing that is no instruction -/
theorem no_one {H : Hp} {p : Addr} {x : V} (h : H p = some (.tup [x])) (hx : InsV H x false) : CodeV H (.ref p) false := .inr ⟨p, _, [false], rfl, h, .cons hx .nil, rfl⟩
theorem no_tup {H : Hp} {q : Addr} {xs : List V} (h : H q = some (.tup xs)) (hp : ∀ x ∈ xs, PrimV x) (hn : ∀ n, xs = [.str "do", .str n] → okN n = true) (hi : insT xs = false) : InsV H (.ref q) false := .inr ⟨q, xs, rfl, h, hp, hn, hi.symm⟩
theorem primS {s : Str} (h : PyData.strOk s = true) : PrimV (.str s) := .inr (.inr (.inr ⟨s, rfl, h⟩))
theorem prim1 {a : V} (ha : PrimV a) : ∀ x ∈ [a], PrimV x := fun x hx => by rw [List.mem_singleton.mp hx]; exact ha
theorem prim2 {a b : V} (ha : PrimV a) (hb : PrimV b) : ∀ x ∈ [a, b], PrimV x := fun x hx => by
  simp only [List.mem_cons, List.not_mem_nil, or_false] at hx
  rcases hx with rfl | rfl
  · exact ha
  · exact hb
theorem prim3 {a b c : V} (ha : PrimV a) (hb : PrimV b) (hc : PrimV c) : ∀ x ∈ [a, b, c], PrimV x := fun x hx => by
  simp only [List.mem_cons, List.not_mem_nil, or_false] at hx
  rcases hx with rfl | rfl | rfl
  · exact ha
  · exact hb
  · exact hc
theorem AnsV.kp {H H' : Hp} {wh : Nat} {m : Mc} {v : V} (h : AnsV H wh m v) (k : Kp H H' []) : AnsV H' wh m v := by
  rcases h with ⟨a, l, b, c⟩ | ⟨a, l, b, c⟩ | h | h
  · exact .inl ⟨a, l, b, k.tup0 c⟩
  · exact .inr (.inl ⟨a, l, b, k.tup0 c⟩)
  · exact .inr (.inr (.inl h))
  · exact .inr (.inr (.inr h))
/-- what the law has built -/
structure Lw (H G : Hp) (d dc wt : Addr) (ws : List V) (ac : Addr) (c : List Ins) (as : List Addr) : Prop where
  k : Kp H G []
  D : DrawsAt G d dc
  w : G wt = some (.tup ws)
  c : CodeAt G ac c
  g : ∀ a ∈ as, ∃ c, CodeAt G a c ∧ COk c ∧ c.length ≤ 17
section
variable {H G G' : Hp} {d dc wt ac : Addr} {ws : List V} {c : List Ins} {as : List Addr}
theorem Lw.kp0 (L : Lw H G d dc wt ws ac c as) (k : Kp G G' []) : Lw H G' d dc wt ws ac c as := ⟨L.k.then k, L.D.kp0 k, k.tup0 L.w, L.c.kp0 k, fun a ha => let ⟨c, x, y⟩ := L.g a ha; ⟨c, x.kp0 k, y⟩⟩
theorem Lw.kpd (L : Lw H G d dc wt ws ac c as) (k : Kp G G' [d]) (D' : DrawsAt G' d dc) (hdn : H d = none) : Lw H G' d dc wt ws ac c as :=
  ⟨fresh1 L.k k hdn, D', tup_kpd L.w k L.D.isL, L.c.kpd k L.D.isL, fun a ha => let ⟨c, x, y⟩ := L.g a ha; ⟨c, x.kpd k L.D.isL, y⟩⟩
theorem Lw.add (L : Lw H G d dc wt ws ac c as) {p : Addr} {e : List Ins} (h : CodeAt G p e) (o : COk e) (l : e.length ≤ 17) : Lw H G d dc wt ws ac c (as ++ [p]) :=
  ⟨L.k, L.D, L.w, L.c, fun a ha => (List.mem_append.mp ha).elim (L.g a) fun z => by rw [List.mem_singleton.mp z]; exact ⟨e, h, o, l⟩⟩
end
/-- what the law's own run told -/
def DueAt (G : Hp) (dv : V) (r : Option Mc) : Prop :=
  (r = none ∧ dv = .non) ∨ ∃ m p ls lv, r = some m ∧ dv = .ref p ∧ G p = some (.tup [.ref ls, .ref lv, .int (m.hi : Int), .int (m.sl.length : Int)]) ∧ G ls = some (.tup (m.st.map fun e => .str e.1)) ∧ G lv = some (.tup (m.st.map fun e => e.2))
theorem DueAt.kp {G G' : Hp} {dv : V} {r : Option Mc} (h : DueAt G dv r) (k : Kp G G' []) : DueAt G' dv r := by
  rcases h with h | ⟨m, p, ls, lv, a, b, c, d, e⟩
  · exact .inl h
  · exact .inr ⟨m, p, ls, lv, a, b, k.tup0 c, k.tup0 d, k.tup0 e⟩
/-- what the program told -/
def FoundV (G : Hp) (r : Option Mc) (j : Nat) (v : V) : Prop := (r = none ∧ v = .str "Refused") ∨ ∃ m, r = some m ∧ AnsV G j m v
theorem FoundV.kp {G G' : Hp} {r : Option Mc} {j : Nat} {v : V} (h : FoundV G r j v) (k : Kp G G' []) : FoundV G' r j v := by
  rcases h with h | ⟨m, a, b⟩
  · exact .inl h
  · exact .inr ⟨m, a, b.kp k⟩
theorem WorldV.good {H : Hp} {wt : Addr} {ws : List V} (h : H wt = some (.tup ws)) (w3 : W3 ws) : WorldV H (.ref wt) true := by
  obtain ⟨a, b, c, rfl, ha, hb, hc⟩ := w3
  refine .inr (.inr ⟨wt, _, rfl, h, fun x hx => ?_, ?_⟩)
  · simp only [List.mem_cons, List.not_mem_nil, or_false] at hx
    rcases hx with rfl | rfl | rfl
    · exact .inl ⟨_, rfl⟩
    · exact .inl ⟨_, rfl⟩
    · exact .inl ⟨_, rfl⟩
  · have e : ∀ i : Int, i.natAbs ≤ 1000000 → inR (.int i) (-1000000) 1000000 = true := fun i hi => by
      show (decide (-1000000 ≤ i) && decide (i ≤ 1000000)) = true
      rw [decide_eq_true (by omega), decide_eq_true (by omega)]
      rfl
    show true = (decide (3 = 3) && (inR (.int a) (-1000000) 1000000 && (inR (.int b) (-1000000) 1000000 && (inR (.int c) (-1000000) 1000000 && true))))
    rw [e a ha, e b hb, e c hc]
    rfl
theorem AnsV.kpl {H H' : Hp} {wh : Nat} {m : Mc} {v : V} {D : Addr} (h : AnsV H wh m v) (k : Kp H H' [D]) (hD : ∃ xs, H D = some (.lst xs)) : AnsV H' wh m v := by
  rcases h with ⟨a, l, b, c⟩ | ⟨a, l, b, c⟩ | h | h
  · exact .inl ⟨a, l, b, tup_kpd c k hD⟩
  · exact .inr (.inl ⟨a, l, b, tup_kpd c k hD⟩)
  · exact .inr (.inr (.inl h))
  · exact .inr (.inr (.inr h))
theorem FoundV.kpl {G G' : Hp} {r : Option Mc} {j : Nat} {v : V} {D : Addr} (h : FoundV G r j v) (k : Kp G G' [D]) (hD : ∃ xs, G D = some (.lst xs)) : FoundV G' r j v := by
  rcases h with h | ⟨m, a, b⟩
  · exact .inl h
  · exact .inr ⟨m, a, b.kpl k hD⟩
theorem rep4 {vs : List V} {v : V} (h : vs.length = 4) (a : ∀ (j : Nat) (x : V), vs[j]? = some x → x = v) : vs = List.replicate 4 v := by
  rw [List.eq_replicate_iff]
  refine ⟨h, fun x hx => ?_⟩
  obtain ⟨j, hj, e⟩ := List.mem_iff_getElem.mp hx
  exact a j x (by rw [List.getElem?_eq_getElem hj, e])
theorem WorldV.kp {H H' : Hp} {v : V} {b : Bool} (h : WorldV H v b) (k : Kp H H' []) : WorldV H' v b := by
  rcases h with h | ⟨a, xs, e, ha, r⟩ | ⟨a, xs, e, ha, r⟩
  · exact .inl h
  · exact .inr (.inl ⟨a, xs, e, k.lst0 ha, r⟩)
  · exact .inr (.inr ⟨a, xs, e, k.tup0 ha, r⟩)
theorem four {vs : List V} (h : vs.length = 4) : ∃ a b c d, vs = [a, b, c, d] := by
  match vs, h with
  | [a, b, c, d], _ => exact ⟨a, b, c, d, rfl⟩
theorem ne_self (v : V) : V.bl (!decide (v = v)) = V.bl false := by rw [decide_eq_true rfl]; rfl
theorem world_tup {H : Hp} {a : Addr} {xs : List V} (h : H a = some (.tup xs)) (n : ∀ x ∈ xs, Numb x) (b : (decide (xs.length = 3) && xs.all fun x => inR x (-1000000) 1000000) = false) : WorldV H (.ref a) false := .inr (.inr ⟨a, xs, rfl, h, n, b.symm⟩)
theorem numI (i : Int) : Numb (.int i) := .inl ⟨i, rfl⟩
theorem numB (b : Bool) : Numb (.bl b) := .inr (.inl ⟨b, rfl⟩)
theorem numN : Numb .non := .inr (.inr (.inl rfl))
theorem all2 {P : V → Prop} {a b : V} (ha : P a) (hb : P b) : ∀ x ∈ [a, b], P x := fun x hx => by
  simp only [List.mem_cons, List.not_mem_nil, or_false] at hx
  rcases hx with rfl | rfl
  · exact ha
  · exact hb
theorem all3 {P : V → Prop} {a b c : V} (ha : P a) (hb : P b) (hc : P c) : ∀ x ∈ [a, b, c], P x := fun x hx => by
  simp only [List.mem_cons, List.not_mem_nil, or_false] at hx
  rcases hx with rfl | rfl | rfl
  · exact ha
  · exact hb
  · exact hc
theorem ty_bool {K : PySem.W.Frag} {H : Hp} {v : V} {s : Str} {B : Nat} (h : TyV B s v) : ∃ (t : String) (b : Bool), TyX K H v (.type t) ∧ PySem.W.kitOne K (.type t) (.type "bool") = some b ∧ scal v v = true := by
  rcases h with ⟨_, i, rfl, _⟩ | ⟨_, b, rfl⟩
  · exact ⟨"int", false, .base (.int _), kit_ty (by decide +kernel), rfl⟩
  · exact ⟨"bool", true, .base (.bl _), kit_ty (by decide +kernel), rfl⟩
theorem eqv_tups (st : List En) : PyData.eqv (.tuple ((st.map fun e => V.str e.1).map pdOf)) (.tuple ((st.map fun e => V.str e.1).map pdOf)) = true := by
  have e : (st.map fun e => V.str e.1) = (st.map (·.1)).map V.str := by rw [List.map_map]; rfl
  rw [e]
  exact (eqvS (st.map (·.1)) (st.map (·.1))).trans (decide_eq_true rfl)
end K48

set_option Elab.async false
set_option maxRecDepth 100000
set_option maxHeartbeats 8000000
set_option pp.maxSteps 1500
namespace K48
open PySem L2
/-- law's: a list of at most 63 ints is handed in, the tables are there and empty, True comes out -/
def spLaw (K : PySem.W.Frag) (Pn Pw Pc : Addr) : Sp := fun vs H Q _ => ∃ (a : Addr) (ns : List Int), vs = [.ref a] ∧ SqL K H a (ns.map V.int) ∧ (∀ H', Kp H H' [] → SqL K H' a (ns.map V.int)) ∧ ns.length ≤ 63 ∧ GxR.TabG H Pn ∧ GxR.TabG H Pw ∧ GxR.TabG H Pc ∧ ∀ H', Q (.bl true) H'
section
variable {P : Program} {w : World} {K : PySem.W.Frag} {mg : Str → Option Value} {base : Heap}
theorem sc_law : FnScope ["script", "draws", "wide", "world", "code", "turn", "one", "k", "codes", "due", "found", "sorts", "values", "high", "many", "wrong", "what", "place", "value", "j"] ["script"] (defScope s_law) := ⟨rfl, rfl, rfl, by decide +kernel, rfl, by decide +kernel, by decide +kernel⟩
theorem ok_law {f Pn Pw Pc f1 f2 f3 f4 f5 f6 f7 : Addr} {fd fd1 fd2 fd3 fd4 fd5 fd6 fd7 : FuncData} (F : Fun K "law" "law" s_law f fd) (T : Txt0 mg)
    (G__law_open : FnOk P w K mg base CX0 1 f1 fd1 ["script"] (spOpen K)) (F__law_open : Fun K "_law_open" "_law_open" s__law_open f1 fd1) (b__law_open : Binds K fd1 ["script"] []) (g__law_open : mg "_law_open" = some (.ref f1))
    (G__law_draw : FnOk P w K mg base CX0 2 f2 fd2 ["draws", "size"] spDraw) (F__law_draw : Fun K "_law_draw" "_law_draw" s__law_draw f2 fd2) (b__law_draw : Binds K fd2 ["draws", "size"] []) (g__law_draw : mg "_law_draw" = some (.ref f2))
    (G__law_one : FnOk P w K mg base CX0 3 f3 fd3 ["draws"] spOne) (F__law_one : Fun K "_law_one" "_law_one" s__law_one f3 fd3) (b__law_one : Binds K fd3 ["draws"] []) (g__law_one : mg "_law_one" = some (.ref f3))
    (G__law_run : FnOk P w K mg base CX0 2 f4 fd4 ["code", "world"] spLRun) (F__law_run : Fun K "_law_run" "_law_run" s__law_run f4 fd4) (b__law_run : Binds K fd4 ["code", "world"] []) (g__law_run : mg "_law_run" = some (.ref f4))
    (G__law_asked : FnOk P w K mg base CX0 7 f5 fd5 ["what", "code", "world"] (spAsked Pn Pw)) (F__law_asked : Fun K "_law_asked" "_law_asked" s__law_asked f5 fd5) (b__law_asked : Binds K fd5 ["what", "code", "world"] []) (g__law_asked : mg "_law_asked" = some (.ref f5))
    (G_is_code : FnOk P w K mg base CX0 7 f6 fd6 ["value"] (spCode Pn Pc)) (F_is_code : Fun K "is_code" "is_code" s_is_code f6 fd6) (b_is_code : Binds K fd6 ["value"] []) (g_is_code : mg "is_code" = some (.ref f6))
    (G__law_int : FnOk P w K mg base CX0 1 f7 fd7 ["value"] spInt) (F__law_int : Fun K "_law_int" "_law_int" s__law_int f7 fd7) (b__law_int : Binds K fd7 ["value"] []) (g__law_int : mg "_law_int" = some (.ref f7)) :
    FnOk P w K mg base CX0 8 f fd ["script"] (spLaw K Pn Pw Pc) := by
  refine F.ok sc_law (fun vs H Q E h => ?_) (fun cdv A outer s H vs Q E hr h => ?_)
  · obtain ⟨a, ns, rfl, _⟩ := h
    rfl
  obtain ⟨a, ns, rfl, hS, hSk, hlen, tn, tw, tc, k⟩ := h
  have nd := sc_law.nd
  have hv := hr.units
  have hr1 := hr.mono (by decide : 1 ≤ 7)
  have hr2 := hr.mono (by decide : 2 ≤ 7)
  have hr3 := hr.mono (by decide : 3 ≤ 7)
  refine ⟨_, (pss_cons (ps_set (i := 1) nd rfl (.inr rfl) (pe_call G__law_open hr1 (by rfl) g__law_open F__law_open.kp b__law_open .nil pass0 (pa_cons (pv 0) pa_nil)))
    (pss_cons (ps_set (i := 2) nd rfl (.inr rfl) (pe_ix ix_list (pe_lst (pa_cons pe_int (pa_cons pe_int pa_nil))) (pe_call G__law_draw hr2 (by rfl) g__law_draw F__law_draw.kp b__law_draw .nil pass0 (pa_cons (pv 1) (pa_cons pe_int pa_nil))) (fun _ _ => rfl)))
    (pss_cons (ps_set (i := 3) nd rfl (.inr rfl) (pe_callTy call_tuple_of (by rfl) T.B.tuple (by decide +kernel) (pa_cons (pe_lc (own := [("one", 6)]) (g := gName 6) (tt := tYes) rfl nd (pi_range1 (by rfl) T.B.range (pa_cons pe_int pa_nil)) (blkOk_by (N := ["script", "draws", "wide", "world", "code", "turn", "one", "k", "codes", "due", "found", "sorts", "values", "high", "many", "wrong", "what", "place", "value", "j"]) (sc := defScope s_law) (by decide +kernel)) (fun _ _ _ _ _ => (pg_name (i := 6) nd rfl (.inl rfl))) (fun _ _ _ _ _ => pts_nil) (fun _ _ _ _ _ => (pe_op op_sub (pe_call G__law_draw hr2 (by rfl) g__law_draw F__law_draw.kp b__law_draw .nil pass0 (pa_cons (pv 1) (pa_cons (pv 2) pa_nil))) (pe_op op_fdiv (pv 2) pe_int)))) pa_nil)))
    (pss_cons (ps_set (i := 4) nd rfl (.inl rfl) (pe_tup pa_nil))
    (pss_cons (ps_for PassesOwn.never rfl (pi_range1 (by rfl) T.B.range (pa_cons (pe_call G__law_draw hr2 (by rfl) g__law_draw F__law_draw.kp b__law_draw .nil pass0 (pa_cons (pv 1) (pa_cons pe_int pa_nil))) pa_nil)) (pg_name (i := 5) nd rfl (.inl rfl)) 
      (pss_cons (ps_set (i := 6) nd rfl (.inr rfl) (pe_call G__law_one hr3 (by rfl) g__law_one F__law_one.kp b__law_one .nil pass0 (pa_cons (pv 1) pa_nil)))
      (pss_one (ps_set (i := 4) nd rfl (.inl rfl) (pe_op op_catA (pv 4) (pe_op GT.op_repTA (pe_tup (pa_cons (pv 6) pa_nil)) (pe_callTy call_int1 (by rfl) T.B.int (by decide +kernel) (pa_cons (pe_or (pe_cmpR op_notN (pe_call G__law_run hr2 (by rfl) g__law_run F__law_run.kp b__law_run .nil pass0 (pa_cons (pe_op op_catA (pv 4) (pe_tup (pa_cons (pv 6) pa_nil))) (pa_cons (pv 3) pa_nil))) pe_non (nomark _)) (pe_one (pe_cmpR op_eq (pe_call G__law_draw hr2 (by rfl) g__law_draw F__law_draw.kp b__law_draw .nil pass0 (pa_cons (pv 1) (pa_cons pe_int pa_nil))) pe_int (nomark _)))) pa_nil))))))))
    (pss_cons (ps_set (i := 7) nd rfl (.inl rfl) (pe_call G__law_draw hr2 (by rfl) g__law_draw F__law_draw.kp b__law_draw .nil pass0 (pa_cons (pv 1) (pa_cons (pe_op op_add (pe_callB call_len_seq (by rfl) T.B.len (by decide +kernel) (pa_cons (pv 4) pa_nil)) pe_int) pa_nil))))
    (pss_cons (ps_set (i := 8) nd rfl (.inl rfl) (pe_lst (pa_cons (pv 4) (pa_cons (pe_op op_catA (pe_slice sl_tupA (pv 4) po_none (po_some (pv 7))) (pe_slice sl_tupA (pv 4) (po_some (pe_op op_add (pv 7) pe_int)) po_none)) (pa_cons (pe_op op_catA (pe_op op_catA (pe_slice sl_tupA (pv 4) po_none (po_some (pv 7))) (pe_tup (pa_cons (pe_call G__law_one hr3 (by rfl) g__law_one F__law_one.kp b__law_one .nil pass0 (pa_cons (pv 1) pa_nil)) pa_nil))) (pe_slice sl_tupA (pv 4) (po_some (pe_op op_add (pv 7) pe_int)) po_none)) (pa_cons (pe_op op_catA (pe_op op_catA (pe_op op_catA (pe_slice sl_tupA (pv 4) po_none (po_some (pv 7))) (pe_slice sl_tupA (pv 4) (po_some (pe_op op_add (pv 7) pe_int)) (po_some (pe_op op_add (pv 7) pe_int)))) (pe_slice sl_tupA (pv 4) (po_some (pv 7)) (po_some (pe_op op_add (pv 7) pe_int)))) (pe_slice sl_tupA (pv 4) (po_some (pe_op op_add (pv 7) pe_int)) po_none)) pa_nil))))))
    (pss_cons (ps_set (i := 8) nd rfl (.inl rfl) (pe_op op_cat (pv 8) (pe_lst (pa_cons (pe_op op_catA (pv 4) (pe_tup (pa_cons (pe_call G__law_one hr3 (by rfl) g__law_one F__law_one.kp b__law_one .nil pass0 (pa_cons (pv 1) pa_nil)) (pa_cons (pe_call G__law_one hr3 (by rfl) g__law_one F__law_one.kp b__law_one .nil pass0 (pa_cons (pv 1) pa_nil)) pa_nil)))) (pa_cons (pe_tup pa_nil) pa_nil)))))
    (pss_cons (ps_for PassesOwn.never rfl (pi_list (pv 8)) (pg_name (i := 6) nd rfl (.inr rfl)) 
      (Evl.pss_cut (ps_set (i := 9) nd rfl (.inl rfl) (pe_call G__law_run hr2 (by rfl) g__law_run F__law_run.kp b__law_run .nil pass0 (pa_cons (pv 6) (pa_cons (pv 3) pa_nil))))
      (Evl.pss_cut (ps_set (i := 10) nd rfl (.inr rfl) (pe_lc (own := [("what", 16)]) (g := gName 16) (tt := tYes) rfl nd (pi_range1 (by rfl) T.B.range (pa_cons pe_int pa_nil)) (blkOk_by (N := ["script", "draws", "wide", "world", "code", "turn", "one", "k", "codes", "due", "found", "sorts", "values", "high", "many", "wrong", "what", "place", "value", "j"]) (sc := defScope s_law) (by decide +kernel)) (fun _ _ _ _ _ => (pg_name (i := 16) nd rfl (.inl rfl))) (fun _ _ _ _ _ => pts_nil) (fun _ _ _ _ _ => (pe_call G__law_asked hr (by rfl) g__law_asked F__law_asked.kp b__law_asked .nil pass0 (pa_cons (pv 16) (pa_cons (pv 6) (pa_cons (pv 3) pa_nil)))))))
      (pss_cons (ps_if (pt_cmpR op_notBl (pe_call G_is_code hr (by rfl) g_is_code F_is_code.kp b_is_code .nil pass0 (pa_cons (pv 6) pa_nil)) pe_bl (nomark _)) 
        (pss_one (ps_ret pe_bl)) pss_nil)
      (Evl.pss_cut (ps_if (pt_cmpR op_isN (pv 9) pe_non (nomark _)) 
        (pss_one (ps_if (pt_cmpR (op_neD hv) (pv 10) (pe_op op_rep (pe_lst (pa_cons pe_str pa_nil)) pe_int) (nomark _)) 
          (pss_one (ps_ret pe_bl)) pss_nil)) 
        (pss_cons (ps_asg (pv 9) (pg_tup rfl (pgs_cons (pg_name (i := 11) nd rfl (.inl rfl)) (pgs_cons (pg_name (i := 12) nd rfl (.inr rfl)) (pgs_cons (pg_name (i := 13) nd rfl (.inl rfl)) (pgs_cons (pg_name (i := 14) nd rfl (.inl rfl)) pgs_nil))))))
        (pss_cons (ps_if (PW.pt (pw_or (pt_cmpR (op_neD hv) (pe_ix ix_list (pv 10) pe_int (fun _ _ => rfl)) (pv 11) (nomark _)) (pw_or (pt_cmpR op_ne (pe_ix ix_list (pv 10) pe_int (fun _ _ => rfl)) (pv 13) (nomark _)) (pw_or (pt_cmpR op_ne (pe_ix ix_list (pv 10) pe_int (fun _ _ => rfl)) (pv 14) (nomark _)) (pw_or (pt_not (pt_val (pe_call G__law_int hr1 (by rfl) g__law_int F__law_int.kp b__law_int .nil pass0 (pa_cons (pe_ix ix_list (pv 10) pe_int (fun _ _ => rfl)) pa_nil)))) (pw_or (pt_not (pt_val (pe_callB call_isi (by rfl) T.B.isinstance (by decide +kernel) (pa_cons (pe_ix ix_list (pv 10) pe_int (fun _ _ => rfl)) (pa_cons (pe_bltn (v := .ty "tuple") (by rfl) T.B.tuple (by decide +kernel) rfl) pa_nil))))) (pw_or1 (pt_cmpR op_ne (pe_callB call_len_seq (by rfl) T.B.len (by decide +kernel) (pa_cons (pe_ix ix_list (pv 10) pe_int (fun _ _ => rfl)) pa_nil)) (pe_callB call_len_seq (by rfl) T.B.len (by decide +kernel) (pa_cons (pv 12) pa_nil)) (nomark _))))))))) 
          (pss_one (ps_ret pe_bl)) pss_nil)
        (pss_one (ps_if (pt_cmpR (op_neD hv) (pe_lc (own := [("j", 19)]) (g := gName 19) rfl nd (pi_range1 (by rfl) T.B.range (pa_cons (pe_callB call_len_seq (by rfl) T.B.len (by decide +kernel) (pa_cons (pv 12) pa_nil)) pa_nil)) (blkOk_by (N := ["script", "draws", "wide", "world", "code", "turn", "one", "k", "codes", "due", "found", "sorts", "values", "high", "many", "wrong", "what", "place", "value", "j"]) (sc := defScope s_law) (by decide +kernel)) (fun _ _ _ _ _ => (pg_name (i := 19) nd rfl (.inl rfl))) (fun _ _ _ _ _ => (pts_one (PW.pt (pw_or (pt_cmpR op_ne (pe_callB (GK.isiK K) (by rfl) T.B.isinstance (by decide +kernel) (pa_cons (pe_ix (GK.ixTK K) (pe_ix (GK.ixLK K) (pv 10) pe_int (fun _ _ => rfl)) (pv 19) (fun _ _ => rfl)) (pa_cons (pe_bltn (v := .ty "bool") (by rfl) T.B.bool (by decide +kernel) rfl) pa_nil))) (pe_callB (GK.isiK K) (by rfl) T.B.isinstance (by decide +kernel) (pa_cons (pe_ix (GK.ixTK K) (pv 12) (pv 19) (fun _ _ => rfl)) (pa_cons (pe_bltn (v := .ty "bool") (by rfl) T.B.bool (by decide +kernel) rfl) pa_nil))) (nomark _)) (pw_or1 (pt_cmpR op_ne (pe_ix (GK.ixTK K) (pe_ix (GK.ixLK K) (pv 10) pe_int (fun _ _ => rfl)) (pv 19) (fun _ _ => rfl)) (pe_ix (GK.ixTK K) (pv 12) (pv 19) (fun _ _ => rfl)) (nomark _))))))) (fun _ _ _ _ _ => (pv 19))) (pe_lst pa_nil) (nomark _)) 
          (pss_one (ps_ret pe_bl)) pss_nil)))))
      (pss_one (ps_if (pt_cmpR (op_neD hv) (pe_lc (own := [("place", 17)]) (g := gName 17) rfl nd (pi_list (pe_lst (pa_cons pe_non (pa_cons (pe_tup (pa_cons pe_int (pa_cons pe_int pa_nil))) (pa_cons (pe_lst (pa_cons pe_int (pa_cons pe_int (pa_cons pe_int pa_nil)))) (pa_cons (pe_tup (pa_cons pe_int (pa_cons pe_int (pa_cons pe_non pa_nil)))) (pa_cons (pe_tup (pa_cons pe_bl (pa_cons pe_int (pa_cons pe_int pa_nil)))) pa_nil))))))) (blkOk_by (N := ["script", "draws", "wide", "world", "code", "turn", "one", "k", "codes", "due", "found", "sorts", "values", "high", "many", "wrong", "what", "place", "value", "j"]) (sc := defScope s_law) (by decide +kernel)) (fun _ _ _ _ _ => (pg_name (i := 17) nd rfl (.inl rfl))) (fun _ _ _ _ _ => (pts_one (pt_cmpR op_ne (pe_call G__law_asked hr (by rfl) g__law_asked F__law_asked.kp b__law_asked .nil pass0 (pa_cons pe_int (pa_cons (pv 6) (pa_cons (pv 17) pa_nil)))) pe_str (nomark _)))) (fun _ _ _ _ _ => (pv 17))) (pe_lst pa_nil) (nomark _)) 
        (pss_one (ps_ret pe_bl)) pss_nil)))))))
    (pss_cons (ps_set (i := 15) nd rfl (.inl rfl) (pe_lst (pa_cons pe_non (pa_cons (pe_callTy call_list_of (by rfl) T.B.list (by decide +kernel) (pa_cons (pv 4) pa_nil)) (pa_cons (pe_tup (pa_cons pe_non pa_nil)) (pa_cons (pe_tup (pa_cons (pe_tup pa_nil) pa_nil)) (pa_cons (pe_tup (pa_cons pe_str pa_nil)) (pa_cons (pe_tup (pa_cons (pe_lst (pa_cons pe_str pa_nil)) pa_nil)) (pa_cons (pe_tup (pa_cons (pe_tup (pa_cons pe_str (pa_cons pe_int pa_nil))) pa_nil)) (pa_cons (pe_tup (pa_cons (pe_tup (pa_cons pe_str (pa_cons pe_int pa_nil))) pa_nil)) (pa_cons (pe_tup (pa_cons (pe_tup (pa_cons pe_str pa_nil)) pa_nil)) (pa_cons (pe_tup (pa_cons (pe_tup (pa_cons pe_str (pa_cons pe_int pa_nil))) pa_nil)) (pa_cons (pe_tup (pa_cons (pe_tup (pa_cons pe_str (pa_cons (pe_un un_neg pe_int) pa_nil))) pa_nil)) (pa_cons (pe_tup (pa_cons (pe_tup (pa_cons pe_str (pa_cons pe_non pa_nil))) pa_nil)) (pa_cons (pe_tup (pa_cons (pe_tup (pa_cons pe_str (pa_cons pe_bl pa_nil))) pa_nil)) (pa_cons (pe_tup (pa_cons (pe_tup (pa_cons pe_str pa_nil)) pa_nil)) (pa_cons (pe_tup (pa_cons (pe_tup (pa_cons pe_str (pa_cons pe_str pa_nil))) pa_nil)) (pa_cons (pe_tup (pa_cons (pe_tup (pa_cons pe_str (pa_cons pe_str pa_nil))) pa_nil)) (pa_cons (pe_tup (pa_cons (pe_tup (pa_cons pe_str (pa_cons pe_str pa_nil))) pa_nil)) (pa_cons (pe_tup (pa_cons (pe_tup (pa_cons pe_str (pa_cons pe_non pa_nil))) pa_nil)) (pa_cons (pe_tup (pa_cons (pe_tup (pa_cons pe_str (pa_cons pe_str (pa_cons pe_int pa_nil)))) pa_nil)) (pa_cons (pe_tup (pa_cons (pe_tup (pa_cons pe_str (pa_cons pe_int pa_nil))) pa_nil)) (pa_cons (pe_tup (pa_cons (pe_tup (pa_cons pe_int pa_nil)) pa_nil)) (pa_cons pe_int pa_nil))))))))))))))))))))))))
    (pss_one (ps_ret (pe_and (pe_cmpR op_isBl (pe_call G_is_code hr (by rfl) g_is_code F_is_code.kp b_is_code .nil pass0 (pa_cons (pe_op GT.op_repTA (pe_tup (pa_cons (pe_tup (pa_cons pe_str pa_nil)) pa_nil)) pe_int) pa_nil)) pe_bl (nomark _)) (pe_and (pe_cmpR op_isBl (pe_call G_is_code hr (by rfl) g_is_code F_is_code.kp b_is_code .nil pass0 (pa_cons (pe_op GT.op_repTA (pe_tup (pa_cons (pe_tup (pa_cons pe_str pa_nil)) pa_nil)) pe_int) pa_nil)) pe_bl (nomark _)) (pe_one (pe_cmpR (op_eqD hv) (pe_lc (own := [("value", 18)]) (g := gName 18) rfl nd (pi_list (pv 15)) (blkOk_by (N := ["script", "draws", "wide", "world", "code", "turn", "one", "k", "codes", "due", "found", "sorts", "values", "high", "many", "wrong", "what", "place", "value", "j"]) (sc := defScope s_law) (by decide +kernel)) (fun _ _ _ _ _ => (pg_name (i := 18) nd rfl (.inl rfl))) (fun _ _ _ _ _ => (pts_one (pt_cmpR op_notBl (pe_call G_is_code hr (by rfl) g_is_code F_is_code.kp b_is_code .nil pass0 (pa_cons (pv 18) pa_nil)) pe_bl (nomark _)))) (fun _ _ _ _ _ => (pv 18))) (pe_lst pa_nil) (nomark _))))))))))))))))), ?_⟩
  refine ⟨_, rfl, a, ns, rfl, hS, hlen, hSk, fun H1 d dc k1 hdn hcn D1 => ?_⟩
  have tn1 := k1.tabG tn
  have tw1 := k1.tabG tw
  have tc1 := k1.tabG tc
  -- wide
  refine ⟨(by show 2 ≤ sizeLine; decide), fun l hl => ?_⟩
  have k2 : Kp H1 (upd H1 l (.lst [.int 6, .int 2000001])) [] := Kp.new hl
  have l2 : upd H1 l (.lst [.int 6, .int 2000001]) l = some (.lst [.int 6, .int 2000001]) := upd_same
  have D2 := D1.kp0 k2
  have ld : l ≠ d := by
    obtain ⟨xs, e⟩ := D1.isL
    exact nw e hl
  generalize upd H1 l (.lst [.int 6, .int 2000001]) = H2 at k2 l2 D2 ⊢
  refine ⟨_, rfl, d, dc, 2, rfl, D2, by decide, by decide, fun y H3 y0 y1 k3 D3 => ?_⟩
  have l3 := k3.lst l2 (nm1 ld)
  obtain ⟨b, hb, b0⟩ : ∃ b : Int, atI [V.int 6, V.int 2000001] y = some (.int b) ∧ (b = 6 ∨ b = 2000001) := by
    have : y = 0 ∨ y = 1 := by omega
    rcases this with rfl | rfl
    · exact ⟨6, at_of (j := 0) rfl rfl, .inl rfl⟩
    · exact ⟨2000001, at_of (j := 1) rfl rfl, .inr rfl⟩
  refine ⟨l, _, _, _, rfl, rfl, SqL.of l3, hb, ?_⟩
  have k13 : Kp H H3 [] := fresh1 (k1.then k2) k3 hdn
  clear l2 l3 hl ld k2 k3 D2
  -- world
  refine ⟨3, rfl, by decide, by decide, fun D hD => ?_⟩
  obtain ⟨dD, cD⟩ := D3.nc hD
  have nt3 := D3.nt
  refine lc_range (n := 3) (fun i H' => Kp H3 H' [d] ∧ DrawsAt H' d dc ∧ ∃ zs : List Int, H' D = some (.lst (zs.map V.int)) ∧ zs.length = i ∧ ∀ z ∈ zs, z.natAbs ≤ 1000000) ⟨(Kp.new hD).up (fun _ h => nomatch h) nt3, D3.kp0 (Kp.new hD), [], upd_same, rfl, fun _ h => nomatch h⟩ (fun i H' hi ⟨k4, D4, zs, hD4, hz, hz2⟩ => ?_) (fun H4 ⟨k4, D4, zs, hD4, hz, hz2⟩ => ?_)
  · refine ⟨rfl, _, rfl, _, rfl, d, dc, b, rfl, D4, by omega, by omega, fun z H5 z0 z1 k5 D5 => ?_⟩
    have hD5 := k5.lst hD4 (nm1 dD)
    refine ⟨_, rfl, _, _, rfl, rfl, ⟨by decide, by decide⟩, _, _, rfl, rfl, _, hD5, ?_, ?_, ?_, zs ++ [z - b / 2], ?_, ?_, ?_⟩
    · rw [List.length_map, hz]
      exact Nat.lt_of_lt_of_le hi (by decide)
    · exact (k4.both k5).wnew (Kp.wl hD5) hD
    · exact D5.kp (Kp.wl hD5) (nm1 dD.symm) (nm1 cD.symm)
    · rw [upd_same, List.map_append]
      rfl
    · rw [List.length_append, hz]
      rfl
    · intro x hx
      rcases List.mem_append.mp hx with hx | hx
      · exact hz2 x hx
      · rw [List.mem_singleton.mp hx]
        rcases b0 with rfl | rfl <;> omega
  refine ⟨D, _, rfl, .inl ⟨SqL.of hD4, fun wt hwt => ?_⟩⟩
  have w3 : W3 (zs.map V.int) := by
    match zs, hz, hz2 with
    | [x, y, z], _, h => exact ⟨x, y, z, rfl, h x (by simp), h y (by simp), h z (by simp)⟩
  have k5 : Kp H4 (upd H4 wt (.tup (zs.map V.int))) [] := Kp.new hwt
  have w5 : upd H4 wt (.tup (zs.map V.int)) wt = some (.tup (zs.map V.int)) := upd_same
  have D5 := D4.kp0 k5
  generalize upd H4 wt (.tup (zs.map V.int)) = H5 at k5 w5 D5 ⊢
  generalize zs.map V.int = ws at w3 w5
  have k15 : Kp H H5 [] := (fresh1 k13 k4 hdn).then k5
  clear k13 k4 k5 D3 D4 hD4 hD dD cD hwt
  -- code = ()
  refine ⟨Nat.zero_le _, fun a0 ha0 => ?_⟩
  have k6 : Kp H5 (upd H5 a0 (.tup [])) [] := Kp.new ha0
  have c6 : CodeAt (upd H5 a0 (.tup [])) a0 [] := CodeAt.nil upd_same
  have w6 := k6.tup0 w5
  have D6 := D5.kp0 k6
  have k16 := k15.then k6
  generalize upd H5 a0 (.tup []) = H6 at k6 c6 w6 D6 k16 ⊢
  clear k15 k6 w5 D5 ha0
  -- for turn in range(..)
  refine ⟨_, rfl, d, dc, 15, rfl, D6, by decide, by decide, fun z H7 z0 z1 k7 D7 => ?_⟩
  have w7 := tup_kpd w6 k7 D6.isL
  have c7 := c6.kpd k7 D6.isL
  have k17 := fresh1 k16 k7 hdn
  clear k16 k7 w6 c6 D6
  refine ⟨z, rfl, by omega, by omega, for_range (n := z.toNat) (fun i σ H' => Kp H H' [] ∧ DrawsAt H' d dc ∧ H' wt = some (.tup ws) ∧ ∃ (c : List Ins) (ac : Addr) (u5 u6 : Option V), COk c ∧ c.length ≤ i ∧ CodeAt H' ac c ∧
      σ = [some (.ref a), some (.ref d), some (.int b), some (.ref wt), some (.ref ac), u5, u6, none, none, none, none, none, none, none, none, none, none, none, none, none]) ⟨k17, D7, w7, [], a0, none, none, COk.nil, Nat.le_refl _, c7, rfl⟩ ?_ ?_⟩
  · rintro i σ H8 hi ⟨k18, D8, w8, c, ac, u5, u6, co, cl, c8, rfl⟩
    refine ⟨_, rfl, d, dc, rfl, D8, fun H9 q ins D9 k9 hq io => ?_⟩
    have w9 := tup_kpd w8 k9 D8.isL
    have c9 := c8.kpd k9 D8.isL
    have k19 := fresh1 k18 k9 hdn
    clear k9 w8 c8 D8
    have i14 : i ≤ 13 := by omega
    refine ⟨_, rfl, _, rfl, (by show 1 ≤ sizeLine; decide), fun t ht => ?_⟩
    have kA : Kp H9 (upd H9 t (.tup [.ref q])) [] := Kp.new ht
    have tA : upd H9 t (.tup [.ref q]) t = some (.tup [.ref q]) := upd_same
    have qA := kA.tup0 hq
    have wA := kA.tup0 w9
    have cA := c9.kp0 kA
    have DA := D9.kp0 kA
    have k1A := k19.then kA
    generalize upd H9 t (.tup [.ref q]) = HA at kA tA qA wA cA DA k1A ⊢
    clear kA w9 c9 D9 k19 hq ht
    refine ⟨_, rfl, _, rfl, (by show 1 ≤ sizeLine; decide), fun t2 ht2 => ?_⟩
    have kB : Kp HA (upd HA t2 (.tup [.ref q])) [] := Kp.new ht2
    have tB : upd HA t2 (.tup [.ref q]) t2 = some (.tup [.ref q]) := upd_same
    have t1B := kB.tup0 tA
    have qB := kB.tup0 qA
    have wB := kB.tup0 wA
    have cB := cA.kp0 kB
    have DB := DA.kp0 kB
    have k1B := k1A.then kB
    generalize upd HA t2 (.tup [.ref q]) = HB at kB tB t1B qB wB cB DB k1B ⊢
    clear kB wA cA DA k1A qA tA ht2
    refine cat_code cB (CodeAt.one tB qB) (by show c.length + 1 ≤ 100; omega) fun HC p kC cC => ?_
    have k1C := k1B.then kC
    have l1 : (c ++ [ins]).length ≤ 20 := by rw [List.length_append]; show c.length + 1 ≤ 20; omega
    have qC := kC.tup0 qB
    have t1C := kC.tup0 t1B
    have wC := kC.tup0 wB
    have cC1 := cB.kp0 kC
    have DC := DB.kp0 kC
    clear tB kC cB k1B wB DB qB t1B
    refine ⟨_, rfl, p, wt, ws, c ++ [ins], rfl, cC, l1, (co.app (COk.one io)).nm, wC, w3, fun en HD kD => ?_, fun m em HD pp ls lv e1 e2 e3 kD => ?_⟩
    · refine ⟨rfl, false, congrArg V.bl (by decide), iteF ?_⟩
      have DD := DC.kp0 kD
      refine ⟨_, rfl, d, dc, 12, rfl, DD, by decide, by decide, fun z2 HE z20 z21 kE DE => ?_⟩
      have tE := tup_kpd (kD.tup0 t1C) kE DD.isL
      have qE := tup_kpd (kD.tup0 qC) kE DD.isL
      have wE := tup_kpd (kD.tup0 wC) kE DD.isL
      have cE := (cC1.kp0 kD).kpd kE DD.isL
      have k1E := fresh1 (k1C.then kD) kE hdn
      refine ⟨rfl, .inr ⟨decide (V.int z2 = V.int 0), rfl, ?_⟩⟩
      refine rep_code tE qE _ fun HF p2 kF cF => cat_code (cE.kp0 kF) cF (by split <;> (show c.length + _ ≤ 100; simp; omega)) fun HG p3 kG cG => ?_
      refine ⟨(k1E.then kF).then kG, (DE.kp0 kF).kp0 kG, kG.tup0 (kF.tup0 wE), _, p3, _, _, co.app ?_, ?_, cG, rfl⟩
      · split
        · exact COk.one io
        · exact COk.nil
      · rw [List.length_append]
        split
        · show c.length + 1 ≤ i + 1
          omega
        · show c.length + 0 ≤ i + 1
          omega
    · have tE := kD.tup0 t1C
      have qE := kD.tup0 qC
      refine ⟨rfl, true, congrArg V.bl (by rw [decide_eq_false (fun z => nomatch z)]; rfl), iteT (.inr ⟨true, rfl, ?_⟩)⟩
      refine rep_code tE qE true fun HF p2 kF cF => cat_code ((cC1.kp0 kD).kp0 kF) cF (by show c.length + 1 ≤ 100; omega) fun HG p3 kG cG => ?_
      refine ⟨((k1C.then kD).then kF).then kG, ((DC.kp0 kD).kp0 kF).kp0 kG, kG.tup0 (kF.tup0 (kD.tup0 wC)), _, p3, _, _, co.app (COk.one io), ?_, cG, rfl⟩
      rw [List.length_append]
      show c.length + 1 ≤ i + 1
      omega
  · rintro σ H8 ⟨k18, D8, w8, c, ac, u5, u6, co, cl, c8, rfl⟩
    have cl : c.length ≤ 14 := by omega
    clear D7 w7 c7 k17
    -- k
    obtain ⟨qs, hx8, px8⟩ := id c8
    have ql : (qs.map V.ref).length = c.length := by rw [List.length_map]; exact Paired.len px8
    refine ⟨_, rfl, _, rfl, ac, _, rfl, .inr (SqT.of hx8), _, _, rfl, rfl, ?_⟩
    rw [ql]
    refine ⟨d, dc, _, rfl, D8, by omega, by omega, fun zk H9 zk0 zk1 k9 D9 => ?_⟩
    obtain ⟨kk, rfl⟩ := Int.eq_ofNat_of_zero_le zk0
    have hk : kk ≤ c.length := by omega
    have w9 := tup_kpd w8 k9 D8.isL
    have c9 := c8.kpd k9 D8.isL
    have k19 := fresh1 k18 k9 hdn
    clear k9 w8 c8 D8 hx8 px8 zk0 zk1
    have e1 : (kk : Int) + 1 = ((kk + 1 : Nat) : Int) := rfl
    have e2 : (kk : Int) + 2 = ((kk + 2 : Nat) : Int) := rfl
    have hto : HT.sIx c.length c.length (some (kk : Int)) = kk := ix_to _ kk rfl hk
    have hfr : HT.sIx c.length 0 (some (kk : Int)) = kk := ix_to _ kk rfl hk
    have L9 : Lw H H9 d dc wt ws ac c [ac] := ⟨k19, D9, w9, c9, fun x hx => by rw [List.mem_singleton.mp hx]; exact ⟨c, c9, co, by omega⟩⟩
    clear k19 D9 w9 c9
    have h0 : HT.sIx c.length 0 none = 0 := rfl
    have hn : HT.sIx c.length c.length none = c.length := rfl
    have hf1 : HT.sIx c.length 0 (some ((kk + 1 : Nat) : Int)) = min (kk + 1) c.length := ix_min _ (kk + 1) rfl
    have hf2 : HT.sIx c.length 0 (some ((kk + 2 : Nat) : Int)) = min (kk + 2) c.length := ix_min _ (kk + 2) rfl
    have ht1 : HT.sIx c.length c.length (some ((kk + 1 : Nat) : Int)) = min (kk + 1) c.length := ix_min _ (kk + 1) rfl
    have ht2 : HT.sIx c.length c.length (some ((kk + 2 : Nat) : Int)) = min (kk + 2) c.length := ix_min _ (kk + 2) rfl
    have cc : ∀ u v, COk ((c.drop u).take v) := fun u v => (co.drop u).take v
    -- codes
    refine ⟨_, rfl, ?_⟩
    -- code[:k] + code[k + 1:]
    refine ⟨_, rfl, _, rfl, _, rfl, sl_code 0 kk L9.c h0 hto fun HA pA kA cA => ?_⟩
    have LA := L9.kp0 kA
    refine ⟨_, rfl, _, rfl, _, _, rfl, rfl, _, rfl, ?_⟩
    refine sl_from (min (kk + 1) c.length) c.length LA.c hf1 hn fun HB pB kB cB => ?_
    have LB := LA.kp0 kB
    refine cat_code (cA.kp0 kB) cB (by simp only [List.length_take, List.length_drop]; omega) fun HC pC kC cC => ?_
    have LC := (LB.kp0 kC).add cC ((cc _ _).app (cc _ _)) (by simp only [List.length_append, List.length_take, List.length_drop]; omega)
    clear LA LB cA cB kA kB kC cC L9
    -- code[:k] + (one,) + code[k + 1:]
    refine ⟨_, rfl, _, rfl, _, rfl, sl_code 0 kk LC.c h0 hto fun HD pD kD cD => ?_⟩
    have LD := LC.kp0 kD
    refine ⟨_, rfl, d, dc, rfl, LD.D, fun HE q i DE kE iE io => ?_⟩
    have LE := LD.kpd kE DE hdn
    have cE := cD.kpd kE LD.D.isL
    refine ⟨(by show 1 ≤ sizeLine; decide), fun t ht => ?_⟩
    have kF : Kp HE (upd HE t (.tup [.ref q])) [] := Kp.new ht
    have tF : CodeAt (upd HE t (.tup [.ref q])) t [i] := CodeAt.one upd_same (kF.tup0 iE)
    have cF := cE.kp0 kF
    have LF := LE.kp0 kF
    generalize upd HE t (.tup [.ref q]) = HF at kF tF cF LF ⊢
    refine cat_code cF tF (by simp only [List.length_take, List.length_drop]; show _ + 1 ≤ 100; omega) fun HG pG kG cG => ?_
    have LG := LF.kp0 kG
    clear LD LE LF cD cE cF tF iE kE DE kF kD ht
    refine ⟨_, rfl, _, rfl, _, _, rfl, rfl, _, rfl, ?_⟩
    refine sl_from (min (kk + 1) c.length) c.length LG.c hf1 hn fun HI pI kI cI => ?_
    have LI := LG.kp0 kI
    refine cat_code (cG.kp0 kI) cI (by simp only [List.length_append, List.length_take, List.length_drop]; show _ + 1 + _ ≤ 100; omega) fun HJ pJ kJ cJ => ?_
    have LJ := (LI.kp0 kJ).add cJ (((cc _ _).app (COk.one io)).app (cc _ _)) (by simp only [List.length_append, List.length_take, List.length_drop]; show _ + 1 + _ ≤ 17; omega)
    clear LG LI LC cG cI cJ kG kI kJ io
    -- code[:k] + code[k + 1:k + 2] + code[k:k + 1] + code[k + 2:]
    refine ⟨_, rfl, _, rfl, _, rfl, ?_⟩
    refine sl_code 0 kk LJ.c h0 hto fun HK pK kK cK => ?_
    have LK := LJ.kp0 kK
    refine ⟨_, rfl, _, rfl, _, _, rfl, rfl, _, rfl, _, rfl, _, _, rfl, rfl, _, rfl, ?_⟩
    refine sl_code (min (kk + 1) c.length) (min (kk + 2) c.length) LK.c hf1 ht2 fun HM pM kM cM => ?_
    have LM := LK.kp0 kM
    refine cat_code (cK.kp0 kM) cM (by simp only [List.length_take, List.length_drop]; omega) fun HN pN kN cN => ?_
    have LN := LM.kp0 kN
    clear LK LM cK cM kK kM kN
    refine ⟨_, rfl, _, rfl, _, rfl, _, rfl, _, _, rfl, rfl, _, rfl, ?_⟩
    refine sl_code kk (min (kk + 1) c.length) LN.c hfr ht1 fun HO pO kO cO => ?_
    have LO := LN.kp0 kO
    refine cat_code (cN.kp0 kO) cO (by simp only [List.length_append, List.length_take, List.length_drop]; omega) fun HP pP kP cP => ?_
    have LP := LO.kp0 kP
    clear LN LO cN cO kO kP
    refine ⟨_, rfl, _, rfl, _, _, rfl, rfl, _, rfl, ?_⟩
    refine sl_from (min (kk + 2) c.length) c.length LP.c hf2 hn fun HQ pQ kQ cQ => ?_
    have LQ := LP.kp0 kQ
    refine cat_code (cP.kp0 kQ) cQ (by simp only [List.length_append, List.length_take, List.length_drop]; omega) fun HR pR kR cR => ?_
    have LR := (LQ.kp0 kR).add cR ((((cc _ _).app (cc _ _)).app (cc _ _)).app (cc _ _)) (by simp only [List.length_append, List.length_take, List.length_drop]; omega)
    clear LP LQ LJ cP cQ cR kQ kR
    refine ⟨(by show 4 ≤ sizeLine; decide), fun cl0 hcl0 => ?_⟩
    have kS : Kp HR (upd HR cl0 (.lst [.ref ac, .ref pC, .ref pJ, .ref pR])) [] := Kp.new hcl0
    have lS : upd HR cl0 (.lst [.ref ac, .ref pC, .ref pJ, .ref pR]) cl0 = some (.lst [.ref ac, .ref pC, .ref pJ, .ref pR]) := upd_same
    have LS := LR.kp0 kS
    obtain ⟨cd0, _⟩ := LR.D.nc hcl0
    generalize upd HR cl0 (.lst [.ref ac, .ref pC, .ref pJ, .ref pR]) = HS at kS lS LS ⊢
    clear LR kS hcl0
    -- codes + [code + (_law_one(draws), _law_one(draws)), ()]
    refine ⟨_, rfl, _, rfl, _, rfl, d, dc, rfl, LS.D, fun HT q1 i1 DT kT iT io1 => ?_⟩
    have LT := LS.kpd kT DT hdn
    have lT := kT.lst lS (nm1 cd0)
    refine ⟨_, rfl, d, dc, rfl, LT.D, fun HU q2 i2 DU kU iU io2 => ?_⟩
    have LU := LT.kpd kU DU hdn
    have lU := kU.lst lT (nm1 cd0)
    have i1U : InsAt HU q1 i1 := tup_kpd iT kU LT.D.isL
    clear LS LT lS lT iT kT DT
    refine ⟨(by show 2 ≤ sizeLine; decide), fun t ht => ?_⟩
    have kV : Kp HU (upd HU t (.tup [.ref q1, .ref q2])) [] := Kp.new ht
    have tV : CodeAt (upd HU t (.tup [.ref q1, .ref q2])) t [i1, i2] := CodeAt.two upd_same (kV.tup0 i1U) (kV.tup0 iU)
    have LV := LU.kp0 kV
    have lV := kV.lst0 lU
    generalize upd HU t (.tup [.ref q1, .ref q2]) = HV at kV tV LV lV ⊢
    refine cat_code LV.c tV (by show c.length + 2 ≤ 100; omega) fun HW pW kW cW => ?_
    have LW := (LV.kp0 kW).add cW (co.app ((COk.one io1).app (COk.one io2))) (by rw [List.length_append]; show c.length + 2 ≤ 17; omega)
    have lW := kW.lst0 lV
    clear LU LV lU lV tV kV kW ht i1U iU DU kU cW io1 io2
    refine ⟨Nat.zero_le _, fun e0 he0 => ?_⟩
    have kX : Kp HW (upd HW e0 (.tup [])) [] := Kp.new he0
    have LX := (LW.kp0 kX).add (CodeAt.nil upd_same) COk.nil (Nat.zero_le _)
    have lX := kX.lst0 lW
    generalize upd HW e0 (.tup []) = HX at kX LX lX ⊢
    clear LW lW kX he0
    refine ⟨(by show 2 ≤ sizeLine; decide), fun cl1 hcl1 => ?_⟩
    have kY : Kp HX (upd HX cl1 (.lst [.ref pW, .ref e0])) [] := Kp.new hcl1
    have lY := kY.lst0 lX
    have l1Y : upd HX cl1 (.lst [.ref pW, .ref e0]) cl1 = some (.lst [.ref pW, .ref e0]) := upd_same
    have LY := LX.kp0 kY
    generalize upd HX cl1 (.lst [.ref pW, .ref e0]) = HY at kY lY l1Y LY ⊢
    clear LX lX kY hcl1
    refine ⟨cl0, cl1, _, _, rfl, rfl, lY, l1Y, (by show 4 + 2 ≤ sizeLine; decide), fun cs hcs => ?_⟩
    have kZ : Kp HY (upd HY cs (.lst ([.ref ac, .ref pC, .ref pJ, .ref pR] ++ [.ref pW, .ref e0]))) [] := Kp.new hcs
    have lZ : upd HY cs (.lst ([.ref ac, .ref pC, .ref pJ, .ref pR] ++ [.ref pW, .ref e0])) cs = some (.lst ([ac, pC, pJ, pR, pW, e0].map V.ref)) := upd_same
    have LZ : Lw H _ d dc wt ws ac c [ac, pC, pJ, pR, pW, e0] := LY.kp0 kZ
    generalize upd HY cs (.lst ([.ref ac, .ref pC, .ref pJ, .ref pR] ++ [.ref pW, .ref e0])) = HZ at kZ lZ LZ ⊢
    clear LY lY l1Y kZ hcs
    generalize [ac, pC, pJ, pR, pW, e0] = as at lZ LZ
    have tnZ := LZ.k.tabG tn
    have twZ := LZ.k.tabG tw
    have tcZ := LZ.k.tabG tc
    -- for one in codes
    refine ⟨_, rfl, cs, rfl, ⟨_, SqL.of lZ⟩, for_list (K := K) (a := cs) (xs := as.map V.ref) (fun _ σ H' => Kp HZ H' [] ∧ ∃ v6 v9 v10 v11 v12 v13 v14 : Option V,
      σ = [some (.ref a), some (.ref d), some (.int b), some (.ref wt), some (.ref ac), u5, v6, some (.int (kk : Int)), some (.ref cs), v9, v10, v11, v12, v13, v14, none, none, none, none, none]) ⟨Kp.refl _, _, _, _, _, _, _, _, rfl⟩ (fun i σ H' _ h => SqL.of (h.1.lst0 lZ)) ?_ ?_⟩
    · rintro i x σ G0 hx ⟨kG0, v6, v9, v10, v11, v12, v13, v14, rfl⟩
      have LG0 := LZ.kp0 kG0
      rw [List.getElem?_map] at hx
      cases hax : as[i]? with
      | none => rw [hax] at hx; cases hx
      | some a1 =>
        rw [hax] at hx
        cases hx
        obtain ⟨e, cA, coe, ele⟩ := LG0.g a1 (List.mem_of_getElem? hax)
        have wG0 := LG0.w
        have tn0 := kG0.tabG tnZ
        have tw0 := kG0.tabG twZ
        have tc0 := kG0.tabG tcZ
        clear LG0
        -- due
        refine ⟨fun σ' G1 => Kp G0 G1 [] ∧ ∃ dv, DueAt G1 dv (runM (wk ws) e m0) ∧ σ' = [some (.ref a), some (.ref d), some (.int b), some (.ref wt), some (.ref ac), u5, some (.ref a1), some (.int (kk : Int)), some (.ref cs), some dv, v10, v11, v12, v13, v14, none, none, none, none, none], ?_, ?_⟩
        · refine ⟨_, rfl, _, rfl, a1, wt, ws, e, rfl, cA, by omega, coe.nm, wG0, w3, fun en G1 k1 => ⟨k1, _, .inl ⟨en, rfl⟩, rfl⟩, fun m em G1 pp ls lv e1 e2 e3 k1 => ⟨k1, _, .inr ⟨m, pp, ls, lv, em, rfl, e1, e2, e3⟩, rfl⟩⟩
        rintro σ' G1 ⟨kG1, dv, du, rfl⟩
        -- found
        refine ⟨fun σ' G2 => Kp G1 G2 [] ∧ ∃ (D : Addr) (vs : List V), G2 D = some (.lst vs) ∧ vs.length = 4 ∧ (∀ j v, vs[j]? = some v → FoundV G2 (runM (wk ws) e m0) j v) ∧ σ' = [some (.ref a), some (.ref d), some (.int b), some (.ref wt), some (.ref ac), u5, some (.ref a1), some (.int (kk : Int)), some (.ref cs), some dv, some (.ref D), v11, v12, v13, v14, none, none, none, none, none], ?_, ?_⟩
        · refine ⟨4, rfl, by decide, by decide, fun D hD => ?_⟩
          refine lc_range (n := 4) (fun i H' => Kp G1 H' [] ∧ ∃ vs : List V, H' D = some (.lst vs) ∧ vs.length = i ∧ ∀ j v, vs[j]? = some v → FoundV H' (runM (wk ws) e m0) j v) ⟨Kp.new hD, [], upd_same, rfl, fun _ _ h => by simp at h⟩ (fun i H' hi ⟨k4, vs, hD4, hvs, hf⟩ => ?_) (fun H' ⟨k4, vs, hD4, hvs, hf⟩ => ⟨k4, D, vs, hD4, hvs, hf, rfl⟩)
          have k14 := kG1.then k4
          have fin : ∀ (G5 : Hp) (v : V), Kp H' G5 [] → FoundV G5 (runM (wk ws) e m0) i v → ∃ acc, G5 D = some (.lst acc) ∧ acc.length < sizeLine ∧ Kp G1 (upd G5 D (.lst (acc ++ [v]))) [] ∧ ∃ vs : List V, upd G5 D (.lst (acc ++ [v])) D = some (.lst vs) ∧ vs.length = i + 1 ∧ ∀ j y, vs[j]? = some y → FoundV (upd G5 D (.lst (acc ++ [v]))) (runM (wk ws) e m0) j y := fun G5 v k5 fv => by
            have hD5 := k5.lst0 hD4
            have k6 : Kp G5 (upd G5 D (.lst (vs ++ [v]))) [D] := Kp.wl hD5
            have fk : ∀ {j y}, FoundV G5 (runM (wk ws) e m0) j y → FoundV (upd G5 D (.lst (vs ++ [v]))) (runM (wk ws) e m0) j y := fun {j y} h => h.kpl k6 ⟨_, hD5⟩
            refine ⟨vs, hD5, ?_, (k4.then k5).wnew k6 hD, vs ++ [v], upd_same, by rw [List.length_append, hvs]; rfl, fun j y hy => ?_⟩
            · rw [hvs]
              exact Nat.lt_of_lt_of_le hi (by decide)
            · by_cases hj : j < vs.length
              · rw [List.getElem?_append_left hj] at hy
                exact fk ((hf j y hy).kp k5)
              · rw [List.getElem?_append_right (by omega)] at hy
                by_cases hj2 : j = vs.length
                · rw [hj2, Nat.sub_self] at hy
                  cases hy
                  rw [hj2, hvs]
                  exact fk fv
                · obtain ⟨t, ht⟩ : ∃ t, j - vs.length = t + 1 := ⟨j - vs.length - 1, by omega⟩
                  rw [ht] at hy
                  simp at hy
          refine ⟨rfl, _, rfl, _, rfl, _, rfl, i, a1, .ref wt, e, true, by rw [Int.zero_add]; rfl, cA.kp0 k14, by omega, coe.nm, k14.tabG tn0, k14.tabG tw0, WorldV.good (k14.tup0 wG0) w3, .inr ⟨rfl, by omega, wt, ws, rfl, k14.tup0 wG0, w3, fun en G5 k5 => fin G5 _ k5 (.inl ⟨en, rfl⟩), fun m em G5 v k5 an => fin G5 v k5 (.inr ⟨m, em, an⟩)⟩⟩
        rintro σ' G2 ⟨kG2, D, vs, hD2, hvs, hf, rfl⟩
        have du2 := du.kp kG2
        have k02 := kG1.then kG2
        -- is_code(one) is not True
        refine ⟨_, rfl, .ref a1, true, rfl, code_v (cA.kp0 k02) coe (by omega), k02.tabG tn0, k02.tabG tc0, fun G3 kG3 => ⟨true, true, rfl, rfl, false, congrArg V.bl (by decide), iteF ?_⟩⟩
        have du3 := du2.kp kG3
        have hD3 := kG3.lst0 hD2
        have hf3 : ∀ j v, vs[j]? = some v → FoundV G3 (runM (wk ws) e m0) j v := fun j v h => (hf j v h).kp kG3
        have k03 := k02.then kG3
        clear du2 hD2 hf kG1 kG2 kG3 k02 du
        -- if due is None
        refine ⟨fun σ' G4 => Kp G3 G4 [] ∧ ∃ v11 v12 v13 v14 : Option V, σ' = [some (.ref a), some (.ref d), some (.int b), some (.ref wt), some (.ref ac), u5, some (.ref a1), some (.int (kk : Int)), some (.ref cs), some dv, some (.ref D), v11, v12, v13, v14, none, none, none, none, none], ?_, ?_⟩
        · rcases du3 with ⟨en, rfl⟩ | ⟨m, pp, ls, lv, em, rfl, hp3, hls, hlv⟩
          · refine ⟨_, rfl, rfl, true, congrArg V.bl (decide_eq_true rfl), iteT ?_⟩
            have ev : vs = List.replicate 4 (.str "Refused") := rep4 hvs fun j x hx => (hf3 j x hx).elim (fun z => z.2) fun ⟨m, z, _⟩ => by rw [en] at z; cases z
            subst ev
            refine ⟨_, rfl, (by show 1 ≤ sizeLine; decide), fun l hl => ?_⟩
            have k4 : Kp G3 (upd G3 l (.lst [.str "Refused"])) [] := Kp.new hl
            refine ⟨l, 4, _, rfl, rfl, upd_same, by decide, by decide, (by show 1 * 4 ≤ sizeLine; decide), fun p hp => ?_⟩
            have hpr : upd (upd G3 l (.lst [.str "Refused"])) p (.lst (List.replicate (4 : Int).toNat [V.str "Refused"]).flatten) p = some (.lst ((List.replicate 4 ("Refused" : Str)).map V.str)) := by
              rw [upd_same, flat_rep, List.map_replicate]
              rfl
            have k5 := k4.then (Kp.new (o := .lst (List.replicate (4 : Int).toNat [V.str "Refused"]).flatten) hp)
            have hD5 := k5.lst0 hD3
            generalize upd (upd G3 l (.lst [.str "Refused"])) p (.lst (List.replicate (4 : Int).toNat [V.str "Refused"]).flatten) = G5 at k5 hpr hD5 ⊢
            have hD5' : G5 D = some (.lst ((List.replicate 4 ("Refused" : Str)).map V.str)) := by rw [hD5, List.map_replicate]
            have so : ∀ s ∈ List.replicate 4 ("Refused" : Str), PyData.strOk s = true := fun s hs => by
              rw [List.eq_of_mem_replicate hs]
              decide +kernel
            obtain ⟨d1, d2⟩ := strs_dp (K := K) hD5' so
            obtain ⟨d3, d4⟩ := strs_dp (K := K) hpr so
            refine ⟨_, _, d1, d3, d2, d4, false, congrArg V.bl ?_, iteF ⟨k5, _, _, _, _, rfl⟩⟩
            have := eqvS (List.replicate 4 ("Refused" : Str)) (List.replicate 4 ("Refused" : Str))
            rw [decide_eq_true rfl] at this
            show (!PyData.eqvAll _ _) = false
            rw [this]
            rfl
          · refine ⟨_, rfl, rfl, false, congrArg V.bl (decide_eq_false fun z => nomatch z), iteF ?_⟩
            obtain ⟨y0', y1', y2, y3, rfl⟩ := four hvs
            have an : ∀ (j : Nat) (y : V), [y0', y1', y2, y3][j]? = some y → AnsV G3 j m y := fun j y h => (hf3 j y h).elim (fun z => by rw [em] at z; cases z.1) fun ⟨m', z, q⟩ => by
              rw [em] at z
              cases z
              exact q
            obtain ⟨l0, rfl, hl0⟩ : ∃ l, y0' = .ref l ∧ G3 l = some (.tup (m.st.map fun e => .str e.1)) := by
              rcases an 0 y0' rfl with ⟨_, h⟩ | ⟨h, _⟩ | ⟨h, _⟩ | ⟨h, _⟩
              · exact h
              all_goals exact absurd h (by decide)
            obtain ⟨l1, rfl, hl1⟩ : ∃ l, y1' = .ref l ∧ G3 l = some (.tup (m.st.map fun e => e.2)) := by
              rcases an 1 y1' rfl with ⟨h, _⟩ | ⟨_, h⟩ | ⟨h, _⟩ | ⟨h, _⟩
              · exact absurd h (by decide)
              · exact h
              all_goals exact absurd h (by decide)
            obtain rfl : y2 = .int (m.hi : Int) := by
              rcases an 2 y2 rfl with ⟨h, _⟩ | ⟨h, _⟩ | ⟨_, h⟩ | ⟨h, _⟩
              · exact absurd h (by decide)
              · exact absurd h (by decide)
              · exact h
              · exact absurd h (by decide)
            obtain rfl : y3 = .int (m.sl.length : Int) := by
              rcases an 3 y3 rfl with ⟨h, _⟩ | ⟨h, _⟩ | ⟨h, _⟩ | ⟨_, h⟩
              · exact absurd h (by decide)
              · exact absurd h (by decide)
              · exact absurd h (by decide)
              · exact h
            have ty : Tm (21 * 2 ^ e.length) m := run_ty w3 coe.nm (by omega) (Nat.le_refl _) (by rw [List.take_length]; exact em)
            have srt : ∀ x ∈ (m.st.map fun e => V.str e.1), PrimV x := fun x hx => by
              obtain ⟨y, hy, rfl⟩ := List.mem_map.mp hx
              exact primS (SrtOk.str ((ty.s y hy).elim (fun z => .inl z.1) fun z => .inr z.1))
            refine ⟨_, rfl, pp, _, rfl, SqT.of hp3, rfl, _, _, rfl, _, _, rfl, _, _, rfl, _, _, rfl, rfl, ?_⟩
            -- found[0] != sorts ..
            obtain ⟨d1, d2⟩ := tup_dp (K := K) hl0 srt
            obtain ⟨d3, d4⟩ := tup_dp (K := K) hls srt
            have ev : V.bl (!PyData.eqv (.tuple ((m.st.map fun e => V.str e.1).map pdOf)) (.tuple ((m.st.map fun e => V.str e.1).map pdOf))) = V.bl false := by
              rw [eqv_tups]
              rfl
            refine ⟨_, rfl, D, _, _, _, rfl, rfl, SqL.of hD3, at_of (j := 0) rfl rfl, _, rfl, _, _, d1, d3, d2, d4, false, ev, iteF ?_⟩
            refine ⟨_, rfl, D, _, _, _, rfl, rfl, SqL.of hD3, at_of (j := 2) rfl rfl, _, rfl, rfl, false, ne_self _, iteF ?_⟩
            refine ⟨_, rfl, D, _, _, _, rfl, rfl, SqL.of hD3, at_of (j := 3) rfl rfl, _, rfl, rfl, false, ne_self _, iteF ?_⟩
            refine ⟨_, rfl, D, _, _, _, rfl, rfl, SqL.of hD3, at_of (j := 2) rfl rfl, _, rfl, true, rfl, iteF ?_⟩
            refine ⟨_, rfl, D, _, _, _, rfl, rfl, SqL.of hD3, at_of (j := 1) rfl rfl, _, .ty "tuple", _, _, true, rfl, .ty _, .base (.tup hl1), kit_ty (by decide +kernel), true, rfl, iteF ?_⟩
            refine ⟨_, rfl, D, _, _, _, rfl, rfl, SqL.of hD3, at_of (j := 1) rfl rfl, l1, _, rfl, .inr (SqT.of hl1), _, rfl, lv, _, rfl, .inr (SqT.of hlv), rfl, false, ne_self _, iteF ?_⟩
            -- [j for j in ..] != []
            have ml : m.st.length ≤ 400 := by
              have bd := runM_bd (c := e) (i := e.length) (Nat.le_refl _) (by rw [List.take_length]; exact em)
              have := bd.s
              have := bd.h
              omega
            refine ⟨_, rfl, lv, _, rfl, .inr (SqT.of hlv), ?_⟩
            rw [List.length_map]
            refine ⟨_, rfl, by omega, by omega, fun D2 hD2 => ?_⟩
            have k4 : Kp G3 (upd G3 D2 (.lst [])) [] := Kp.new hD2
            have h4 : upd G3 D2 (.lst []) D2 = some (.lst []) := upd_same
            refine lc_range (n := ((m.st.length : Nat) : Int).toNat) (fun i H' => Kp G3 H' [] ∧ H' D2 = some (.lst [])) ⟨k4, h4⟩ (fun i H' hi ⟨k5, h5⟩ => ?_) (fun H' ⟨k5, h5⟩ => ?_)
            · have hi : i < m.st.length := by omega
              obtain ⟨en, hen⟩ : ∃ en, m.st[i]? = some en := ⟨_, List.getElem?_eq_getElem hi⟩
              have hv : (m.st.map fun e => e.2)[i]? = some en.2 := by rw [List.getElem?_map, hen]; rfl
              obtain ⟨tn', bb, t1, t2, t3⟩ := ty_bool (K := K) (H := H') (ty.s en (List.mem_of_getElem? hen))
              have D5 := k5.lst0 hD3
              have e5 := k5.tup0 hl1
              have g5 := k5.tup0 hlv
              have zi : (0 : Int) + (i : Int) = (i : Int) := Int.zero_add _
              refine ⟨rfl, _, rfl, D, _, _, _, rfl, rfl, SqL.of D5, at_of (j := 1) rfl rfl, _, rfl, l1, _, _, _, rfl, rfl, SqT.of e5, at_of zi hv, _, .ty "bool", _, _, bb, rfl, .ty _, t1, t2, ?_⟩
              refine ⟨_, rfl, _, rfl, lv, _, _, _, rfl, rfl, SqT.of g5, at_of zi hv, _, .ty "bool", _, _, bb, rfl, .ty _, t1, t2, rfl, false, ne_self _, iteF ?_⟩
              refine ⟨_, rfl, D, _, _, _, rfl, rfl, SqL.of D5, at_of (j := 1) rfl rfl, _, rfl, l1, _, _, _, rfl, rfl, SqT.of e5, at_of zi hv, ?_⟩
              exact ⟨_, rfl, _, rfl, lv, _, _, _, rfl, rfl, SqT.of g5, at_of zi hv, t3, false, ne_self _, iteF ⟨k5, h5⟩⟩
            · refine ⟨Nat.zero_le _, fun e1 he1 => ?_⟩
              have k6 : Kp H' (upd H' e1 (.lst [])) [] := Kp.new he1
              refine ⟨.list [], .list [], .lst (SqL.of (k6.lst0 h5)) .nil, .lst (SqL.of upd_same) .nil, rfl, rfl, false, rfl, iteF ?_⟩
              exact ⟨k5.then k6, _, _, _, _, rfl⟩
        rintro σ' G4 ⟨kG4, w11, w12, w13, w14, rfl⟩
        have k04 := k03.then kG4
        -- places
        refine ⟨(by show 2 ≤ sizeLine; decide), fun t1 ht1 => ?_⟩
        have kA : Kp G4 (upd G4 t1 (.tup [.int 1, .int 2])) [] := Kp.new ht1
        have wA : WorldV (upd G4 t1 (.tup [.int 1, .int 2])) (.ref t1) false := world_tup upd_same (all2 (numI _) (numI _)) rfl
        generalize upd G4 t1 (.tup [.int 1, .int 2]) = GA at kA wA ⊢
        refine ⟨(by show 3 ≤ sizeLine; decide), fun l1 hl1 => ?_⟩
        have kB : Kp GA (upd GA l1 (.lst [.int 1, .int 2, .int 3])) [] := Kp.new hl1
        have wB : WorldV (upd GA l1 (.lst [.int 1, .int 2, .int 3])) (.ref l1) false := .inr (.inl ⟨l1, _, rfl, upd_same, rfl⟩)
        have wA := wA.kp kB
        generalize upd GA l1 (.lst [.int 1, .int 2, .int 3]) = GB at kB wA wB ⊢
        refine ⟨(by show 3 ≤ sizeLine; decide), fun t2 ht2 => ?_⟩
        have kC : Kp GB (upd GB t2 (.tup [.int 1, .int 2, .non])) [] := Kp.new ht2
        have wC : WorldV (upd GB t2 (.tup [.int 1, .int 2, .non])) (.ref t2) false := world_tup upd_same (all3 (numI _) (numI _) numN) rfl
        have wA := wA.kp kC
        have wB := wB.kp kC
        generalize upd GB t2 (.tup [.int 1, .int 2, .non]) = GC at kC wA wB wC ⊢
        refine ⟨(by show 3 ≤ sizeLine; decide), fun t3 ht3 => ?_⟩
        have kD : Kp GC (upd GC t3 (.tup [.bl true, .int 2, .int 3])) [] := Kp.new ht3
        have wD : WorldV (upd GC t3 (.tup [.bl true, .int 2, .int 3])) (.ref t3) false := world_tup upd_same (all3 (numB _) (numI _) (numI _)) rfl
        have wA := wA.kp kD
        have wB := wB.kp kD
        have wC := wC.kp kD
        generalize upd GC t3 (.tup [.bl true, .int 2, .int 3]) = GD at kD wA wB wC wD ⊢
        refine ⟨(by show 5 ≤ sizeLine; decide), fun pl hpl => ?_⟩
        have kE : Kp GD (upd GD pl (.lst [.non, .ref t1, .ref l1, .ref t2, .ref t3])) [] := Kp.new hpl
        have pE : upd GD pl (.lst [.non, .ref t1, .ref l1, .ref t2, .ref t3]) pl = some (.lst [.non, .ref t1, .ref l1, .ref t2, .ref t3]) := upd_same
        have wA := wA.kp kE
        have wB := wB.kp kE
        have wC := wC.kp kE
        have wD := wD.kp kE
        generalize upd GD pl (.lst [.non, .ref t1, .ref l1, .ref t2, .ref t3]) = GE at kE pE wA wB wC wD ⊢
        have k0E := k04.then ((((kA.then kB).then kC).then kD).then kE)
        have allw : ∀ x ∈ ([.non, .ref t1, .ref l1, .ref t2, .ref t3] : List V), WorldV GE x false := fun x hx => by
          simp only [List.mem_cons, List.not_mem_nil, or_false] at hx
          rcases hx with rfl | rfl | rfl | rfl | rfl
          · exact .inl ⟨rfl, rfl⟩
          · exact wA
          · exact wB
          · exact wC
          · exact wD
        clear wA wB wC wD kA kB kC kD kE k04
        refine ⟨pl, rfl, ⟨_, SqL.of pE⟩, fun D3 hD3' => ?_⟩
        refine lc_list (K := K) (a := pl) (xs := [.non, .ref t1, .ref l1, .ref t2, .ref t3]) (fun i H' => Kp GE H' [] ∧ H' D3 = some (.lst [])) ⟨Kp.new hD3', upd_same⟩ (fun i H' _ h => SqL.of (h.1.lst0 pE)) (fun i x H' hx ⟨k5, h5⟩ => ?_) (fun H' ⟨k5, h5⟩ => ?_)
        · have k05 := k0E.then k5
          refine ⟨rfl, _, rfl, _, rfl, 1, a1, x, e, false, rfl, cA.kp0 k05, by omega, coe.nm, k05.tabG tn0, k05.tabG tw0, (allw x (List.mem_of_getElem? hx)).kp k5, .inl ⟨rfl, rfl, fun G5 k6 => ⟨rfl, false, ne_self _, iteF ⟨k5.then k6, k6.lst0 h5⟩⟩⟩⟩
        · refine ⟨Nat.zero_le _, fun e1 he1 => ?_⟩
          have k6 : Kp H' (upd H' e1 (.lst [])) [] := Kp.new he1
          refine ⟨.list [], .list [], .lst (SqL.of (k6.lst0 h5)) .nil, .lst (SqL.of upd_same) .nil, rfl, rfl, false, rfl, iteF ?_⟩
          exact ⟨((kG0.then k0E).then k5).then k6, _, _, _, _, _, _, _, rfl⟩
    · rintro σ H9 ⟨kG0, v6, v9, v10, v11, v12, v13, v14, rfl⟩
      have cfin := (LZ.kp0 kG0).c
      have tn9 := kG0.tabG tnZ
      have tc9 := kG0.tabG tcZ
      clear LZ lZ
      have A : NoCode H9 [] := NoCode.nil
      have kW : Kp H9 H9 [] := Kp.refl _
      have A := A.snoc (v := .non) (.inl ⟨rfl, .inl rfl⟩)
      obtain ⟨qsl, hcl, _⟩ := cfin
      refine ⟨_, rfl, ac, _, rfl, .inr (SqT.of hcl), fun b1 hb1 => ?_⟩
      have kW0 : Kp H9 (upd H9 b1 (.lst (qsl.map V.ref))) [] := Kp.new hb1
      have fb1 : upd H9 b1 (.lst (qsl.map V.ref)) b1 = some (.lst (qsl.map V.ref)) := upd_same
      have A := A.kp kW0
      have kW := kW.then kW0
      generalize upd H9 b1 (.lst (qsl.map V.ref)) = W0 at kW0 fb1 A kW ⊢
      clear kW0 hb1
      have A := A.snoc (v := .ref b1) (.inl ⟨rfl, .inr (.inr ⟨b1, _, rfl, fb1⟩)⟩)
      refine ⟨(by show 1 ≤ sizeLine; decide), fun b2 hb2 => ?_⟩
      have kW1 : Kp W0 (upd W0 b2 (.tup [.non])) [] := Kp.new hb2
      have fb2 : upd W0 b2 (.tup [.non]) b2 = some (.tup [.non]) := upd_same
      have A := A.kp kW1
      have kW := kW.then kW1
      generalize upd W0 b2 (.tup [.non]) = W1 at kW1 fb2 A kW ⊢
      clear kW1 hb2
      have A := A.snoc (v := .ref b2) (no_one fb2 (.inl ⟨rfl, .inl rfl⟩))
      refine ⟨Nat.zero_le _, fun c3 hc3 => ?_⟩
      have kW2 : Kp W1 (upd W1 c3 (.tup [])) [] := Kp.new hc3
      have fc3 : upd W1 c3 (.tup []) c3 = some (.tup []) := upd_same
      have A := A.kp kW2
      have kW := kW.then kW2
      generalize upd W1 c3 (.tup []) = W2 at kW2 fc3 A kW ⊢
      clear kW2 hc3
      refine ⟨(by show 1 ≤ sizeLine; decide), fun b3 hb3 => ?_⟩
      have kW3 : Kp W2 (upd W2 b3 (.tup [.ref c3])) [] := Kp.new hb3
      have fb3 : upd W2 b3 (.tup [.ref c3]) b3 = some (.tup [.ref c3]) := upd_same
      have A := A.kp kW3
      have kW := kW.then kW3
      have fc3 := kW3.tup0 fc3
      generalize upd W2 b3 (.tup [.ref c3]) = W3 at kW3 fb3 A kW fc3 ⊢
      clear kW3 hb3
      have A := A.snoc (v := .ref b3) (no_one fb3 (no_tup fc3 (fun _ h => nomatch h) (fun n e => by simp at e) (by decide +kernel)))
      refine ⟨(by show 1 ≤ sizeLine; decide), fun b4 hb4 => ?_⟩
      have kW4 : Kp W3 (upd W3 b4 (.tup [.str "swap"])) [] := Kp.new hb4
      have fb4 : upd W3 b4 (.tup [.str "swap"]) b4 = some (.tup [.str "swap"]) := upd_same
      have A := A.kp kW4
      have kW := kW.then kW4
      generalize upd W3 b4 (.tup [.str "swap"]) = W4 at kW4 fb4 A kW ⊢
      clear kW4 hb4
      have A := A.snoc (v := .ref b4) (no_one fb4 (.inl ⟨rfl, .inr (.inr (.inl ⟨_, rfl⟩))⟩))
      refine ⟨(by show 1 ≤ sizeLine; decide), fun c5 hc5 => ?_⟩
      have kW5 : Kp W4 (upd W4 c5 (.lst [.str "swap"])) [] := Kp.new hc5
      have fc5 : upd W4 c5 (.lst [.str "swap"]) c5 = some (.lst [.str "swap"]) := upd_same
      have A := A.kp kW5
      have kW := kW.then kW5
      generalize upd W4 c5 (.lst [.str "swap"]) = W5 at kW5 fc5 A kW ⊢
      clear kW5 hc5
      refine ⟨(by show 1 ≤ sizeLine; decide), fun b5 hb5 => ?_⟩
      have kW6 : Kp W5 (upd W5 b5 (.tup [.ref c5])) [] := Kp.new hb5
      have fb5 : upd W5 b5 (.tup [.ref c5]) b5 = some (.tup [.ref c5]) := upd_same
      have A := A.kp kW6
      have kW := kW.then kW6
      have fc5 := kW6.lst0 fc5
      generalize upd W5 b5 (.tup [.ref c5]) = W6 at kW6 fb5 A kW fc5 ⊢
      clear kW6 hb5
      have A := A.snoc (v := .ref b5) (no_one fb5 (.inl ⟨rfl, .inr (.inr (.inr ⟨c5, _, rfl, fc5⟩))⟩))
      refine ⟨(by show 2 ≤ sizeLine; decide), fun c6 hc6 => ?_⟩
      have kW7 : Kp W6 (upd W6 c6 (.tup [.str "swap", .int 0])) [] := Kp.new hc6
      have fc6 : upd W6 c6 (.tup [.str "swap", .int 0]) c6 = some (.tup [.str "swap", .int 0]) := upd_same
      have A := A.kp kW7
      have kW := kW.then kW7
      generalize upd W6 c6 (.tup [.str "swap", .int 0]) = W7 at kW7 fc6 A kW ⊢
      clear kW7 hc6
      refine ⟨(by show 1 ≤ sizeLine; decide), fun b6 hb6 => ?_⟩
      have kW8 : Kp W7 (upd W7 b6 (.tup [.ref c6])) [] := Kp.new hb6
      have fb6 : upd W7 b6 (.tup [.ref c6]) b6 = some (.tup [.ref c6]) := upd_same
      have A := A.kp kW8
      have kW := kW.then kW8
      have fc6 := kW8.tup0 fc6
      generalize upd W7 b6 (.tup [.ref c6]) = W8 at kW8 fb6 A kW fc6 ⊢
      clear kW8 hb6
      have A := A.snoc (v := .ref b6) (no_one fb6 (no_tup fc6 (prim2 (primS (by decide +kernel)) (.inl ⟨_, rfl⟩)) (fun n e => by simp at e) (by decide +kernel)))
      refine ⟨(by show 2 ≤ sizeLine; decide), fun c7 hc7 => ?_⟩
      have kW9 : Kp W8 (upd W8 c7 (.tup [.str "drop", .int 1])) [] := Kp.new hc7
      have fc7 : upd W8 c7 (.tup [.str "drop", .int 1]) c7 = some (.tup [.str "drop", .int 1]) := upd_same
      have A := A.kp kW9
      have kW := kW.then kW9
      generalize upd W8 c7 (.tup [.str "drop", .int 1]) = W9 at kW9 fc7 A kW ⊢
      clear kW9 hc7
      refine ⟨(by show 1 ≤ sizeLine; decide), fun b7 hb7 => ?_⟩
      have kW10 : Kp W9 (upd W9 b7 (.tup [.ref c7])) [] := Kp.new hb7
      have fb7 : upd W9 b7 (.tup [.ref c7]) b7 = some (.tup [.ref c7]) := upd_same
      have A := A.kp kW10
      have kW := kW.then kW10
      have fc7 := kW10.tup0 fc7
      generalize upd W9 b7 (.tup [.ref c7]) = W10 at kW10 fb7 A kW fc7 ⊢
      clear kW10 hb7
      have A := A.snoc (v := .ref b7) (no_one fb7 (no_tup fc7 (prim2 (primS (by decide +kernel)) (.inl ⟨_, rfl⟩)) (fun n e => by simp at e) (by decide +kernel)))
      refine ⟨(by show 1 ≤ sizeLine; decide), fun c8 hc8 => ?_⟩
      have kW11 : Kp W10 (upd W10 c8 (.tup [.str "keep"])) [] := Kp.new hc8
      have fc8 : upd W10 c8 (.tup [.str "keep"]) c8 = some (.tup [.str "keep"]) := upd_same
      have A := A.kp kW11
      have kW := kW.then kW11
      generalize upd W10 c8 (.tup [.str "keep"]) = W11 at kW11 fc8 A kW ⊢
      clear kW11 hc8
      refine ⟨(by show 1 ≤ sizeLine; decide), fun b8 hb8 => ?_⟩
      have kW12 : Kp W11 (upd W11 b8 (.tup [.ref c8])) [] := Kp.new hb8
      have fb8 : upd W11 b8 (.tup [.ref c8]) b8 = some (.tup [.ref c8]) := upd_same
      have A := A.kp kW12
      have kW := kW.then kW12
      have fc8 := kW12.tup0 fc8
      generalize upd W11 b8 (.tup [.ref c8]) = W12 at kW12 fb8 A kW fc8 ⊢
      clear kW12 hb8
      have A := A.snoc (v := .ref b8) (no_one fb8 (no_tup fc8 (prim1 (primS (by decide +kernel))) (fun n e => by simp at e) (by decide +kernel)))
      refine ⟨(by show 2 ≤ sizeLine; decide), fun c9 hc9 => ?_⟩
      have kW13 : Kp W12 (upd W12 c9 (.tup [.str "keep", .int 20])) [] := Kp.new hc9
      have fc9 : upd W12 c9 (.tup [.str "keep", .int 20]) c9 = some (.tup [.str "keep", .int 20]) := upd_same
      have A := A.kp kW13
      have kW := kW.then kW13
      generalize upd W12 c9 (.tup [.str "keep", .int 20]) = W13 at kW13 fc9 A kW ⊢
      clear kW13 hc9
      refine ⟨(by show 1 ≤ sizeLine; decide), fun b9 hb9 => ?_⟩
      have kW14 : Kp W13 (upd W13 b9 (.tup [.ref c9])) [] := Kp.new hb9
      have fb9 : upd W13 b9 (.tup [.ref c9]) b9 = some (.tup [.ref c9]) := upd_same
      have A := A.kp kW14
      have kW := kW.then kW14
      have fc9 := kW14.tup0 fc9
      generalize upd W13 b9 (.tup [.ref c9]) = W14 at kW14 fb9 A kW fc9 ⊢
      clear kW14 hb9
      have A := A.snoc (v := .ref b9) (no_one fb9 (no_tup fc9 (prim2 (primS (by decide +kernel)) (.inl ⟨_, rfl⟩)) (fun n e => by simp at e) (by decide +kernel)))
      refine ⟨_, rfl, (by show 2 ≤ sizeLine; decide), fun c10 hc10 => ?_⟩
      have kW15 : Kp W14 (upd W14 c10 (.tup [.str "keep", .int (-1)])) [] := Kp.new hc10
      have fc10 : upd W14 c10 (.tup [.str "keep", .int (-1)]) c10 = some (.tup [.str "keep", .int (-1)]) := upd_same
      have A := A.kp kW15
      have kW := kW.then kW15
      generalize upd W14 c10 (.tup [.str "keep", .int (-1)]) = W15 at kW15 fc10 A kW ⊢
      clear kW15 hc10
      refine ⟨(by show 1 ≤ sizeLine; decide), fun b10 hb10 => ?_⟩
      have kW16 : Kp W15 (upd W15 b10 (.tup [.ref c10])) [] := Kp.new hb10
      have fb10 : upd W15 b10 (.tup [.ref c10]) b10 = some (.tup [.ref c10]) := upd_same
      have A := A.kp kW16
      have kW := kW.then kW16
      have fc10 := kW16.tup0 fc10
      generalize upd W15 b10 (.tup [.ref c10]) = W16 at kW16 fb10 A kW fc10 ⊢
      clear kW16 hb10
      have A := A.snoc (v := .ref b10) (no_one fb10 (no_tup fc10 (prim2 (primS (by decide +kernel)) (.inl ⟨_, rfl⟩)) (fun n e => by simp at e) (by decide +kernel)))
      refine ⟨(by show 2 ≤ sizeLine; decide), fun c11 hc11 => ?_⟩
      have kW17 : Kp W16 (upd W16 c11 (.tup [.str "fetch", .non])) [] := Kp.new hc11
      have fc11 : upd W16 c11 (.tup [.str "fetch", .non]) c11 = some (.tup [.str "fetch", .non]) := upd_same
      have A := A.kp kW17
      have kW := kW.then kW17
      generalize upd W16 c11 (.tup [.str "fetch", .non]) = W17 at kW17 fc11 A kW ⊢
      clear kW17 hc11
      refine ⟨(by show 1 ≤ sizeLine; decide), fun b11 hb11 => ?_⟩
      have kW18 : Kp W17 (upd W17 b11 (.tup [.ref c11])) [] := Kp.new hb11
      have fb11 : upd W17 b11 (.tup [.ref c11]) b11 = some (.tup [.ref c11]) := upd_same
      have A := A.kp kW18
      have kW := kW.then kW18
      have fc11 := kW18.tup0 fc11
      generalize upd W17 b11 (.tup [.ref c11]) = W18 at kW18 fb11 A kW fc11 ⊢
      clear kW18 hb11
      have A := A.snoc (v := .ref b11) (no_one fb11 (no_tup fc11 (prim2 (primS (by decide +kernel)) (.inr (.inr (.inl rfl)))) (fun n e => by simp at e) (by decide +kernel)))
      refine ⟨(by show 2 ≤ sizeLine; decide), fun c12 hc12 => ?_⟩
      have kW19 : Kp W18 (upd W18 c12 (.tup [.str "fetch", .bl true])) [] := Kp.new hc12
      have fc12 : upd W18 c12 (.tup [.str "fetch", .bl true]) c12 = some (.tup [.str "fetch", .bl true]) := upd_same
      have A := A.kp kW19
      have kW := kW.then kW19
      generalize upd W18 c12 (.tup [.str "fetch", .bl true]) = W19 at kW19 fc12 A kW ⊢
      clear kW19 hc12
      refine ⟨(by show 1 ≤ sizeLine; decide), fun b12 hb12 => ?_⟩
      have kW20 : Kp W19 (upd W19 b12 (.tup [.ref c12])) [] := Kp.new hb12
      have fb12 : upd W19 b12 (.tup [.ref c12]) b12 = some (.tup [.ref c12]) := upd_same
      have A := A.kp kW20
      have kW := kW.then kW20
      have fc12 := kW20.tup0 fc12
      generalize upd W19 b12 (.tup [.ref c12]) = W20 at kW20 fb12 A kW fc12 ⊢
      clear kW20 hb12
      have A := A.snoc (v := .ref b12) (no_one fb12 (no_tup fc12 (prim2 (primS (by decide +kernel)) (.inr (.inl ⟨_, rfl⟩))) (fun n e => by simp at e) (by decide +kernel)))
      refine ⟨(by show 1 ≤ sizeLine; decide), fun c13 hc13 => ?_⟩
      have kW21 : Kp W20 (upd W20 c13 (.tup [.str "do"])) [] := Kp.new hc13
      have fc13 : upd W20 c13 (.tup [.str "do"]) c13 = some (.tup [.str "do"]) := upd_same
      have A := A.kp kW21
      have kW := kW.then kW21
      generalize upd W20 c13 (.tup [.str "do"]) = W21 at kW21 fc13 A kW ⊢
      clear kW21 hc13
      refine ⟨(by show 1 ≤ sizeLine; decide), fun b13 hb13 => ?_⟩
      have kW22 : Kp W21 (upd W21 b13 (.tup [.ref c13])) [] := Kp.new hb13
      have fb13 : upd W21 b13 (.tup [.ref c13]) b13 = some (.tup [.ref c13]) := upd_same
      have A := A.kp kW22
      have kW := kW.then kW22
      have fc13 := kW22.tup0 fc13
      generalize upd W21 b13 (.tup [.ref c13]) = W22 at kW22 fb13 A kW fc13 ⊢
      clear kW22 hb13
      have A := A.snoc (v := .ref b13) (no_one fb13 (no_tup fc13 (prim1 (primS (by decide +kernel))) (fun n e => by simp at e) (by decide +kernel)))
      refine ⟨(by show 2 ≤ sizeLine; decide), fun c14 hc14 => ?_⟩
      have kW23 : Kp W22 (upd W22 c14 (.tup [.str "do", .str "plus"])) [] := Kp.new hc14
      have fc14 : upd W22 c14 (.tup [.str "do", .str "plus"]) c14 = some (.tup [.str "do", .str "plus"]) := upd_same
      have A := A.kp kW23
      have kW := kW.then kW23
      generalize upd W22 c14 (.tup [.str "do", .str "plus"]) = W23 at kW23 fc14 A kW ⊢
      clear kW23 hc14
      refine ⟨(by show 1 ≤ sizeLine; decide), fun b14 hb14 => ?_⟩
      have kW24 : Kp W23 (upd W23 b14 (.tup [.ref c14])) [] := Kp.new hb14
      have fb14 : upd W23 b14 (.tup [.ref c14]) b14 = some (.tup [.ref c14]) := upd_same
      have A := A.kp kW24
      have kW := kW.then kW24
      have fc14 := kW24.tup0 fc14
      generalize upd W23 b14 (.tup [.ref c14]) = W24 at kW24 fb14 A kW fc14 ⊢
      clear kW24 hb14
      have A := A.snoc (v := .ref b14) (no_one fb14 (no_tup fc14 (prim2 (primS (by decide +kernel)) (primS (by decide +kernel))) (fun n e => by cases e; exact nms_ok _ (by decide +kernel)) (by decide +kernel)))
      refine ⟨(by show 2 ≤ sizeLine; decide), fun c15 hc15 => ?_⟩
      have kW25 : Kp W24 (upd W24 c15 (.tup [.str "do", .str "1000"])) [] := Kp.new hc15
      have fc15 : upd W24 c15 (.tup [.str "do", .str "1000"]) c15 = some (.tup [.str "do", .str "1000"]) := upd_same
      have A := A.kp kW25
      have kW := kW.then kW25
      generalize upd W24 c15 (.tup [.str "do", .str "1000"]) = W25 at kW25 fc15 A kW ⊢
      clear kW25 hc15
      refine ⟨(by show 1 ≤ sizeLine; decide), fun b15 hb15 => ?_⟩
      have kW26 : Kp W25 (upd W25 b15 (.tup [.ref c15])) [] := Kp.new hb15
      have fb15 : upd W25 b15 (.tup [.ref c15]) b15 = some (.tup [.ref c15]) := upd_same
      have A := A.kp kW26
      have kW := kW.then kW26
      have fc15 := kW26.tup0 fc15
      generalize upd W25 b15 (.tup [.ref c15]) = W26 at kW26 fb15 A kW fc15 ⊢
      clear kW26 hb15
      have A := A.snoc (v := .ref b15) (no_one fb15 (no_tup fc15 (prim2 (primS (by decide +kernel)) (primS (by decide +kernel))) (fun n e => by cases e; exact nms_ok _ (by decide +kernel)) (by decide +kernel)))
      refine ⟨(by show 2 ≤ sizeLine; decide), fun c16 hc16 => ?_⟩
      have kW27 : Kp W26 (upd W26 c16 (.tup [.str "do", .str "?a"])) [] := Kp.new hc16
      have fc16 : upd W26 c16 (.tup [.str "do", .str "?a"]) c16 = some (.tup [.str "do", .str "?a"]) := upd_same
      have A := A.kp kW27
      have kW := kW.then kW27
      generalize upd W26 c16 (.tup [.str "do", .str "?a"]) = W27 at kW27 fc16 A kW ⊢
      clear kW27 hc16
      refine ⟨(by show 1 ≤ sizeLine; decide), fun b16 hb16 => ?_⟩
      have kW28 : Kp W27 (upd W27 b16 (.tup [.ref c16])) [] := Kp.new hb16
      have fb16 : upd W27 b16 (.tup [.ref c16]) b16 = some (.tup [.ref c16]) := upd_same
      have A := A.kp kW28
      have kW := kW.then kW28
      have fc16 := kW28.tup0 fc16
      generalize upd W27 b16 (.tup [.ref c16]) = W28 at kW28 fb16 A kW fc16 ⊢
      clear kW28 hb16
      have A := A.snoc (v := .ref b16) (no_one fb16 (no_tup fc16 (prim2 (primS (by decide +kernel)) (primS (by decide +kernel))) (fun n e => by cases e; exact nms_ok _ (by decide +kernel)) (by decide +kernel)))
      refine ⟨(by show 2 ≤ sizeLine; decide), fun c17 hc17 => ?_⟩
      have kW29 : Kp W28 (upd W28 c17 (.tup [.str "do", .non])) [] := Kp.new hc17
      have fc17 : upd W28 c17 (.tup [.str "do", .non]) c17 = some (.tup [.str "do", .non]) := upd_same
      have A := A.kp kW29
      have kW := kW.then kW29
      generalize upd W28 c17 (.tup [.str "do", .non]) = W29 at kW29 fc17 A kW ⊢
      clear kW29 hc17
      refine ⟨(by show 1 ≤ sizeLine; decide), fun b17 hb17 => ?_⟩
      have kW30 : Kp W29 (upd W29 b17 (.tup [.ref c17])) [] := Kp.new hb17
      have fb17 : upd W29 b17 (.tup [.ref c17]) b17 = some (.tup [.ref c17]) := upd_same
      have A := A.kp kW30
      have kW := kW.then kW30
      have fc17 := kW30.tup0 fc17
      generalize upd W29 b17 (.tup [.ref c17]) = W30 at kW30 fb17 A kW fc17 ⊢
      clear kW30 hb17
      have A := A.snoc (v := .ref b17) (no_one fb17 (no_tup fc17 (prim2 (primS (by decide +kernel)) (.inr (.inr (.inl rfl)))) (fun n e => by simp at e) (by decide +kernel)))
      refine ⟨(by show 3 ≤ sizeLine; decide), fun c18 hc18 => ?_⟩
      have kW31 : Kp W30 (upd W30 c18 (.tup [.str "do", .str "x", .int 1])) [] := Kp.new hc18
      have fc18 : upd W30 c18 (.tup [.str "do", .str "x", .int 1]) c18 = some (.tup [.str "do", .str "x", .int 1]) := upd_same
      have A := A.kp kW31
      have kW := kW.then kW31
      generalize upd W30 c18 (.tup [.str "do", .str "x", .int 1]) = W31 at kW31 fc18 A kW ⊢
      clear kW31 hc18
      refine ⟨(by show 1 ≤ sizeLine; decide), fun b18 hb18 => ?_⟩
      have kW32 : Kp W31 (upd W31 b18 (.tup [.ref c18])) [] := Kp.new hb18
      have fb18 : upd W31 b18 (.tup [.ref c18]) b18 = some (.tup [.ref c18]) := upd_same
      have A := A.kp kW32
      have kW := kW.then kW32
      have fc18 := kW32.tup0 fc18
      generalize upd W31 b18 (.tup [.ref c18]) = W32 at kW32 fb18 A kW fc18 ⊢
      clear kW32 hb18
      have A := A.snoc (v := .ref b18) (no_one fb18 (no_tup fc18 (prim3 (primS (by decide +kernel)) (primS (by decide +kernel)) (.inl ⟨_, rfl⟩)) (fun n e => by simp at e) (by decide +kernel)))
      refine ⟨(by show 2 ≤ sizeLine; decide), fun c19 hc19 => ?_⟩
      have kW33 : Kp W32 (upd W32 c19 (.tup [.str "make", .int 1])) [] := Kp.new hc19
      have fc19 : upd W32 c19 (.tup [.str "make", .int 1]) c19 = some (.tup [.str "make", .int 1]) := upd_same
      have A := A.kp kW33
      have kW := kW.then kW33
      generalize upd W32 c19 (.tup [.str "make", .int 1]) = W33 at kW33 fc19 A kW ⊢
      clear kW33 hc19
      refine ⟨(by show 1 ≤ sizeLine; decide), fun b19 hb19 => ?_⟩
      have kW34 : Kp W33 (upd W33 b19 (.tup [.ref c19])) [] := Kp.new hb19
      have fb19 : upd W33 b19 (.tup [.ref c19]) b19 = some (.tup [.ref c19]) := upd_same
      have A := A.kp kW34
      have kW := kW.then kW34
      have fc19 := kW34.tup0 fc19
      generalize upd W33 b19 (.tup [.ref c19]) = W34 at kW34 fb19 A kW fc19 ⊢
      clear kW34 hb19
      have A := A.snoc (v := .ref b19) (no_one fb19 (no_tup fc19 (prim2 (primS (by decide +kernel)) (.inl ⟨_, rfl⟩)) (fun n e => by simp at e) (by decide +kernel)))
      refine ⟨(by show 1 ≤ sizeLine; decide), fun c20 hc20 => ?_⟩
      have kW35 : Kp W34 (upd W34 c20 (.tup [.int 5])) [] := Kp.new hc20
      have fc20 : upd W34 c20 (.tup [.int 5]) c20 = some (.tup [.int 5]) := upd_same
      have A := A.kp kW35
      have kW := kW.then kW35
      generalize upd W34 c20 (.tup [.int 5]) = W35 at kW35 fc20 A kW ⊢
      clear kW35 hc20
      refine ⟨(by show 1 ≤ sizeLine; decide), fun b20 hb20 => ?_⟩
      have kW36 : Kp W35 (upd W35 b20 (.tup [.ref c20])) [] := Kp.new hb20
      have fb20 : upd W35 b20 (.tup [.ref c20]) b20 = some (.tup [.ref c20]) := upd_same
      have A := A.kp kW36
      have kW := kW.then kW36
      have fc20 := kW36.tup0 fc20
      generalize upd W35 b20 (.tup [.ref c20]) = W36 at kW36 fb20 A kW fc20 ⊢
      clear kW36 hb20
      have A := A.snoc (v := .ref b20) (no_one fb20 (no_tup fc20 (prim1 (.inl ⟨_, rfl⟩)) (fun n e => by simp at e) (by decide +kernel)))
      have A := A.snoc (v := .int 5) (.inl ⟨rfl, .inr (.inl ⟨5, rfl⟩)⟩)
      refine ⟨(by show 22 ≤ sizeLine; decide), fun wl hwl => ?_⟩
      have kL : Kp W36 (upd W36 wl (.lst [.non, .ref b1, .ref b2, .ref b3, .ref b4, .ref b5, .ref b6, .ref b7, .ref b8, .ref b9, .ref b10, .ref b11, .ref b12, .ref b13, .ref b14, .ref b15, .ref b16, .ref b17, .ref b18, .ref b19, .ref b20, .int 5])) [] := Kp.new hwl
      have fL : upd W36 wl (.lst [.non, .ref b1, .ref b2, .ref b3, .ref b4, .ref b5, .ref b6, .ref b7, .ref b8, .ref b9, .ref b10, .ref b11, .ref b12, .ref b13, .ref b14, .ref b15, .ref b16, .ref b17, .ref b18, .ref b19, .ref b20, .int 5]) wl = some (.lst [.non, .ref b1, .ref b2, .ref b3, .ref b4, .ref b5, .ref b6, .ref b7, .ref b8, .ref b9, .ref b10, .ref b11, .ref b12, .ref b13, .ref b14, .ref b15, .ref b16, .ref b17, .ref b18, .ref b19, .ref b20, .int 5]) := upd_same
      have A : NoCode _ [.non, .ref b1, .ref b2, .ref b3, .ref b4, .ref b5, .ref b6, .ref b7, .ref b8, .ref b9, .ref b10, .ref b11, .ref b12, .ref b13, .ref b14, .ref b15, .ref b16, .ref b17, .ref b18, .ref b19, .ref b20, .int 5] := A.kp kL
      have kL := kW.then kL
      generalize upd W36 wl (.lst [.non, .ref b1, .ref b2, .ref b3, .ref b4, .ref b5, .ref b6, .ref b7, .ref b8, .ref b9, .ref b10, .ref b11, .ref b12, .ref b13, .ref b14, .ref b15, .ref b16, .ref b17, .ref b18, .ref b19, .ref b20, .int 5]) = WL at kL fL A ⊢
      clear kW
      -- is_code of many
      refine ⟨(by show 1 ≤ sizeLine; decide), fun t ht => ?_⟩
      have kA : Kp WL (upd WL t (.tup [.str "drop"])) [] := Kp.new ht
      have tA : upd WL t (.tup [.str "drop"]) t = some (.tup [.str "drop"]) := upd_same
      generalize upd WL t (.tup [.str "drop"]) = WA at kA tA ⊢
      refine ⟨(by show 1 ≤ sizeLine; decide), fun t2 ht2 => ?_⟩
      have kB : Kp WA (upd WA t2 (.tup [.ref t])) [] := Kp.new ht2
      have t2B : upd WA t2 (.tup [.ref t]) t2 = some (.tup [.ref t]) := upd_same
      have tB := kB.tup0 tA
      generalize upd WA t2 (.tup [.ref t]) = WB at kB t2B tB ⊢
      refine ⟨t2, 2000, _, rfl, rfl, SqT.of t2B, (fun z => nomatch z), by decide, by decide, (by show 1 ≤ 1000; decide), fun z => absurd z (by decide), fun z => absurd z (by decide), fun _ p hp => ?_⟩
      rw [show (2000 : Int).toNat = 2000 from rfl]
      have kC : Kp WB (upd WB p (.tup (List.replicate 2000 [V.ref t]).flatten)) [] := Kp.new hp
      have pC : upd WB p (.tup (List.replicate 2000 [V.ref t]).flatten) p = some (.tup (List.replicate 2000 [V.ref t]).flatten) := upd_same
      have cC := code_many pC (kC.tup0 tB)
      rw [decide_eq_true (Nat.le_refl 2000)] at cC
      generalize upd WB p (.tup (List.replicate 2000 [V.ref t]).flatten) = WC at kC pC cC ⊢
      have k9C := kL.then ((kA.then kB).then kC)
      refine ⟨.ref p, true, rfl, cC, k9C.tabG tn9, k9C.tabG tc9, fun WD kD => ⟨true, true, rfl, rfl, true, congrArg V.bl (by decide), iteT ?_⟩⟩
      have k9D := k9C.then kD
      have kLD := ((kA.then kB).then kC).then kD
      clear kA tA kB t2B tB kC pC cC k9C kD ht ht2 hp
      refine ⟨(by show 1 ≤ sizeLine; decide), fun t ht => ?_⟩
      have kA : Kp WD (upd WD t (.tup [.str "drop"])) [] := Kp.new ht
      have tA : upd WD t (.tup [.str "drop"]) t = some (.tup [.str "drop"]) := upd_same
      generalize upd WD t (.tup [.str "drop"]) = WA at kA tA ⊢
      refine ⟨(by show 1 ≤ sizeLine; decide), fun t2 ht2 => ?_⟩
      have kB : Kp WA (upd WA t2 (.tup [.ref t])) [] := Kp.new ht2
      have t2B : upd WA t2 (.tup [.ref t]) t2 = some (.tup [.ref t]) := upd_same
      have tB := kB.tup0 tA
      generalize upd WA t2 (.tup [.ref t]) = WB at kB t2B tB ⊢
      refine ⟨t2, 2001, _, rfl, rfl, SqT.of t2B, (fun z => nomatch z), by decide, by decide, (by show 1 ≤ 1000; decide), fun z => absurd z (by decide), fun z => absurd z (by decide), fun _ p hp => ?_⟩
      rw [show (2001 : Int).toNat = 2001 from rfl]
      have kC : Kp WB (upd WB p (.tup (List.replicate 2001 [V.ref t]).flatten)) [] := Kp.new hp
      have pC : upd WB p (.tup (List.replicate 2001 [V.ref t]).flatten) p = some (.tup (List.replicate 2001 [V.ref t]).flatten) := upd_same
      have cC := code_many pC (kC.tup0 tB)
      rw [decide_eq_false (show ¬ 2001 ≤ 2000 by omega)] at cC
      generalize upd WB p (.tup (List.replicate 2001 [V.ref t]).flatten) = WC at kC pC cC ⊢
      have k9C := k9D.then ((kA.then kB).then kC)
      refine ⟨.ref p, false, rfl, cC, k9C.tabG tn9, k9C.tabG tc9, fun WE kE => ⟨false, false, rfl, rfl, true, congrArg V.bl (by decide), iteT ?_⟩⟩
      have k9E := k9C.then kE
      have kLE := kLD.then (((kA.then kB).then kC).then kE)
      -- [value for value in wrong if ..] == []
      have fE := kLE.lst0 fL
      have AE := A.kp kLE
      refine ⟨_, rfl, wl, rfl, ⟨_, SqL.of fE⟩, fun D3 hD3 => ?_⟩
      refine lc_list (K := K) (a := wl) (xs := [.non, .ref b1, .ref b2, .ref b3, .ref b4, .ref b5, .ref b6, .ref b7, .ref b8, .ref b9, .ref b10, .ref b11, .ref b12, .ref b13, .ref b14, .ref b15, .ref b16, .ref b17, .ref b18, .ref b19, .ref b20, .int 5]) (fun i H' => Kp WE H' [] ∧ H' D3 = some (.lst [])) ⟨Kp.new hD3, upd_same⟩ (fun i H' _ h => SqL.of (h.1.lst0 fE)) (fun i x H' hx ⟨k5, h5⟩ => ?_) (fun H' ⟨k5, h5⟩ => ?_)
      · have k05 := k9E.then k5
        exact ⟨rfl, _, rfl, x, false, rfl, (AE x (List.mem_of_getElem? hx)).kp k5, k05.tabG tn9, k05.tabG tc9, fun G5 k6 => ⟨false, false, rfl, rfl, false, congrArg V.bl (by decide), iteF ⟨k5.then k6, k6.lst0 h5⟩⟩⟩
      · refine ⟨Nat.zero_le _, fun e1 he1 => ?_⟩
        have k6 : Kp H' (upd H' e1 (.lst [])) [] := Kp.new he1
        exact ⟨.list [], .list [], .lst (SqL.of (k6.lst0 h5)) .nil, .lst (SqL.of upd_same) .nil, rfl, rfl, k _⟩
end
end K48

set_option Elab.async false
set_option maxRecDepth 100000
set_option maxHeartbeats 8000000
set_option pp.maxSteps 300
namespace K48
open PySem L2
theorem kit_self {K : PySem.W.Frag} {t : Value} : PySem.W.kitOne K t t = some true := by
  unfold PySem.W.kitOne
  rw [if_pos (beq_self_eq_true t)]
theorem kit_cls {K : PySem.W.Frag} {N S : Addr} {b : Bool} (h2 : PySem.W.isClsIn K S = true) (h3 : PySem.W.typeIn K (.ref S) = some (.type "type")) (h4 : PySem.W.subIn K (.ref N) (.ref S) = some b) (ne : ¬ (Value.ref N == Value.ref S) = true) : PySem.W.kitOne K (.ref N) (.ref S) = some b := by
  have h2' : (PySem.W.clsIn K S).isSome = true := h2
  have e2 : ((PySem.W.clsIn K S).isSome && PySem.W.typeIn K (.ref S) == some (.type "type")) = true := by rw [h2', h3] <;> rfl
  unfold PySem.W.kitOne
  rw [if_neg ne]
  show (if ((PySem.W.clsIn K S).isSome && PySem.W.typeIn K (.ref S) == some (.type "type")) = true then PySem.W.subIn K (.ref N) (.ref S) else none) = some b
  rw [if_pos e2]
  exact h4
theorem kit_ne {K : PySem.W.Frag} {N S : Addr} (h2 : PySem.W.isClsIn K S = true) (h3 : PySem.W.typeIn K (.ref S) = some (.type "type")) (h4 : PySem.W.subIn K (.ref N) (.ref S) = some false) (h5 : PySem.W.subIn K (.ref N) (.ref N) = some true) : PySem.W.kitOne K (.ref N) (.ref S) = some false :=
  kit_cls h2 h3 h4 fun q => by
    have e : N = S := Value.ref.inj (beq_iff_eq.mp q)
    rw [← e, h5] at h4
    cases h4
theorem kit_tt {K : PySem.W.Frag} {N S : Addr} (h2 : PySem.W.isClsIn K S = true) (h3 : PySem.W.typeIn K (.ref S) = some (.type "type")) (h4 : PySem.W.subIn K (.ref N) (.ref S) = some true) : PySem.W.kitOne K (.ref N) (.ref S) = some true := by
  by_cases q : (Value.ref N == Value.ref S) = true
  · unfold PySem.W.kitOne
    rw [if_pos q]
  · exact kit_cls h2 h3 h4 q
theorem sqt {K : PySem.W.Frag} {a : Addr} {d : Option Addr} {its : Array Value} {n : Nat} {sl : Array (Option Value)} {xs : List V} (l : K.lookup a = some ⟨.type "tuple", d, .seq its n, sl⟩) (hz : its.size ≤ sizeLine) (r : Vals xs its.toList) (H : Hp) : SqT K H a xs :=
  .inr ⟨_, its, n, l, rfl, rfl, hz, r⟩
theorem sql_kp {K : PySem.W.Frag} {H : Hp} {a : Addr} {xs : List V} (h : SqL K H a xs) (H' : Hp) (k : Kp H H' []) : SqL K H' a xs := by
  rcases h with (h | ⟨o, h⟩) | h
  · exact .inl (.inl (k.lst0 h))
  · exact .inl (.inr ⟨o, k.keep a _ h (fun _ e => nomatch e) (by simp)⟩)
  · exact .inr h
theorem tabB {base : Heap} {mg : Str → Option Value} {c p : Addr} (h : LamX.TabB base mg c p) : GxR.TabB base mg c p := ⟨h.code, h.bm, h.gP⟩
theorem tabG {H : Hp} {p : Addr} (h : H p = some (.tbl #[])) : GxR.TabG H p := ⟨#[], h, trivial⟩
/-! ### what the top has left, the head -/
theorem all_mk {l : PySem.W.OpenLaw} {w : World} {K : PySem.W.Frag} {h : Heap} {mg : Str → Option Value} {fa C fNu fNl fNb xcNb pNb fKi fWl xcWl pWl fWo fMa fIn fCd xcCd pCd fI fTa fPu fMv fLe fHe fSl fTr fRu fLo fLm fLd fLt fLi fLk fLw fLr fLa fL1 fL ST SI SA SO o0 o1 o2 o3 o4 o5 o6 o7 o8 o9 o10 o11 o12 o13 o14 o15 o16 q0 q1 q2 q3 q4 q5 q6 q7 q8 q9 q10 q11 q12 q13 q14 q15 q16 Ee Eo Em En Er Et : Addr} (X : K.In h) (G : h.Ns mainGlobals mg) (hfa : mg "law" = some (.ref fa))
    {odNu anNu odNl anNl odNb anNb oeNb odKi anKi odWl anWl oeWl odWo anWo odMa anMa odIn anIn odCd anCd oeCd odI anI odTa anTa odPu anPu odMv anMv odLe anLe odHe anHe odSl anSl odTr anTr odRu anRu odLo anLo odLm anLm odLd anLd odLt anLt odLi anLi odLk anLk odLw anLw odLr anLr odLa anLa odL1 anL1 odL anL dST do0 dq0 do1 dq1 do2 dq2 do3 dq3 do4 dq4 do5 dq5 do6 dq6 do7 dq7 do8 dq8 do9 dq9 do10 dq10 do11 dq11 do12 dq12 do13 dq13 do14 dq14 do15 dq15 do16 dq16 dSA dSO : Option Addr} {slNu slNl slNb seNb slKi slWl seWl slWo slMa slIn slCd seCd slI slTa slPu slMv slLe slHe slSl slTr slRu slLo slLm slLd slLt slLi slLk slLw slLr slLa slL1 slL sST so0 sq0 so1 sq1 so2 sq2 so3 sq3 so4 sq4 so5 sq5 so6 sq6 so7 sq7 so8 sq8 so9 sq9 so10 sq10 so11 sq11 so12 sq12 so13 sq13 so14 sq14 so15 sq15 so16 sq16 sSI sSA sSO : Array (Option Value)} {ocNu kVNu dcNu pmNu ctNu cdNu ocNl kVNl dcNl pmNl ctNl cdNl ocNb kVNb dcNb pmNb ctNb ocKi kVKi dcKi pmKi ctKi cdKi ocWl kVWl dcWl pmWl ctWl ocWo kVWo dcWo pmWo ctWo cdWo ocMa kVMa dcMa pmMa ctMa cdMa ocIn kVIn dcIn pmIn ctIn cdIn ocCd kVCd dcCd pmCd ctCd ocI kVI dcI pmI ctI cdI ocTa kVTa dcTa pmTa ctTa cdTa ocPu kVPu dcPu pmPu ctPu cdPu ocMv kVMv dcMv pmMv ctMv cdMv ocLe kVLe dcLe pmLe ctLe cdLe ocHe kVHe dcHe pmHe ctHe cdHe ocSl kVSl dcSl pmSl ctSl cdSl ocTr kVTr dcTr pmTr ctTr cdTr ocRu kVRu dcRu pmRu ctRu cdRu ocLo kVLo dcLo pmLo ctLo cdLo ocLm kVLm dcLm pmLm ctLm cdLm ocLd kVLd dcLd pmLd ctLd cdLd ocLt kVLt dcLt pmLt ctLt cdLt ocLi kVLi dcLi pmLi ctLi cdLi ocLk kVLk dcLk pmLk ctLk cdLk ocLw kVLw dcLw pmLw ctLw cdLw ocLr kVLr dcLr pmLr ctLr cdLr ocLa kVLa dcLa pmLa ctLa cdLa ocL1 kVL1 dcL1 pmL1 ctL1 cdL1 ocL kVL dcL pmL ctL cdL : Value} {veNb veWl veCd : Array Value} {nST no0 nq0 no1 nq1 no2 nq2 no3 nq3 no4 nq4 no5 nq5 no6 nq6 no7 nq7 no8 nq8 no9 nq9 no10 nq10 no11 nq11 no12 nq12 no13 nq13 no14 nq14 no15 nq15 no16 nq16 nSI nSA nSO : Nat} {ti0 ti1 ti2 ti3 ts0 ts1 to0_0 to0_2 tq0_0 tq0_1 to1_0 to1_2 tq1_0 tq1_1 to2_0 to2_2 tq2_0 tq2_1 to3_0 to3_2 tq3_0 tq3_1 to4_0 to4_2 tq4_0 tq4_1 to5_0 to5_2 tq5_0 tq5_1 to6_0 to6_2 tq6_0 tq6_1 to7_0 to7_2 tq7_0 tq7_1 to8_0 to8_2 tq8_0 to9_0 to9_2 to10_0 to10_2 tq10_0 to11_0 to11_2 tq11_0 tq11_1 tq11_2 to12_0 to12_2 tq12_0 tq12_1 to13_0 to13_2 to14_0 to14_2 to15_0 to15_2 to16_0 to16_2 tSI_0 tSI_1 tSI_2 tSA_0 tSA_1 tSO_0 tSO_1 : Tok}
    (aC : PySem.W.nsIn K mainGlobals "Machine" = some (some (.ref C)))
    (aNu : PySem.W.nsIn K mainGlobals "is_number" = some (some (.ref fNu)))
    (lNu : K.lookup fNu = some ⟨ocNu, odNu, .func (PySem.W.fnOf "is_number" "is_number" (defArgs s_is_number) (defBody s_is_number) (defScope s_is_number) .none kVNu dcNu pmNu anNu cdNu ctNu), slNu⟩)
    (cNu : PySem.W.codeIn K cdNu "is_number" = true)
    (kNu : PySem.W.keepIn K (.ref fNu) = true)
    (aNl : PySem.W.nsIn K mainGlobals "numeral_of" = some (some (.ref fNl)))
    (lNl : K.lookup fNl = some ⟨ocNl, odNl, .func (PySem.W.fnOf "numeral_of" "numeral_of" (defArgs s_numeral_of) (defBody s_numeral_of) (defScope s_numeral_of) .none kVNl dcNl pmNl anNl cdNl ctNl), slNl⟩)
    (cNl : PySem.W.codeIn K cdNl "numeral_of" = true)
    (kNl : PySem.W.keepIn K (.ref fNl) = true)
    (aNb : PySem.W.nsIn K mainGlobals "number_of" = some (some (.ref fNb)))
    (lNb : K.lookup fNb = some ⟨ocNb, odNb, .func (PySem.W.fnOf "number_of" "number_of" (defArgs s_number_of) (defBody s_number_of) (defScope s_number_of) .none kVNb dcNb pmNb anNb (.ref xcNb) ctNb), slNb⟩)
    (cNb : PySem.W.codeIn K (.ref xcNb) "number_of" = true)
    (kNb : PySem.W.keepIn K (.ref fNb) = true)
    (wNb : K.lookup xcNb = some ⟨.type "code", oeNb, .fields veNb, seNb⟩)
    (vNb : (veNb[11]? : Option Value) = some (.ref pNb))
    (zNb : K.lookup pNb = none)
    (tNb : PySem.W.CodeHd h xcNb pNb ∧ h.get? pNb = some { cls := .none, data := .fields #[] })
    (aKi : PySem.W.nsIn K mainGlobals "kind_of" = some (some (.ref fKi)))
    (lKi : K.lookup fKi = some ⟨ocKi, odKi, .func (PySem.W.fnOf "kind_of" "kind_of" (defArgs s_kind_of) (defBody s_kind_of) (defScope s_kind_of) .none kVKi dcKi pmKi anKi cdKi ctKi), slKi⟩)
    (cKi : PySem.W.codeIn K cdKi "kind_of" = true)
    (kKi : PySem.W.keepIn K (.ref fKi) = true)
    (aWl : PySem.W.nsIn K mainGlobals "is_world" = some (some (.ref fWl)))
    (lWl : K.lookup fWl = some ⟨ocWl, odWl, .func (PySem.W.fnOf "is_world" "is_world" (defArgs s_is_world) (defBody s_is_world) (defScope s_is_world) .none kVWl dcWl pmWl anWl (.ref xcWl) ctWl), slWl⟩)
    (cWl : PySem.W.codeIn K (.ref xcWl) "is_world" = true)
    (kWl : PySem.W.keepIn K (.ref fWl) = true)
    (wWl : K.lookup xcWl = some ⟨.type "code", oeWl, .fields veWl, seWl⟩)
    (vWl : (veWl[11]? : Option Value) = some (.ref pWl))
    (zWl : K.lookup pWl = none)
    (tWl : PySem.W.CodeHd h xcWl pWl ∧ h.get? pWl = some { cls := .none, data := .fields #[] })
    (aWo : PySem.W.nsIn K mainGlobals "worked" = some (some (.ref fWo)))
    (lWo : K.lookup fWo = some ⟨ocWo, odWo, .func (PySem.W.fnOf "worked" "worked" (defArgs s_worked) (defBody s_worked) (defScope s_worked) .none kVWo dcWo pmWo anWo cdWo ctWo), slWo⟩)
    (cWo : PySem.W.codeIn K cdWo "worked" = true)
    (kWo : PySem.W.keepIn K (.ref fWo) = true)
    (aMa : PySem.W.nsIn K mainGlobals "made" = some (some (.ref fMa)))
    (lMa : K.lookup fMa = some ⟨ocMa, odMa, .func (PySem.W.fnOf "made" "made" (defArgs s_made) (defBody s_made) (defScope s_made) .none kVMa dcMa pmMa anMa cdMa ctMa), slMa⟩)
    (cMa : PySem.W.codeIn K cdMa "made" = true)
    (kMa : PySem.W.keepIn K (.ref fMa) = true)
    (aIn : PySem.W.nsIn K mainGlobals "is_instruction" = some (some (.ref fIn)))
    (lIn : K.lookup fIn = some ⟨ocIn, odIn, .func (PySem.W.fnOf "is_instruction" "is_instruction" (defArgs s_is_instruction) (defBody s_is_instruction) (defScope s_is_instruction) .none kVIn dcIn pmIn anIn cdIn ctIn), slIn⟩)
    (cIn : PySem.W.codeIn K cdIn "is_instruction" = true)
    (kIn : PySem.W.keepIn K (.ref fIn) = true)
    (aCd : PySem.W.nsIn K mainGlobals "is_code" = some (some (.ref fCd)))
    (lCd : K.lookup fCd = some ⟨ocCd, odCd, .func (PySem.W.fnOf "is_code" "is_code" (defArgs s_is_code) (defBody s_is_code) (defScope s_is_code) .none kVCd dcCd pmCd anCd (.ref xcCd) ctCd), slCd⟩)
    (cCd : PySem.W.codeIn K (.ref xcCd) "is_code" = true)
    (kCd : PySem.W.keepIn K (.ref fCd) = true)
    (wCd : K.lookup xcCd = some ⟨.type "code", oeCd, .fields veCd, seCd⟩)
    (vCd : (veCd[11]? : Option Value) = some (.ref pCd))
    (zCd : K.lookup pCd = none)
    (tCd : PySem.W.CodeHd h xcCd pCd ∧ h.get? pCd = some { cls := .none, data := .fields #[] })
    (aI : PySem.W.findIn K (.ref C) "__init__" = some (some (.ref fI)))
    (iI : PySem.W.isFn K (.ref fI) = true)
    (lI : K.lookup fI = some ⟨ocI, odI, .func (PySem.W.fnOf "__init__" "Machine.__init__" (defArgs s_Machine___init__) (defBody s_Machine___init__) (defScope s_Machine___init__) .none kVI dcI pmI anI cdI ctI), slI⟩)
    (cI : PySem.W.codeIn K cdI "Machine.__init__" = true)
    (kI : PySem.W.keepIn K (.ref fI) = true)
    (aTa : PySem.W.findIn K (.ref C) "take" = some (some (.ref fTa)))
    (iTa : PySem.W.isFn K (.ref fTa) = true)
    (lTa : K.lookup fTa = some ⟨ocTa, odTa, .func (PySem.W.fnOf "take" "Machine.take" (defArgs s_Machine_take) (defBody s_Machine_take) (defScope s_Machine_take) .none kVTa dcTa pmTa anTa cdTa ctTa), slTa⟩)
    (cTa : PySem.W.codeIn K cdTa "Machine.take" = true)
    (kTa : PySem.W.keepIn K (.ref fTa) = true)
    (aPu : PySem.W.findIn K (.ref C) "put" = some (some (.ref fPu)))
    (iPu : PySem.W.isFn K (.ref fPu) = true)
    (lPu : K.lookup fPu = some ⟨ocPu, odPu, .func (PySem.W.fnOf "put" "Machine.put" (defArgs s_Machine_put) (defBody s_Machine_put) (defScope s_Machine_put) .none kVPu dcPu pmPu anPu cdPu ctPu), slPu⟩)
    (cPu : PySem.W.codeIn K cdPu "Machine.put" = true)
    (kPu : PySem.W.keepIn K (.ref fPu) = true)
    (aMv : PySem.W.findIn K (.ref C) "move" = some (some (.ref fMv)))
    (iMv : PySem.W.isFn K (.ref fMv) = true)
    (lMv : K.lookup fMv = some ⟨ocMv, odMv, .func (PySem.W.fnOf "move" "Machine.move" (defArgs s_Machine_move) (defBody s_Machine_move) (defScope s_Machine_move) .none kVMv dcMv pmMv anMv cdMv ctMv), slMv⟩)
    (cMv : PySem.W.codeIn K cdMv "Machine.move" = true)
    (kMv : PySem.W.keepIn K (.ref fMv) = true)
    (aLe : PySem.W.nsIn K mainGlobals "sorts_left" = some (some (.ref fLe)))
    (lLe : K.lookup fLe = some ⟨ocLe, odLe, .func (PySem.W.fnOf "sorts_left" "sorts_left" (defArgs s_sorts_left) (defBody s_sorts_left) (defScope s_sorts_left) .none kVLe dcLe pmLe anLe cdLe ctLe), slLe⟩)
    (cLe : PySem.W.codeIn K cdLe "sorts_left" = true)
    (kLe : PySem.W.keepIn K (.ref fLe) = true)
    (aHe : PySem.W.nsIn K mainGlobals "height_of" = some (some (.ref fHe)))
    (lHe : K.lookup fHe = some ⟨ocHe, odHe, .func (PySem.W.fnOf "height_of" "height_of" (defArgs s_height_of) (defBody s_height_of) (defScope s_height_of) .none kVHe dcHe pmHe anHe cdHe ctHe), slHe⟩)
    (cHe : PySem.W.codeIn K cdHe "height_of" = true)
    (kHe : PySem.W.keepIn K (.ref fHe) = true)
    (aSl : PySem.W.nsIn K mainGlobals "slots_of" = some (some (.ref fSl)))
    (lSl : K.lookup fSl = some ⟨ocSl, odSl, .func (PySem.W.fnOf "slots_of" "slots_of" (defArgs s_slots_of) (defBody s_slots_of) (defScope s_slots_of) .none kVSl dcSl pmSl anSl cdSl ctSl), slSl⟩)
    (cSl : PySem.W.codeIn K cdSl "slots_of" = true)
    (kSl : PySem.W.keepIn K (.ref fSl) = true)
    (aTr : PySem.W.nsIn K mainGlobals "tried" = some (some (.ref fTr)))
    (lTr : K.lookup fTr = some ⟨ocTr, odTr, .func (PySem.W.fnOf "tried" "tried" (defArgs s_tried) (defBody s_tried) (defScope s_tried) .none kVTr dcTr pmTr anTr cdTr ctTr), slTr⟩)
    (cTr : PySem.W.codeIn K cdTr "tried" = true)
    (kTr : PySem.W.keepIn K (.ref fTr) = true)
    (aRu : PySem.W.nsIn K mainGlobals "run_code" = some (some (.ref fRu)))
    (lRu : K.lookup fRu = some ⟨ocRu, odRu, .func (PySem.W.fnOf "run_code" "run_code" (defArgs s_run_code) (defBody s_run_code) (defScope s_run_code) .none kVRu dcRu pmRu anRu cdRu ctRu), slRu⟩)
    (cRu : PySem.W.codeIn K cdRu "run_code" = true)
    (kRu : PySem.W.keepIn K (.ref fRu) = true)
    (aLo : PySem.W.nsIn K mainGlobals "_law_open" = some (some (.ref fLo)))
    (lLo : K.lookup fLo = some ⟨ocLo, odLo, .func (PySem.W.fnOf "_law_open" "_law_open" (defArgs s__law_open) (defBody s__law_open) (defScope s__law_open) .none kVLo dcLo pmLo anLo cdLo ctLo), slLo⟩)
    (cLo : PySem.W.codeIn K cdLo "_law_open" = true)
    (kLo : PySem.W.keepIn K (.ref fLo) = true)
    (aLm : PySem.W.nsIn K mainGlobals "_law_mixed" = some (some (.ref fLm)))
    (lLm : K.lookup fLm = some ⟨ocLm, odLm, .func (PySem.W.fnOf "_law_mixed" "_law_mixed" (defArgs s__law_mixed) (defBody s__law_mixed) (defScope s__law_mixed) .none kVLm dcLm pmLm anLm cdLm ctLm), slLm⟩)
    (cLm : PySem.W.codeIn K cdLm "_law_mixed" = true)
    (kLm : PySem.W.keepIn K (.ref fLm) = true)
    (aLd : PySem.W.nsIn K mainGlobals "_law_draw" = some (some (.ref fLd)))
    (lLd : K.lookup fLd = some ⟨ocLd, odLd, .func (PySem.W.fnOf "_law_draw" "_law_draw" (defArgs s__law_draw) (defBody s__law_draw) (defScope s__law_draw) .none kVLd dcLd pmLd anLd cdLd ctLd), slLd⟩)
    (cLd : PySem.W.codeIn K cdLd "_law_draw" = true)
    (kLd : PySem.W.keepIn K (.ref fLd) = true)
    (aLt : PySem.W.nsIn K mainGlobals "_law_told" = some (some (.ref fLt)))
    (lLt : K.lookup fLt = some ⟨ocLt, odLt, .func (PySem.W.fnOf "_law_told" "_law_told" (defArgs s__law_told) (defBody s__law_told) (defScope s__law_told) .none kVLt dcLt pmLt anLt cdLt ctLt), slLt⟩)
    (cLt : PySem.W.codeIn K cdLt "_law_told" = true)
    (kLt : PySem.W.keepIn K (.ref fLt) = true)
    (aLi : PySem.W.nsIn K mainGlobals "_law_int" = some (some (.ref fLi)))
    (lLi : K.lookup fLi = some ⟨ocLi, odLi, .func (PySem.W.fnOf "_law_int" "_law_int" (defArgs s__law_int) (defBody s__law_int) (defScope s__law_int) .none kVLi dcLi pmLi anLi cdLi ctLi), slLi⟩)
    (cLi : PySem.W.codeIn K cdLi "_law_int" = true)
    (kLi : PySem.W.keepIn K (.ref fLi) = true)
    (aLk : PySem.W.nsIn K mainGlobals "_law_kind" = some (some (.ref fLk)))
    (lLk : K.lookup fLk = some ⟨ocLk, odLk, .func (PySem.W.fnOf "_law_kind" "_law_kind" (defArgs s__law_kind) (defBody s__law_kind) (defScope s__law_kind) .none kVLk dcLk pmLk anLk cdLk ctLk), slLk⟩)
    (cLk : PySem.W.codeIn K cdLk "_law_kind" = true)
    (kLk : PySem.W.keepIn K (.ref fLk) = true)
    (aLw : PySem.W.nsIn K mainGlobals "_law_work" = some (some (.ref fLw)))
    (lLw : K.lookup fLw = some ⟨ocLw, odLw, .func (PySem.W.fnOf "_law_work" "_law_work" (defArgs s__law_work) (defBody s__law_work) (defScope s__law_work) .none kVLw dcLw pmLw anLw cdLw ctLw), slLw⟩)
    (cLw : PySem.W.codeIn K cdLw "_law_work" = true)
    (kLw : PySem.W.keepIn K (.ref fLw) = true)
    (aLr : PySem.W.nsIn K mainGlobals "_law_run" = some (some (.ref fLr)))
    (lLr : K.lookup fLr = some ⟨ocLr, odLr, .func (PySem.W.fnOf "_law_run" "_law_run" (defArgs s__law_run) (defBody s__law_run) (defScope s__law_run) .none kVLr dcLr pmLr anLr cdLr ctLr), slLr⟩)
    (cLr : PySem.W.codeIn K cdLr "_law_run" = true)
    (kLr : PySem.W.keepIn K (.ref fLr) = true)
    (aLa : PySem.W.nsIn K mainGlobals "_law_asked" = some (some (.ref fLa)))
    (lLa : K.lookup fLa = some ⟨ocLa, odLa, .func (PySem.W.fnOf "_law_asked" "_law_asked" (defArgs s__law_asked) (defBody s__law_asked) (defScope s__law_asked) .none kVLa dcLa pmLa anLa cdLa ctLa), slLa⟩)
    (cLa : PySem.W.codeIn K cdLa "_law_asked" = true)
    (kLa : PySem.W.keepIn K (.ref fLa) = true)
    (aL1 : PySem.W.nsIn K mainGlobals "_law_one" = some (some (.ref fL1)))
    (lL1 : K.lookup fL1 = some ⟨ocL1, odL1, .func (PySem.W.fnOf "_law_one" "_law_one" (defArgs s__law_one) (defBody s__law_one) (defScope s__law_one) .none kVL1 dcL1 pmL1 anL1 cdL1 ctL1), slL1⟩)
    (cL1 : PySem.W.codeIn K cdL1 "_law_one" = true)
    (kL1 : PySem.W.keepIn K (.ref fL1) = true)
    (aL : PySem.W.nsIn K mainGlobals "law" = some (some (.ref fL)))
    (lL : K.lookup fL = some ⟨ocL, odL, .func (PySem.W.fnOf "law" "law" (defArgs s_law) (defBody s_law) (defScope s_law) .none kVL dcL pmL anL cdL ctL), slL⟩)
    (cL : PySem.W.codeIn K cdL "law" = true)
    (kL : PySem.W.keepIn K (.ref fL) = true)
    (pgC : PySem.W.plainGet K C Str.empty = true)
    (hdC : PySem.W.hasDictIn K C = true)
    (poC : PySem.W.plainOver K C = true)
    (saC : PySem.W.findIn K (.ref C) "__setattr__" = some (some (.builtin "object.__setattr__")))
    (mkC : PySem.W.makesIn K C = true)
    (kcC : PySem.W.keepIn K (.ref C) = true)
    (n0 : PySem.W.findIn K (.ref C) "stack" = some none)
    (n1 : PySem.W.findIn K (.ref C) "slots" = some none)
    (n2 : PySem.W.findIn K (.ref C) "height" = some none)
    (zabs : PySem.W.nsIn K mainGlobals "abs" = some none)
    (zint : PySem.W.nsIn K mainGlobals "int" = some none)
    (zrange : PySem.W.nsIn K mainGlobals "range" = some none)
    (zlen : PySem.W.nsIn K mainGlobals "len" = some none)
    (zlist : PySem.W.nsIn K mainGlobals "list" = some none)
    (zisinstance : PySem.W.nsIn K mainGlobals "isinstance" = some none)
    (zbool : PySem.W.nsIn K mainGlobals "bool" = some none)
    (zstr : PySem.W.nsIn K mainGlobals "str" = some none)
    (ztuple : PySem.W.nsIn K mainGlobals "tuple" = some none)
    (zmin : PySem.W.nsIn K mainGlobals "min" = some none)
    (zmax : PySem.W.nsIn K mainGlobals "max" = some none)
    (zall : PySem.W.nsIn K mainGlobals "all" = some none)
    (gi0 : PySem.W.nsIn K mainGlobals "MOST_NUMERAL" = some (some (.int 999 ti0)))
    (gi1 : PySem.W.nsIn K mainGlobals "MOST_INPUT" = some (some (.int 1000000 ti1)))
    (gi2 : PySem.W.nsIn K mainGlobals "MOST_CODE" = some (some (.int 2000 ti2)))
    (gi3 : PySem.W.nsIn K mainGlobals "MOST_SLOTS" = some (some (.int 20 ti3)))
    (gs0 : PySem.W.nsIn K mainGlobals "NUMBERS" = some (some (.str "num" ts0)))
    (gs1 : PySem.W.nsIn K mainGlobals "FIGURES" = some (some (.str "0123456789" ts1)))
    (aST : PySem.W.nsIn K mainGlobals "STANDARD" = some (some (.ref ST)))
    (aSI : PySem.W.nsIn K mainGlobals "INPUTS" = some (some (.ref SI)))
    (aSA : PySem.W.nsIn K mainGlobals "ALONE" = some (some (.ref SA)))
    (aSO : PySem.W.nsIn K mainGlobals "SLOTTED" = some (some (.ref SO)))
    (lST : K.lookup ST = some ⟨.type "tuple", dST, .seq #[.ref o0, .ref o1, .ref o2, .ref o3, .ref o4, .ref o5, .ref o6, .ref o7, .ref o8, .ref o9, .ref o10, .ref o11, .ref o12, .ref o13, .ref o14, .ref o15, .ref o16] nST, sST⟩)
    (lo0 : K.lookup o0 = some ⟨.type "tuple", do0, .seq #[.str "add" to0_0, .ref q0, .str "num" to0_2] no0, so0⟩)
    (lq0 : K.lookup q0 = some ⟨.type "tuple", dq0, .seq #[.str "num" tq0_0, .str "num" tq0_1] nq0, sq0⟩)
    (lo1 : K.lookup o1 = some ⟨.type "tuple", do1, .seq #[.str "alike" to1_0, .ref q1, .str "truth" to1_2] no1, so1⟩)
    (lq1 : K.lookup q1 = some ⟨.type "tuple", dq1, .seq #[.str "num" tq1_0, .str "num" tq1_1] nq1, sq1⟩)
    (lo2 : K.lookup o2 = some ⟨.type "tuple", do2, .seq #[.str "any" to2_0, .ref q2, .str "truth" to2_2] no2, so2⟩)
    (lq2 : K.lookup q2 = some ⟨.type "tuple", dq2, .seq #[.str "truth" tq2_0, .str "truth" tq2_1] nq2, sq2⟩)
    (lo3 : K.lookup o3 = some ⟨.type "tuple", do3, .seq #[.str "both" to3_0, .ref q3, .str "truth" to3_2] no3, so3⟩)
    (lq3 : K.lookup q3 = some ⟨.type "tuple", dq3, .seq #[.str "truth" tq3_0, .str "truth" tq3_1] nq3, sq3⟩)
    (lo4 : K.lookup o4 = some ⟨.type "tuple", do4, .seq #[.str "less" to4_0, .ref q4, .str "truth" to4_2] no4, so4⟩)
    (lq4 : K.lookup q4 = some ⟨.type "tuple", dq4, .seq #[.str "num" tq4_0, .str "num" tq4_1] nq4, sq4⟩)
    (lo5 : K.lookup o5 = some ⟨.type "tuple", do5, .seq #[.str "max" to5_0, .ref q5, .str "num" to5_2] no5, so5⟩)
    (lq5 : K.lookup q5 = some ⟨.type "tuple", dq5, .seq #[.str "num" tq5_0, .str "num" tq5_1] nq5, sq5⟩)
    (lo6 : K.lookup o6 = some ⟨.type "tuple", do6, .seq #[.str "min" to6_0, .ref q6, .str "num" to6_2] no6, so6⟩)
    (lq6 : K.lookup q6 = some ⟨.type "tuple", dq6, .seq #[.str "num" tq6_0, .str "num" tq6_1] nq6, sq6⟩)
    (lo7 : K.lookup o7 = some ⟨.type "tuple", do7, .seq #[.str "mul" to7_0, .ref q7, .str "num" to7_2] no7, so7⟩)
    (lq7 : K.lookup q7 = some ⟨.type "tuple", dq7, .seq #[.str "num" tq7_0, .str "num" tq7_1] nq7, sq7⟩)
    (lo8 : K.lookup o8 = some ⟨.type "tuple", do8, .seq #[.str "neg" to8_0, .ref q8, .str "num" to8_2] no8, so8⟩)
    (lq8 : K.lookup q8 = some ⟨.type "tuple", dq8, .seq #[.str "num" tq8_0] nq8, sq8⟩)
    (lo9 : K.lookup o9 = some ⟨.type "tuple", do9, .seq #[.str "no" to9_0, .ref q9, .str "truth" to9_2] no9, so9⟩)
    (lq9 : K.lookup q9 = some ⟨.type "tuple", dq9, .seq #[] nq9, sq9⟩)
    (lo10 : K.lookup o10 = some ⟨.type "tuple", do10, .seq #[.str "not" to10_0, .ref q10, .str "truth" to10_2] no10, so10⟩)
    (lq10 : K.lookup q10 = some ⟨.type "tuple", dq10, .seq #[.str "truth" tq10_0] nq10, sq10⟩)
    (lo11 : K.lookup o11 = some ⟨.type "tuple", do11, .seq #[.str "pick" to11_0, .ref q11, .str "num" to11_2] no11, so11⟩)
    (lq11 : K.lookup q11 = some ⟨.type "tuple", dq11, .seq #[.str "truth" tq11_0, .str "num" tq11_1, .str "num" tq11_2] nq11, sq11⟩)
    (lo12 : K.lookup o12 = some ⟨.type "tuple", do12, .seq #[.str "sub" to12_0, .ref q12, .str "num" to12_2] no12, so12⟩)
    (lq12 : K.lookup q12 = some ⟨.type "tuple", dq12, .seq #[.str "num" tq12_0, .str "num" tq12_1] nq12, sq12⟩)
    (lo13 : K.lookup o13 = some ⟨.type "tuple", do13, .seq #[.str "x" to13_0, .ref q13, .str "num" to13_2] no13, so13⟩)
    (lq13 : K.lookup q13 = some ⟨.type "tuple", dq13, .seq #[] nq13, sq13⟩)
    (lo14 : K.lookup o14 = some ⟨.type "tuple", do14, .seq #[.str "y" to14_0, .ref q14, .str "num" to14_2] no14, so14⟩)
    (lq14 : K.lookup q14 = some ⟨.type "tuple", dq14, .seq #[] nq14, sq14⟩)
    (lo15 : K.lookup o15 = some ⟨.type "tuple", do15, .seq #[.str "yes" to15_0, .ref q15, .str "truth" to15_2] no15, so15⟩)
    (lq15 : K.lookup q15 = some ⟨.type "tuple", dq15, .seq #[] nq15, sq15⟩)
    (lo16 : K.lookup o16 = some ⟨.type "tuple", do16, .seq #[.str "z" to16_0, .ref q16, .str "num" to16_2] no16, so16⟩)
    (lq16 : K.lookup q16 = some ⟨.type "tuple", dq16, .seq #[] nq16, sq16⟩)
    (lSI : K.lookup SI = some ⟨.type "tuple", none, .seq #[.str "x" tSI_0, .str "y" tSI_1, .str "z" tSI_2] nSI, sSI⟩)
    (lSA : K.lookup SA = some ⟨.type "tuple", dSA, .seq #[.str "swap" tSA_0, .str "drop" tSA_1] nSA, sSA⟩)
    (lSO : K.lookup SO = some ⟨.type "tuple", dSO, .seq #[.str "keep" tSO_0, .str "fetch" tSO_1] nSO, sSO⟩)
    (aEe : PySem.W.nsIn K mainGlobals "EqualError" = some (some (.ref Ee)))
    (aEo : PySem.W.nsIn K mainGlobals "OutOfRange" = some (some (.ref Eo)))
    (aEm : PySem.W.nsIn K mainGlobals "Malformed" = some (some (.ref Em)))
    (aEn : PySem.W.nsIn K mainGlobals "NotThere" = some (some (.ref En)))
    (aEr : PySem.W.nsIn K mainGlobals "Refused" = some (some (.ref Er)))
    (aEt : PySem.W.nsIn K mainGlobals "TooMuch" = some (some (.ref Et)))
    (isEe : PySem.W.isClsIn K Ee = true)
    (tyEe : PySem.W.typeIn K (.ref Ee) = some (.type "type"))
    (isEo : PySem.W.isClsIn K Eo = true)
    (tyEo : PySem.W.typeIn K (.ref Eo) = some (.type "type"))
    (isEm : PySem.W.isClsIn K Em = true)
    (tyEm : PySem.W.typeIn K (.ref Em) = some (.type "type"))
    (isEn : PySem.W.isClsIn K En = true)
    (tyEn : PySem.W.typeIn K (.ref En) = some (.type "type"))
    (isEr : PySem.W.isClsIn K Er = true)
    (tyEr : PySem.W.typeIn K (.ref Er) = some (.type "type"))
    (isEt : PySem.W.isClsIn K Et = true)
    (tyEt : PySem.W.typeIn K (.ref Et) = some (.type "type"))
    (bEe : PySem.W.subIn K (.ref Ee) (.type "BaseException") = some true)
    (dEe : PySem.W.hasDictIn K Ee = true)
    (kpEr : PySem.W.keepIn K (.ref Er) = true)
    (qEr : PySem.W.excIn K Er [.type "ValueError", .type "Exception", .type "BaseException", .type "object"] "ValueError.__new__" = true)
    (bEr : PySem.W.subIn K (.ref Er) (.type "BaseException") = some true)
    (uEr : PySem.W.subIn K (.ref Er) (.ref Er) = some true)
    (sErEe : PySem.W.subIn K (.ref Er) (.ref Ee) = some true)
    (sErEo : PySem.W.subIn K (.ref Er) (.ref Eo) = some false)
    (sErEm : PySem.W.subIn K (.ref Er) (.ref Em) = some false)
    (sErEn : PySem.W.subIn K (.ref Er) (.ref En) = some false)
    (sErEt : PySem.W.subIn K (.ref Er) (.ref Et) = some false)
    (x0Er : PySem.W.findIn K (.ref Er) "__getattribute__" = some (some (.builtin "BaseException.__getattribute__")))
    (x1Er : PySem.W.findIn K (.ref Er) "__getattr__" = some none)
    (x2Er : PySem.W.hasDictIn K Er = true)
    (x3Er : PySem.W.findIn K (.ref Er) "__class__" = some (some (.builtin "object.__class__")))
    (x6Er : PySem.W.mroIn K Er (.type "object") = some true)
    (kpEm : PySem.W.keepIn K (.ref Em) = true)
    (qEm : PySem.W.excIn K Em [.type "ValueError", .type "Exception", .type "BaseException", .type "object"] "ValueError.__new__" = true)
    (bEm : PySem.W.subIn K (.ref Em) (.type "BaseException") = some true)
    (uEm : PySem.W.subIn K (.ref Em) (.ref Em) = some true)
    (sEmEe : PySem.W.subIn K (.ref Em) (.ref Ee) = some true)
    (sEmEo : PySem.W.subIn K (.ref Em) (.ref Eo) = some false)
    (sEmEn : PySem.W.subIn K (.ref Em) (.ref En) = some false)
    (sEmEr : PySem.W.subIn K (.ref Em) (.ref Er) = some false)
    (sEmEt : PySem.W.subIn K (.ref Em) (.ref Et) = some false)
    (x0Em : PySem.W.findIn K (.ref Em) "__getattribute__" = some (some (.builtin "BaseException.__getattribute__")))
    (x1Em : PySem.W.findIn K (.ref Em) "__getattr__" = some none)
    (x2Em : PySem.W.hasDictIn K Em = true)
    (x3Em : PySem.W.findIn K (.ref Em) "__class__" = some (some (.builtin "object.__class__")))
    (x6Em : PySem.W.mroIn K Em (.type "object") = some true)
    (x4 : PySem.W.specialIn K (.builtin "object.__class__") "__get__" = some (some (.builtin "getset_descriptor.__get__")))
    (x5 : PySem.W.takesIn K (.builtin "object.__class__") = some true)
    : LamX.LawAtS l w K CX0 8 63 "script" mg fa h := by
  have e := hfa.symm.trans (PySem.W.mg_of X G aL)
  cases e
  have FNu := fun_mk (st := s_is_number) lNu cNu kNu
  have FNl := fun_mk (st := s_numeral_of) lNl cNl kNl
  have FNb : FunC K "number_of" "number_of" s_number_of fNb _ xcNb := ⟨⟨_, _, _, _, _, _, _, _, rfl, lNb, cNb⟩, kNb⟩
  have FKi := fun_mk (st := s_kind_of) lKi cKi kKi
  have FWl : FunC K "is_world" "is_world" s_is_world fWl _ xcWl := ⟨⟨_, _, _, _, _, _, _, _, rfl, lWl, cWl⟩, kWl⟩
  have FWo := fun_mk (st := s_worked) lWo cWo kWo
  have FMa := fun_mk (st := s_made) lMa cMa kMa
  have FIn := fun_mk (st := s_is_instruction) lIn cIn kIn
  have FCd : FunC K "is_code" "is_code" s_is_code fCd _ xcCd := ⟨⟨_, _, _, _, _, _, _, _, rfl, lCd, cCd⟩, kCd⟩
  have FI := fun_mk (st := s_Machine___init__) lI cI kI
  have FTa := fun_mk (st := s_Machine_take) lTa cTa kTa
  have FPu := fun_mk (st := s_Machine_put) lPu cPu kPu
  have FMv := fun_mk (st := s_Machine_move) lMv cMv kMv
  have FLe := fun_mk (st := s_sorts_left) lLe cLe kLe
  have FHe := fun_mk (st := s_height_of) lHe cHe kHe
  have FSl := fun_mk (st := s_slots_of) lSl cSl kSl
  have FTr := fun_mk (st := s_tried) lTr cTr kTr
  have FRu := fun_mk (st := s_run_code) lRu cRu kRu
  have FLo := fun_mk (st := s__law_open) lLo cLo kLo
  have FLm := fun_mk (st := s__law_mixed) lLm cLm kLm
  have FLd := fun_mk (st := s__law_draw) lLd cLd kLd
  have FLt := fun_mk (st := s__law_told) lLt cLt kLt
  have FLi := fun_mk (st := s__law_int) lLi cLi kLi
  have FLk := fun_mk (st := s__law_kind) lLk cLk kLk
  have FLw := fun_mk (st := s__law_work) lLw cLw kLw
  have FLr := fun_mk (st := s__law_run) lLr cLr kLr
  have FLa := fun_mk (st := s__law_asked) lLa cLa kLa
  have FL1 := fun_mk (st := s__law_one) lL1 cL1 kL1
  have FL := fun_mk (st := s_law) lL cL kL
  have bNu := FNu.binds (ps := ["value", "least", "most"]) fun _ _ _ _ _ _ us hl => match us, hl with | [_, _, _], _ => rfl
  have bNl := FNl.binds (ps := ["number"]) fun _ _ _ _ _ _ us hl => match us, hl with | [_], _ => rfl
  have bNb := FNb.fun.binds (ps := ["name"]) fun _ _ _ _ _ _ us hl => match us, hl with | [_], _ => rfl
  have bKi := FKi.binds (ps := ["signature", "name"]) fun _ _ _ _ _ _ us hl => match us, hl with | [_, _], _ => rfl
  have bWl := FWl.fun.binds (ps := ["value"]) fun _ _ _ _ _ _ us hl => match us, hl with | [_], _ => rfl
  have bWo := FWo.binds (ps := ["name", "values"]) fun _ _ _ _ _ _ us hl => match us, hl with | [_, _], _ => rfl
  have bMa := FMa.binds (ps := ["name", "values", "world"]) fun _ _ _ _ _ _ us hl => match us, hl with | [_, _, _], _ => rfl
  have bIn := FIn.binds (ps := ["value"]) fun _ _ _ _ _ _ us hl => match us, hl with | [_], _ => rfl
  have bCd := FCd.fun.binds (ps := ["value"]) fun _ _ _ _ _ _ us hl => match us, hl with | [_], _ => rfl
  have bI := FI.binds (ps := ["self"]) fun _ _ _ _ _ _ us hl => match us, hl with | [_], _ => rfl
  have bTa := FTa.binds (ps := ["self", "sorts"]) fun _ _ _ _ _ _ us hl => match us, hl with | [_, _], _ => rfl
  have bPu := FPu.binds (ps := ["self", "sort", "thing"]) fun _ _ _ _ _ _ us hl => match us, hl with | [_, _, _], _ => rfl
  have bMv := FMv.binds (ps := ["self", "instruction"]) fun _ _ _ _ _ _ us hl => match us, hl with | [_, _], _ => rfl
  have bLe := FLe.binds (ps := ["code"]) fun _ _ _ _ _ _ us hl => match us, hl with | [_], _ => rfl
  have bHe := FHe.binds (ps := ["code"]) fun _ _ _ _ _ _ us hl => match us, hl with | [_], _ => rfl
  have bSl := FSl.binds (ps := ["code"]) fun _ _ _ _ _ _ us hl => match us, hl with | [_], _ => rfl
  have bTr := FTr.binds (ps := ["code"]) fun _ _ _ _ _ _ us hl => match us, hl with | [_], _ => rfl
  have bRu := FRu.binds (ps := ["code", "world"]) fun _ _ _ _ _ _ us hl => match us, hl with | [_, _], _ => rfl
  have bLo := FLo.binds (ps := ["script"]) fun _ _ _ _ _ _ us hl => match us, hl with | [_], _ => rfl
  have bLm := FLm.binds (ps := ["cell", "turn"]) fun _ _ _ _ _ _ us hl => match us, hl with | [_, _], _ => rfl
  have bLd := FLd.binds (ps := ["draws", "size"]) fun _ _ _ _ _ _ us hl => match us, hl with | [_, _], _ => rfl
  have bLt := FLt.binds (ps := ["error"]) fun _ _ _ _ _ _ us hl => match us, hl with | [_], _ => rfl
  have bLi := FLi.binds (ps := ["value"]) fun _ _ _ _ _ _ us hl => match us, hl with | [_], _ => rfl
  have bLk := FLk.binds (ps := ["name"]) fun _ _ _ _ _ _ us hl => match us, hl with | [_], _ => rfl
  have bLw := FLw.binds (ps := ["name", "mine", "world"]) fun _ _ _ _ _ _ us hl => match us, hl with | [_, _, _], _ => rfl
  have bLr := FLr.binds (ps := ["code", "world"]) fun _ _ _ _ _ _ us hl => match us, hl with | [_, _], _ => rfl
  have bLa := FLa.binds (ps := ["what", "code", "world"]) fun _ _ _ _ _ _ us hl => match us, hl with | [_, _, _], _ => rfl
  have bL1 := FL1.binds (ps := ["draws"]) fun _ _ _ _ _ _ us hl => match us, hl with | [_], _ => rfl
  have z : ∀ {x : Str}, PySem.W.nsIn K mainGlobals x = some none → mg x = none := fun e => PySem.W.mg_none_of X G e
  have T0 : Txt0 mg := ⟨⟨z zabs, z zint, z zrange, z zlen, z zlist, z zisinstance, z zbool, z zstr, z ztuple, z zmin, z zmax, z zall, ⟨_, PySem.W.mg_of X G gi0⟩, ⟨_, PySem.W.mg_of X G gi1⟩, ⟨_, PySem.W.mg_of X G gi2⟩, ⟨_, PySem.W.mg_of X G gi3⟩, ⟨_, PySem.W.mg_of X G gs0⟩, ⟨_, PySem.W.mg_of X G gs1⟩⟩⟩
  have T : Txt K mg C Er Em := ⟨T0, ⟨pgC, hdC, poC, saC⟩, n0, n1, n2, (PySem.W.mg_of X G aC), (PySem.W.mg_of X G aEr), kpEr, qEr, bEr, tyEr, (PySem.W.mg_of X G aEm), kpEm, qEm, bEm, tyEm⟩
  have TS : Std K mg ST := ⟨(PySem.W.mg_of X G aST), [o0, o1, o2, o3, o4, o5, o6, o7, o8, o9, o10, o11, o12, o13, o14, o15, o16], sqt lST (by show 17 ≤ sizeLine; decide) (.cons rfl (.cons rfl (.cons rfl (.cons rfl (.cons rfl (.cons rfl (.cons rfl (.cons rfl (.cons rfl (.cons rfl (.cons rfl (.cons rfl (.cons rfl (.cons rfl (.cons rfl (.cons rfl (.cons rfl .nil))))))))))))))))),
    (.cons ⟨q0, sqt lo0 (by show 3 ≤ sizeLine; decide) (.cons ⟨_, rfl⟩ (.cons rfl (.cons ⟨_, rfl⟩ .nil))), sqt lq0 (by show 2 ≤ sizeLine; decide) (.cons ⟨_, rfl⟩ (.cons ⟨_, rfl⟩ .nil))⟩
    (.cons ⟨q1, sqt lo1 (by show 3 ≤ sizeLine; decide) (.cons ⟨_, rfl⟩ (.cons rfl (.cons ⟨_, rfl⟩ .nil))), sqt lq1 (by show 2 ≤ sizeLine; decide) (.cons ⟨_, rfl⟩ (.cons ⟨_, rfl⟩ .nil))⟩
    (.cons ⟨q2, sqt lo2 (by show 3 ≤ sizeLine; decide) (.cons ⟨_, rfl⟩ (.cons rfl (.cons ⟨_, rfl⟩ .nil))), sqt lq2 (by show 2 ≤ sizeLine; decide) (.cons ⟨_, rfl⟩ (.cons ⟨_, rfl⟩ .nil))⟩
    (.cons ⟨q3, sqt lo3 (by show 3 ≤ sizeLine; decide) (.cons ⟨_, rfl⟩ (.cons rfl (.cons ⟨_, rfl⟩ .nil))), sqt lq3 (by show 2 ≤ sizeLine; decide) (.cons ⟨_, rfl⟩ (.cons ⟨_, rfl⟩ .nil))⟩
    (.cons ⟨q4, sqt lo4 (by show 3 ≤ sizeLine; decide) (.cons ⟨_, rfl⟩ (.cons rfl (.cons ⟨_, rfl⟩ .nil))), sqt lq4 (by show 2 ≤ sizeLine; decide) (.cons ⟨_, rfl⟩ (.cons ⟨_, rfl⟩ .nil))⟩
    (.cons ⟨q5, sqt lo5 (by show 3 ≤ sizeLine; decide) (.cons ⟨_, rfl⟩ (.cons rfl (.cons ⟨_, rfl⟩ .nil))), sqt lq5 (by show 2 ≤ sizeLine; decide) (.cons ⟨_, rfl⟩ (.cons ⟨_, rfl⟩ .nil))⟩
    (.cons ⟨q6, sqt lo6 (by show 3 ≤ sizeLine; decide) (.cons ⟨_, rfl⟩ (.cons rfl (.cons ⟨_, rfl⟩ .nil))), sqt lq6 (by show 2 ≤ sizeLine; decide) (.cons ⟨_, rfl⟩ (.cons ⟨_, rfl⟩ .nil))⟩
    (.cons ⟨q7, sqt lo7 (by show 3 ≤ sizeLine; decide) (.cons ⟨_, rfl⟩ (.cons rfl (.cons ⟨_, rfl⟩ .nil))), sqt lq7 (by show 2 ≤ sizeLine; decide) (.cons ⟨_, rfl⟩ (.cons ⟨_, rfl⟩ .nil))⟩
    (.cons ⟨q8, sqt lo8 (by show 3 ≤ sizeLine; decide) (.cons ⟨_, rfl⟩ (.cons rfl (.cons ⟨_, rfl⟩ .nil))), sqt lq8 (by show 1 ≤ sizeLine; decide) (.cons ⟨_, rfl⟩ .nil)⟩
    (.cons ⟨q9, sqt lo9 (by show 3 ≤ sizeLine; decide) (.cons ⟨_, rfl⟩ (.cons rfl (.cons ⟨_, rfl⟩ .nil))), sqt lq9 (by show 0 ≤ sizeLine; decide) .nil⟩
    (.cons ⟨q10, sqt lo10 (by show 3 ≤ sizeLine; decide) (.cons ⟨_, rfl⟩ (.cons rfl (.cons ⟨_, rfl⟩ .nil))), sqt lq10 (by show 1 ≤ sizeLine; decide) (.cons ⟨_, rfl⟩ .nil)⟩
    (.cons ⟨q11, sqt lo11 (by show 3 ≤ sizeLine; decide) (.cons ⟨_, rfl⟩ (.cons rfl (.cons ⟨_, rfl⟩ .nil))), sqt lq11 (by show 3 ≤ sizeLine; decide) (.cons ⟨_, rfl⟩ (.cons ⟨_, rfl⟩ (.cons ⟨_, rfl⟩ .nil)))⟩
    (.cons ⟨q12, sqt lo12 (by show 3 ≤ sizeLine; decide) (.cons ⟨_, rfl⟩ (.cons rfl (.cons ⟨_, rfl⟩ .nil))), sqt lq12 (by show 2 ≤ sizeLine; decide) (.cons ⟨_, rfl⟩ (.cons ⟨_, rfl⟩ .nil))⟩
    (.cons ⟨q13, sqt lo13 (by show 3 ≤ sizeLine; decide) (.cons ⟨_, rfl⟩ (.cons rfl (.cons ⟨_, rfl⟩ .nil))), sqt lq13 (by show 0 ≤ sizeLine; decide) .nil⟩
    (.cons ⟨q14, sqt lo14 (by show 3 ≤ sizeLine; decide) (.cons ⟨_, rfl⟩ (.cons rfl (.cons ⟨_, rfl⟩ .nil))), sqt lq14 (by show 0 ≤ sizeLine; decide) .nil⟩
    (.cons ⟨q15, sqt lo15 (by show 3 ≤ sizeLine; decide) (.cons ⟨_, rfl⟩ (.cons rfl (.cons ⟨_, rfl⟩ .nil))), sqt lq15 (by show 0 ≤ sizeLine; decide) .nil⟩
    (.cons ⟨q16, sqt lo16 (by show 3 ≤ sizeLine; decide) (.cons ⟨_, rfl⟩ (.cons rfl (.cons ⟨_, rfl⟩ .nil))), sqt lq16 (by show 0 ≤ sizeLine; decide) .nil⟩
    .nil)))))))))))))))))⟩
  have TI : Inp K mg SI := ⟨(PySem.W.mg_of X G aSI), sqt lSI (by show 3 ≤ sizeLine; decide) (.cons ⟨_, rfl⟩ (.cons ⟨_, rfl⟩ (.cons ⟨_, rfl⟩ .nil))), _, lSI, rfl, rfl⟩
  have TA : Sets K mg SA SO := ⟨(PySem.W.mg_of X G aSA), sqt lSA (by show 2 ≤ sizeLine; decide) (.cons ⟨_, rfl⟩ (.cons ⟨_, rfl⟩ .nil)), (PySem.W.mg_of X G aSO), sqt lSO (by show 2 ≤ sizeLine; decide) (.cons ⟨_, rfl⟩ (.cons ⟨_, rfl⟩ .nil))⟩
  have R : Ers K mg Ee Eo Em En Er Et := ⟨(PySem.W.mg_of X G aEe), (PySem.W.mg_of X G aEo), (PySem.W.mg_of X G aEm), (PySem.W.mg_of X G aEn), (PySem.W.mg_of X G aEr), (PySem.W.mg_of X G aEt), ⟨(kit_ne isEo tyEo sErEo uEr), (kit_ne isEm tyEm sErEm uEr), (kit_ne isEn tyEn sErEn uEr), kit_self, (kit_ne isEt tyEt sErEt uEr), (kit_tt isEe tyEe sErEe), ⟨x0Er, x1Er, bEr, x2Er, x3Er, x4, x5, x6Er⟩, PySem.W.exm_ref bEe dEe tyEe sErEe⟩, ⟨(kit_ne isEo tyEo sEmEo uEm), kit_self, (kit_ne isEn tyEn sEmEn uEm), (kit_ne isEr tyEr sEmEr uEm), (kit_ne isEt tyEt sEmEt uEm), (kit_tt isEe tyEe sEmEe), ⟨x0Em, x1Em, bEm, x2Em, x3Em, x4, x5, x6Em⟩, PySem.W.exm_ref bEe dEe tyEe sEmEe⟩⟩
  refine ⟨PySem.W.fnOf "law" "law" (defArgs s_law) (defBody s_law) (defScope s_law) .none kVL dcL pmL anL cdL ctL, [(xcNb, pNb), (xcWl, pWl), (xcCd, pCd)], spLaw K pNb pWl pCd, ?_, ?_, ?_, fun s v => .of_eq rfl, fun H a ns hl _ hT hS => ⟨a, ns, rfl, hS, sql_kp hS, hl, tabG (hT _ (.head _)), tabG (hT _ (.tail _ (.head _))), tabG (hT _ (.tail _ (.tail _ (.head _)))), fun _ => rfl⟩, fun base0 _ _ hB => ?_⟩
  · exact List.forall_mem_cons.mpr ⟨tNb.2, List.forall_mem_cons.mpr ⟨tWl.2, List.forall_mem_cons.mpr ⟨tCd.2, fun _ h => nomatch h⟩⟩⟩
  · exact List.forall_mem_cons.mpr ⟨zNb, List.forall_mem_cons.mpr ⟨zWl, List.forall_mem_cons.mpr ⟨zCd, fun _ h => nomatch h⟩⟩⟩
  · exact List.forall_mem_cons.mpr ⟨tNb.1, List.forall_mem_cons.mpr ⟨tWl.1, List.forall_mem_cons.mpr ⟨tCd.1, fun _ h => nomatch h⟩⟩⟩
  have tbNb := tabB (hB _ (.head _))
  have tbWl := tabB (hB _ (.tail _ (.head _)))
  have tbCd := tabB (hB _ (.tail _ (.tail _ (.head _))))
  have GNu := ok_is_number FNu T0 (P := l.prog) (w := w) (base := base0)
  have GLi := ok_int FLi T0 (P := l.prog) (w := w) (base := base0)
  have GLo := ok_open FLo T0 (P := l.prog) (w := w) (base := base0)
  have GLm := ok_mixed FLm T0 (P := l.prog) (w := w) (base := base0)
  have GLd := ok_draw FLd T0 GLm FLm bLm (PySem.W.mg_of X G aLm)
  have GNl := ok_numeral FNl T0 GNu FNu bNu (PySem.W.mg_of X G aNu)
  have GNb := ok_number FNb tbNb T0 GNl FNl bNl (PySem.W.mg_of X G aNl)
  have GKi := ok_kind (c := xcNb) FKi T0 TS GNb FNb.fun bNb (PySem.W.mg_of X G aNb)
  have GWl := ok_world FWl tbWl T0 TI GNu FNu bNu (PySem.W.mg_of X G aNu)
  have GWo := ok_worked FWo T0 (P := l.prog) (w := w) (base := base0)
  have GMa := ok_made FMa T0 TI GNb FNb.fun bNb (PySem.W.mg_of X G aNb) GWo FWo bWo (PySem.W.mg_of X G aWo)
  have GLw := ok_work FLw T0 (P := l.prog) (w := w) (base := base0)
  have GLk := ok_lkind FLk T0 (P := l.prog) (w := w) (base := base0)
  have GIn := ok_ins FIn T0 TS TA GNu FNu bNu (PySem.W.mg_of X G aNu) GKi FKi bKi (PySem.W.mg_of X G aKi)
  have GCd := ok_code FCd tbCd T0 GIn FIn bIn (PySem.W.mg_of X G aIn)
  have GI := ok_init FI T (P := l.prog) (w := w) (base := base0)
  have GPu := ok_put FPu T (P := l.prog) (w := w) (base := base0)
  have GTa := ok_take FTa T (P := l.prog) (w := w) (base := base0)
  have GMv := ok_move FMv T GPu bPu ⟨aPu, iPu, kPu⟩
  have GTr := ok_tried FTr T TS ⟨mkC, aI, iI, kcC⟩ GI bI GKi FKi bKi (PySem.W.mg_of X G aKi) GTa bTa ⟨aTa, iTa, kTa⟩ GPu bPu ⟨aPu, iPu, kPu⟩ GMv bMv ⟨aMv, iMv, kMv⟩
  have GHe := ok_height FHe T GTr FTr bTr (PySem.W.mg_of X G aTr)
  have GSl := ok_slots FSl T GTr FTr bTr (PySem.W.mg_of X G aTr)
  have GLe := ok_left FLe T GTr FTr bTr (PySem.W.mg_of X G aTr)
  have GRu := ok_run FRu T TS ⟨mkC, aI, iI, kcC⟩ GI bI GKi FKi bKi (PySem.W.mg_of X G aKi) GTa bTa ⟨aTa, iTa, kTa⟩ GPu bPu ⟨aPu, iPu, kPu⟩ GMv bMv ⟨aMv, iMv, kMv⟩ GWl FWl.fun bWl (PySem.W.mg_of X G aWl) GMa FMa bMa (PySem.W.mg_of X G aMa)
  have GLr := ok_lrun FLr T0 GLk FLk bLk (PySem.W.mg_of X G aLk) GLw FLw bLw (PySem.W.mg_of X G aLw)
  have GR := ok_told_Refused FLt T0 R (P := l.prog) (w := w) (base := base0)
  have GM := ok_told_Malformed FLt T0 R (P := l.prog) (w := w) (base := base0)
  have GL1 := ok_one FL1 T0 GLd FLd bLd (PySem.W.mg_of X G aLd)
  have GLa := ok_asked FLa T R GLe FLe bLe (PySem.W.mg_of X G aLe) GRu FRu bRu (PySem.W.mg_of X G aRu) GHe FHe bHe (PySem.W.mg_of X G aHe) GSl FSl bSl (PySem.W.mg_of X G aSl) GR GM kLt bLt (PySem.W.mg_of X G aLt)
  exact ok_law FL T0 GLo FLo bLo (PySem.W.mg_of X G aLo) GLd FLd bLd (PySem.W.mg_of X G aLd) GL1 FL1 bL1 (PySem.W.mg_of X G aL1) GLr FLr bLr (PySem.W.mg_of X G aLr) GLa FLa bLa (PySem.W.mg_of X G aLa) GCd FCd.fun bCd (PySem.W.mg_of X G aCd) GLi FLi bLi (PySem.W.mg_of X G aLi)
/-- the walk: F has the top, so that the tables can be found empty -/
theorem walk {l : PySem.W.OpenLaw} {q : Program} {loose : List Str} {XP : (Str → Option Value) → Heap → Prop} {YP : World → Heap → Prop} {d : DefRec} {K : Params → PySem.W.Frag} (hn : l.most = some 63) (hdf : d.params.defaults = [])
    (hY : ∀ (w : World) (h : Heap), YP w h → (K w.params).In h)
    (F : ∀ (w : World) (mg mb : Str → Option Value) (fa : Addr) (h : Heap) (mean : ExcName → Option Value), (K w.params).In h → PyProof.Rows.Top q (PySem.W.looseW q loose) mean mg mb h → mg d.name = some (.ref fa) → LamX.LawAtS l w (K w.params) CX0 8 63 "script" mg fa h) :
    PySem.W.WalkO q loose XP YP l.row.toRowW d [] (fun f vs => PySem.call f vs) := by
  refine Att.attach_callB hn hdf ?_
  intro w s0 s1 mg mb fa _ _ _ _ a vs ns Gr Yp _ _ _ named list whole many bits gens
  obtain ⟨fd, cs, sp, e1, e2, e3, e4, e5, e6⟩ := F w mg mb fa _ _ (hY w _ Yp) Gr.T named
  have room : Room 8 callerA := ⟨rfl, by decide, by decide⟩
  have fits : ns.length ≤ sizeLine := Nat.le_trans many (by decide)
  exact LamX.law_callTs (hY w _ Yp) Gr.T.g Gr.T.b Gr.T.builtins Gr.T.nolimit gens e1 e2 e3 Gr.T.bmain list whole fits room e6 e4 (fun H t hS => e5 H a ns many bits t hS) fun _ _ _ z => z
end K48
open PySem PySem.W PyProof.Rows
set_option maxRecDepth 100000 in
set_option maxHeartbeats 0 in
theorem PySem.Challenge.cw_equalsgrown_k48_whole_code_for_a_stack_holds : PySem.Challenge.rw_equalsgrown_k48_whole_code_for_a_stack.Holds := by
  w_on; o_law; k_head; (case hw => w_witness2)
  k_fill
  refine K48.walk (l := PySem.Challenge.rw_equalsgrown_k48_whole_code_for_a_stack) rfl rfl (fun w h Y => PySem.W.kIn_of Y) ?F
  case F =>
    intro w mg mb fa h mean KX T hmg
    have G := T.g
    refine' K48.all_mk KX G hmg ?aC ?aNu ?lNu ?cNu ?kNu ?aNl ?lNl ?cNl ?kNl ?aNb ?lNb ?cNb ?kNb ?wNb ?vNb ?zNb ?tNb ?aKi ?lKi ?cKi ?kKi ?aWl ?lWl ?cWl ?kWl ?wWl ?vWl ?zWl ?tWl ?aWo ?lWo ?cWo ?kWo ?aMa ?lMa ?cMa ?kMa ?aIn ?lIn ?cIn ?kIn ?aCd ?lCd ?cCd ?kCd ?wCd ?vCd ?zCd ?tCd ?aI ?iI ?lI ?cI ?kI ?aTa ?iTa ?lTa ?cTa ?kTa ?aPu ?iPu ?lPu ?cPu ?kPu ?aMv ?iMv ?lMv ?cMv ?kMv ?aLe ?lLe ?cLe ?kLe ?aHe ?lHe ?cHe ?kHe ?aSl ?lSl ?cSl ?kSl ?aTr ?lTr ?cTr ?kTr ?aRu ?lRu ?cRu ?kRu ?aLo ?lLo ?cLo ?kLo ?aLm ?lLm ?cLm ?kLm ?aLd ?lLd ?cLd ?kLd ?aLt ?lLt ?cLt ?kLt ?aLi ?lLi ?cLi ?kLi ?aLk ?lLk ?cLk ?kLk ?aLw ?lLw ?cLw ?kLw ?aLr ?lLr ?cLr ?kLr ?aLa ?lLa ?cLa ?kLa ?aL1 ?lL1 ?cL1 ?kL1 ?aL ?lL ?cL ?kL ?pgC ?hdC ?poC ?saC ?mkC ?kcC ?n0 ?n1 ?n2 ?zabs ?zint ?zrange ?zlen ?zlist ?zisinstance ?zbool ?zstr ?ztuple ?zmin ?zmax ?zall ?gi0 ?gi1 ?gi2 ?gi3 ?gs0 ?gs1 ?aST ?aSI ?aSA ?aSO ?lST ?lo0 ?lq0 ?lo1 ?lq1 ?lo2 ?lq2 ?lo3 ?lq3 ?lo4 ?lq4 ?lo5 ?lq5 ?lo6 ?lq6 ?lo7 ?lq7 ?lo8 ?lq8 ?lo9 ?lq9 ?lo10 ?lq10 ?lo11 ?lq11 ?lo12 ?lq12 ?lo13 ?lq13 ?lo14 ?lq14 ?lo15 ?lq15 ?lo16 ?lq16 ?lSI ?lSA ?lSO ?aEe ?aEo ?aEm ?aEn ?aEr ?aEt ?isEe ?tyEe ?isEo ?tyEo ?isEm ?tyEm ?isEn ?tyEn ?isEr ?tyEr ?isEt ?tyEt ?bEe ?dEe ?kpEr ?qEr ?bEr ?uEr ?sErEe ?sErEo ?sErEm ?sErEn ?sErEt ?x0Er ?x1Er ?x2Er ?x3Er ?x6Er ?kpEm ?qEm ?bEm ?uEm ?sEmEe ?sEmEo ?sEmEn ?sEmEr ?sEmEt ?x0Em ?x1Em ?x2Em ?x3Em ?x6Em ?x4 ?x5
    (case aC => k_is)
    (case aNu => k_is)
    (case lNu => k_is)
    (case cNu => k_is)
    (case kNu => k_is)
    (case aNl => k_is)
    (case lNl => k_is)
    (case cNl => k_is)
    (case kNl => k_is)
    (case aNb => k_is)
    (case lNb => k_is)
    (case cNb => k_is)
    (case kNb => k_is)
    (case wNb => k_is)
    (case vNb => rfl)
    (case zNb => kernel_rfl)
    (case tNb => exact PySem.W.tab_of (x := "number_of") T KX rfl (by kernel_rfl))
    (case aKi => k_is)
    (case lKi => k_is)
    (case cKi => k_is)
    (case kKi => k_is)
    (case aWl => k_is)
    (case lWl => k_is)
    (case cWl => k_is)
    (case kWl => k_is)
    (case wWl => k_is)
    (case vWl => rfl)
    (case zWl => kernel_rfl)
    (case tWl => exact PySem.W.tab_of (x := "is_world") T KX rfl (by kernel_rfl))
    (case aWo => k_is)
    (case lWo => k_is)
    (case cWo => k_is)
    (case kWo => k_is)
    (case aMa => k_is)
    (case lMa => k_is)
    (case cMa => k_is)
    (case kMa => k_is)
    (case aIn => k_is)
    (case lIn => k_is)
    (case cIn => k_is)
    (case kIn => k_is)
    (case aCd => k_is)
    (case lCd => k_is)
    (case cCd => k_is)
    (case kCd => k_is)
    (case wCd => k_is)
    (case vCd => rfl)
    (case zCd => kernel_rfl)
    (case tCd => exact PySem.W.tab_of (x := "is_code") T KX rfl (by kernel_rfl))
    (case aI => k_is)
    (case iI => k_is)
    (case lI => k_is)
    (case cI => k_is)
    (case kI => k_is)
    (case aTa => k_is)
    (case iTa => k_is)
    (case lTa => k_is)
    (case cTa => k_is)
    (case kTa => k_is)
    (case aPu => k_is)
    (case iPu => k_is)
    (case lPu => k_is)
    (case cPu => k_is)
    (case kPu => k_is)
    (case aMv => k_is)
    (case iMv => k_is)
    (case lMv => k_is)
    (case cMv => k_is)
    (case kMv => k_is)
    (case aLe => k_is)
    (case lLe => k_is)
    (case cLe => k_is)
    (case kLe => k_is)
    (case aHe => k_is)
    (case lHe => k_is)
    (case cHe => k_is)
    (case kHe => k_is)
    (case aSl => k_is)
    (case lSl => k_is)
    (case cSl => k_is)
    (case kSl => k_is)
    (case aTr => k_is)
    (case lTr => k_is)
    (case cTr => k_is)
    (case kTr => k_is)
    (case aRu => k_is)
    (case lRu => k_is)
    (case cRu => k_is)
    (case kRu => k_is)
    (case aLo => k_is)
    (case lLo => k_is)
    (case cLo => k_is)
    (case kLo => k_is)
    (case aLm => k_is)
    (case lLm => k_is)
    (case cLm => k_is)
    (case kLm => k_is)
    (case aLd => k_is)
    (case lLd => k_is)
    (case cLd => k_is)
    (case kLd => k_is)
    (case aLt => k_is)
    (case lLt => k_is)
    (case cLt => k_is)
    (case kLt => k_is)
    (case aLi => k_is)
    (case lLi => k_is)
    (case cLi => k_is)
    (case kLi => k_is)
    (case aLk => k_is)
    (case lLk => k_is)
    (case cLk => k_is)
    (case kLk => k_is)
    (case aLw => k_is)
    (case lLw => k_is)
    (case cLw => k_is)
    (case kLw => k_is)
    (case aLr => k_is)
    (case lLr => k_is)
    (case cLr => k_is)
    (case kLr => k_is)
    (case aLa => k_is)
    (case lLa => k_is)
    (case cLa => k_is)
    (case kLa => k_is)
    (case aL1 => k_is)
    (case lL1 => k_is)
    (case cL1 => k_is)
    (case kL1 => k_is)
    (case aL => k_is)
    (case lL => k_is)
    (case cL => k_is)
    (case kL => k_is)
    (case pgC => k_is)
    (case hdC => k_is)
    (case poC => k_is)
    (case saC => k_is)
    (case mkC => k_is)
    (case kcC => k_is)
    (case n0 => k_is)
    (case n1 => k_is)
    (case n2 => k_is)
    (case zabs => k_is)
    (case zint => k_is)
    (case zrange => k_is)
    (case zlen => k_is)
    (case zlist => k_is)
    (case zisinstance => k_is)
    (case zbool => k_is)
    (case zstr => k_is)
    (case ztuple => k_is)
    (case zmin => k_is)
    (case zmax => k_is)
    (case zall => k_is)
    (case gi0 => k_is)
    (case gi1 => k_is)
    (case gi2 => k_is)
    (case gi3 => k_is)
    (case gs0 => k_is)
    (case gs1 => k_is)
    (case aST => k_is)
    (case aSI => k_is)
    (case aSA => k_is)
    (case aSO => k_is)
    (case lST => k_is)
    (case lo0 => k_is)
    (case lq0 => k_is)
    (case lo1 => k_is)
    (case lq1 => k_is)
    (case lo2 => k_is)
    (case lq2 => k_is)
    (case lo3 => k_is)
    (case lq3 => k_is)
    (case lo4 => k_is)
    (case lq4 => k_is)
    (case lo5 => k_is)
    (case lq5 => k_is)
    (case lo6 => k_is)
    (case lq6 => k_is)
    (case lo7 => k_is)
    (case lq7 => k_is)
    (case lo8 => k_is)
    (case lq8 => k_is)
    (case lo9 => k_is)
    (case lq9 => k_is)
    (case lo10 => k_is)
    (case lq10 => k_is)
    (case lo11 => k_is)
    (case lq11 => k_is)
    (case lo12 => k_is)
    (case lq12 => k_is)
    (case lo13 => k_is)
    (case lq13 => k_is)
    (case lo14 => k_is)
    (case lq14 => k_is)
    (case lo15 => k_is)
    (case lq15 => k_is)
    (case lo16 => k_is)
    (case lq16 => k_is)
    (case lSI => k_is)
    (case lSA => k_is)
    (case lSO => k_is)
    (case aEe => k_is)
    (case aEo => k_is)
    (case aEm => k_is)
    (case aEn => k_is)
    (case aEr => k_is)
    (case aEt => k_is)
    (case isEe => k_is)
    (case tyEe => k_is)
    (case isEo => k_is)
    (case tyEo => k_is)
    (case isEm => k_is)
    (case tyEm => k_is)
    (case isEn => k_is)
    (case tyEn => k_is)
    (case isEr => k_is)
    (case tyEr => k_is)
    (case isEt => k_is)
    (case tyEt => k_is)
    (case bEe => k_is)
    (case dEe => k_is)
    (case kpEr => k_is)
    (case qEr => k_exc)
    (case bEr => k_is)
    (case uEr => first | rfl | k_is)
    (case sErEe => k_is)
    (case sErEo => k_is)
    (case sErEm => k_is)
    (case sErEn => k_is)
    (case sErEt => k_is)
    (case x0Er => k_is)
    (case x1Er => k_is)
    (case x2Er => k_is)
    (case x3Er => k_is)
    (case x6Er => k_is)
    (case kpEm => k_is)
    (case qEm => k_exc)
    (case bEm => k_is)
    (case uEm => first | rfl | k_is)
    (case sEmEe => k_is)
    (case sEmEo => k_is)
    (case sEmEn => k_is)
    (case sEmEr => k_is)
    (case sEmEt => k_is)
    (case x0Em => k_is)
    (case x1Em => k_is)
    (case x2Em => k_is)
    (case x3Em => k_is)
    (case x6Em => k_is)
    (case x4 => k_is)
    (case x5 => k_is)
#print axioms PySem.Challenge.cw_equalsgrown_k48_whole_code_for_a_stack_holds
