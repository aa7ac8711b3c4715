import PyProof.Rows.All
import Wide.All
import OpenK.AllK
import Wide.FinOn
import HandS.ForMost
import HandS.AnyAll
import HandS.GenList
import HandS.SortKw
import HandS.TupSets
import KE.SortData
import HandS.Conv
import HandS.NamedTupSort
import HandS.TupMul
import HandS.Deep
import HandS.IsInst
import KE.DataMinMax
import PyProof.P3In
import HandS.Dict
import KE.KDictDisplayH
import HandS.Lambda
import KE.SortKeyHeap
import KE.KSortKey
import HandS.Star
import HandS.TupAny
import HandS.Wide
import HandS.Flow
import HandS.Defaults
import HandS.HeadWalk
import HandS.TupLe
import KE.KNestM
import HandS.EndTab
import HandS.EndBits
import HandS.Head0
import HandS.Head1
import HandS.Head2
import HandS.HeadEnd
import HandS.HeadHook1
import HandS.HeadHook2
import PySem.Challenge.RW_foescome_k66_across_net_rows
section FoGx
set_option Elab.async false
set_option linter.all false
set_option maxRecDepth 100000
set_option maxHeartbeats 4000000
/-! any, all, sum of a generator expression (elt for target in iter) whose element leaves the abstract heap: the element any judgement, calls included. -/
namespace Gx
open PySem PySem.Spec PyProof.Rows L2 GenW

/-- the generator expression's own scope: no cells of its own -/
structure GS (scope : Scope) : Prop where
  co : scope.isCoroutine = false
  cell : ∀ y ∈ scope.names, y.2 ≠ .cell
  dot : scope.names.lookup (".0" : Str) = some NameKind.local
def gsB (scope : Scope) : Bool := !scope.isCoroutine && (scope.names.all fun y => !decide (y.2 = .cell)) && decide (scope.names.lookup (".0" : Str) = some NameKind.local)
theorem gs_by {scope : Scope} (h : gsB scope = true) : GS scope := by
  unfold gsB at h
  simp only [Bool.and_eq_true, Bool.not_eq_true', decide_eq_true_eq, decide_eq_false_iff_not, List.all_eq_true] at h
  obtain ⟨⟨h1, h2⟩, h3⟩ := h
  exact ⟨h1, h2, h3⟩

/-- the context of the generator's body: made at s (abstract heap H) in X, resumed at A; its iterator's objects at fp, its own object in pn -/
abbrev gcx (X : Cx) (A : Around) (s : Shared) (H : Hp) (env : Env) (fp : List Addr) (pn : List (Addr × Obj)) : Cx :=
  { X with A := A.deeper env, s_0 := s, H_0 := H, env := env, outer := X.stack, stack := env :: X.stack, ex := fp, fn := fun _ => false, calm := true, pn := pn, xe := fun _ _ => False }

section
variable {X : Cx} {pins : List (Addr × Obj)} {σ : L2.St} {H : Hp} {s : Shared}
theorem inv_gens {g' : Array GenState} (I : Inv X pins σ H s) (h : AllBare g') : Inv X pins σ H { s with gens := g' } := ⟨I.ok, I.os, h, I.base, I.loc, I.cell, I.free, I.freeC, I.pin, I.hok, I.len⟩

theorem gen_start {A : Around} {scope : Scope} {own : List (Str × Nat)} {fp : List Addr} {code : Value} {h5 : Heap} {gs : Array GenState} {tk : Nat} {pn : List (Addr × Obj)} {m : Str → Option Value}
    (I : Inv X pins σ H s) (ok : BlkOk X.N X.env.scope scope own) (S : GS scope) (hN : X.N.Nodup) (hfp : ∀ b ∈ fp, FpOk X pins H b ∧ b < s.heap.objs.size) (hA : A.handled = none) (hAf : A.frames = some X.stack)
    (hns : h5.Ns s.heap.objs.size m) (kp : ∀ b o, s.heap.get? b = some o → h5.get? b = some o) (hbare : AllBare gs)
    (hpn : ∀ p ∈ pn, h5.get? p.1 = some p.2 ∧ s.heap.objs.size < p.1 ∧ ∀ v, p.2.data ≠ .cell v) :
    Inv (gcx X A s H (genEnv scope (cloFrom X.env.cells scope.names []) s.heap.objs.size code builtinsNs X.env) fp pn) [] (wipe σ (own.map (·.2))) H { s with heap := h5, gens := gs, toks := tk } := by
  have hfree : ∀ y ∈ scope.names, y.2 = .free → ∃ c, X.env.cells.lookup y.1 = some c := fun y hy e => by
    rcases ok.free y hy e with k | k
    · exact I.ok.has _ (.inl k)
    · exact I.ok.has _ (.inr k)
  have cm : ∀ {y c}, (cloFrom X.env.cells scope.names []).lookup y = some c → X.env.cells.lookup y = some c := fun {y c} e => by
    rcases cloFrom_mem (PySem.mem_of_lookup e) with hm | ⟨h1, h2⟩
    · cases hm
    · obtain ⟨c1, hc⟩ := hfree _ h1 rfl
      have hc : X.env.cells.lookup y = some c1 := hc
      have e2 : c = c1 := by
        rw [h2, hc] <;> rfl
      rw [e2]
      exact hc
  have look : ∀ {y}, scope.names.lookup y = some .free → ∃ c, (cloFrom X.env.cells scope.names []).lookup y = some c := fun {y} hl => by
    have hy : (y, NameKind.free) ∈ scope.names := PySem.mem_of_lookup hl
    exact mem_lookup (cloFrom_has (cells := X.env.cells) (acc := []) hy)
  refine ⟨⟨I.ok.mod, ok.kind, I.ok.glob, rfl, Nat.le_refl _, fun y z c e1 e2 => I.ok.inj y z c (cm e1) (cm e2), fun y hy => ?_, fun y c z _ => ?_, fun _ => hA, Around.frames_deeper hAf, .inr ⟨rfl, rfl⟩, fun b hb => ⟨?_, fun y c e z => ?_⟩, I.bs, Nat.le_trans I.ok.bsz I.sz, fun b o e hb => ?_, fun b hb z => ?_, I.stack, I.stkFree⟩,
    rfl, hbare, Un.kept kp, ⟨m, hns, fun i y v e1 e2 e3 => ?_⟩, fun y c e => ?_, I.hok.fresh (Nat.le_refl _), fun y c e => ?_, fun p hp => ?_, I.hok.kept kp, by rw [wipe_length]; exact I.len⟩
  · have hy : scope.names.lookup y = some .cell ∨ scope.names.lookup y = some .free := hy
    rcases hy with hy | hy
    · exact absurd rfl (S.cell _ (PySem.mem_of_lookup hy))
    · exact look hy
  · have z : false = true := z
    cases z
  · show b ≠ s.heap.objs.size
    exact Nat.ne_of_lt (hfp b hb).2
  · exact (hfp b hb).1.2.2.2.2.1 y c (cm e) z
  · rcases (hfp b hb).1.2.2.2.1 with z | z
    · exact I.ok.noex b o e z
    · exact absurd (Nat.lt_of_lt_of_le (Heap.lt_size e) (Nat.le_trans I.ok.bsz z)) (Nat.lt_irrefl _)
  · rcases List.mem_cons.mp (I.stkSub b z) with z | z
    · exact (hfp b hb).1.2.1 z
    · exact (hfp b hb).1.2.2.1 z
  · obtain ⟨e2, hne⟩ := wipe_some e2
    have e3 : Vis scope y := e3
    have no : ∀ k, scope.names.lookup y = some k → ¬ (k = .local ∨ k = .cell) := fun k e hh => by
      rcases ok.own _ (PySem.mem_of_lookup e) hh with e' | e'
      · obtain ⟨p, hp, hpy⟩ := List.mem_map.mp e'
        have e3 := ok.ix p hp
        have : p.1 = y := hpy
        rw [this] at e3
        exact hne (List.mem_map.mpr ⟨p, hp, nodup_ix hN e3 e1⟩)
      · exact e' (List.mem_of_getElem? e1)
    rcases e3 with k | k | k
    · exact absurd (.inl rfl) (no _ k)
    · exact absurd (.inr rfl) (no _ k)
    · obtain ⟨m', hn', hl⟩ := I.loc
      have hvis : Vis X.env.scope y := (ok.free _ (PySem.mem_of_lookup k) rfl).elim (fun k => .inr (.inl k)) (fun k => .inr (.inr k))
      obtain ⟨w', r, q⟩ := hl i y v e1 e2 hvis
      obtain ⟨c2, h2⟩ := look k
      refine ⟨w', r, .inr ⟨.inr k, c2, h2, ?_⟩⟩
      have c1 := cm h2
      rcases q with ⟨k', _⟩ | ⟨_, c3, e', z⟩
      · have k' : X.env.scope.names.lookup y = some .local := k'
        rcases ok.free _ (PySem.mem_of_lookup k) rfl with k2 | k2 <;> rw [show X.env.scope.names.lookup y = _ from k2] at k' <;> cases k'
      · rw [c1] at e'
        cases e'
        exact z.keeps kp
  · obtain ⟨w', z⟩ := I.cell y c (cm e)
    exact ⟨w', z.keeps kp⟩
  · exact I.freeC y c (cm e)
  · rcases List.mem_append.mp hp with hp | hp
    · obtain ⟨h1, h2, h3⟩ := hpn p hp
      refine ⟨h1, I.hok.fresh (Nat.le_of_lt h2), Nat.ne_of_gt h2, fun z => ?_, h3⟩
      rcases List.mem_cons.mp (I.stkSub p.1 z) with z | z
      · have hl := I.lt
        rw [← z] at hl
        exact Nat.lt_irrefl _ (Nat.lt_trans hl h2)
      · exact I.nofs (Nat.le_of_lt h2) z
    · exact absurd hp (by simp)
end

/-! ### the body's loop -/
theorem over_gen {A : Around} {elt : Expr} {gens : List Comprehension} {scope : Scope} {pos : Pos} {it acc : Value} {env : Env} :
    A.over (.compLoop (.GeneratorExp elt gens scope pos) 0 it acc env) [] = A.deeper env := by
  first
    | rfl
    | (obtain ⟨hd, d, fr, gs, u⟩ := A; simp [Around.over, Around.deeper, marksOver, frameCount, unitsOf, envsOf, guardsOf, pushEnvs, pushGuards, Code.envs, Code.env?, Code.isFrame, Code.guards, Code.isGuard, Code.weight, Code.frames, Code.isCreation, Code.isCaller, Code.cUnits])
theorem over_gen0 {A : Around} {elt : Expr} {gens : List Comprehension} {scope : Scope} {pos : Pos} {it acc : Value} {env : Env} :
    A.over (.compStart (.GeneratorExp elt gens scope pos) 0 it acc env) [] = A.deeper env := by
  first
    | rfl
    | (obtain ⟨hd, d, fr, gs, u⟩ := A; simp [Around.over, Around.deeper, marksOver, frameCount, unitsOf, envsOf, guardsOf, pushEnvs, pushGuards, Code.envs, Code.env?, Code.isFrame, Code.guards, Code.isGuard, Code.weight, Code.frames, Code.isCreation, Code.isCaller, Code.cUnits])

/-- an item is out; the consumer's objects at Sl stand as they were when it woke the generator -/
def gY (G : Cx) (Sl : List Addr) (tn : Nat → Heap → Prop) (σw : L2.St) (H : Hp) (n : Nat) (F : Nat → V) : Protocol := fun m s₀ v s kap =>
  Inv G (pinsAt Sl s₀.heap) σw H s ∧ RelV (F (n - 1 - m)) v ∧ tn (n - m) s.heap ∧ ∀ s'', Inv G (pinsAt Sl s''.heap) σw H s'' → tn (n - m) s''.heap → kap (.send .none) s''
def gR (G : Cx) (Sl : List Addr) (σw : L2.St) (H : Hp) : GenEnd := fun m s₀ r s₁ => r = .ok .next ∧ (m = 0 ∧ Inv G (pinsAt Sl s₀.heap) σw H s₁)

/-- what each turn of the generator does: item i of n is F i, the abstract heap stays -/
structure Turns (J : It) (g : TG) (te : TE) (vs : List Nat) (σw : L2.St) (H : Hp) (n : Nat) (F : Nat → V) : Prop where
  stop : J.stop n H
  go : ∀ i, i < n → J.go i H
  turn : ∀ i x H', i < n → J.yld i H x H' → H' = H ∧ g x σw H fun σ2 H2 => wipe σ2 vs = σw ∧ te σ2 H2 fun v H3 => H3 = H ∧ v = F i

section
variable {G : Cx} {A : Around} {elt tg iter : Expr} {scope : Scope} {pos : Pos} {it : Addr} {fp : List Addr} {tn : Nat → Heap → Prop} {J : It} {g : TG} {te : TE} {vs : List Nat} {σw : L2.St} {H : Hp} {n : Nat} {F : Nat → V} {Sl : List Addr}
theorem stat {pins : List (Addr × Obj)} {H' : Hp} {s' : Shared} (hpf : ∀ p ∈ G.pn ++ pins, p.1 ∉ fp) (hex : G.ex = fp) (I' : Inv G pins σw H' s') (hn : ∀ b ∈ fp, H' b = none) : ∀ b ∈ fp, FpOk G pins H' b := fun b hb =>
  ⟨hn b hb, (I'.ok.exf b (by rw [hex]; exact hb)).1, I'.ok.exfs b (by rw [hex]; exact hb), .inl (by rw [hex]; exact hb), fun x c e => (I'.ok.exf b (by rw [hex]; exact hb)).2 x c e, fun p hp z => hpf p hp (z ▸ hb)⟩
theorem pinsAt_fst {Sl : List Addr} {h : Heap} {p : Addr × Obj} (hp : p ∈ pinsAt Sl h) : p.1 ∈ Sl := (of_pinsAt hp).1

theorem seg_loop (hA : G.A = A.deeper G.env) (hc : G.calm = true) (hxe : G.xe = fun _ _ => False) (hex : G.ex = fp) (hco : G.env.scope.isCoroutine = false) (T : Turn G.prog G.w G.K tg J fp it tn) (hg : PG G tg g) (he : PE G elt te) (hT : Turns J g te vs σw H n F)
    (hfp : ∀ b ∈ fp, H b = none) (hpn : ∀ p ∈ G.pn, p.1 ∉ fp) (hSl : ∀ b ∈ Sl, b ∉ fp) (hw : ∀ i, i ∈ vs → ∀ v, σw[i]? ≠ some (some v)) :
    ∀ (k i : Nat) (s₀ s : Shared), n - i = k → i ≤ n → Inv G (pinsAt Sl s₀.heap) σw H s → tn i s.heap →
      Seg (model G.prog G.w) A (gR G Sl σw H) (gY G Sl tn σw H n F) k s₀ (.compLoop (.GeneratorExp elt [⟨tg, iter, [], 0⟩] scope pos) 0 (.ref it) .none G.env)
        ((model G.prog G.w).den (.compLoop (.GeneratorExp elt [⟨tg, iter, [], 0⟩] scope pos) 0 (.ref it) .none G.env)) [] s := by
  have ov : A.over (.compLoop (.GeneratorExp elt [⟨tg, iter, [], 0⟩] scope pos) 0 (.ref it) .none G.env) [] = G.A := over_gen.trans hA.symm
  have hpf : ∀ {h : Heap} (p : Addr × Obj), p ∈ G.pn ++ pinsAt Sl h → p.1 ∉ fp := fun p hp => (List.mem_append.mp hp).elim (hpn p) fun z => hSl _ (pinsAt_fst z)
  intro k
  induction k with
  | zero =>
    intro i s₀ s hk hi I st
    have hin : i = n := by omega
    subst hin
    show Seg _ A _ _ _ s₀ _ ((compTurn (.GeneratorExp elt [⟨tg, iter, [], 0⟩] scope pos) 0 (.ref it) .none G.env).onRaise (leaving G.env)) [] s
    rw [compTurn_gen, Sem.onRaise_eq_wrap]
    refine seg_bind_wrap (wpAny_standAt ?_)
    refine seg_bind_wrap ?_
    rw [ov]
    refine wpAny_mono (T.done G rfl rfl rfl hc i _ s _ H (fun _ _ => False) I (stat hpf hex I hfp) st hT.stop) (fun r s6 ⟨hr, I6⟩ => ?_) fun _ _ z => False.elim z
    subst hr
    exact seg_end (.ok .next) ⟨rfl, rfl, I6⟩
  | succ k ih =>
    intro i s₀ s hk hi I st
    have hlt : i < n := by omega
    show Seg _ A _ _ _ s₀ _ ((compTurn (.GeneratorExp elt [⟨tg, iter, [], 0⟩] scope pos) 0 (.ref it) .none G.env).onRaise (leaving G.env)) [] s
    rw [compTurn_gen, Sem.onRaise_eq_wrap]
    refine seg_bind_wrap (wpAny_standAt ?_)
    refine seg_bind_wrap ?_
    rw [ov]
    refine wpAny_mono (T.item G rfl rfl rfl hc i _ s _ H (fun _ _ => False) I (stat hpf hex I hfp) st (hT.go i hlt)) (fun r s1 ⟨u, hr, h1⟩ => ?_) fun _ _ z => False.elim z
    subst hr
    refine seg_bind_wrap ?_
    rw [ov]
    refine wpAny_mono h1 (fun _ s2 ⟨x, H', I2, rx, hy, st2, hn2⟩ => ?_) fun _ _ z => False.elim z
    obtain ⟨eH, ht⟩ := hT.turn i x H' hlt hy
    subst eH
    have I2' := I2.pinned (stat hpf hex I2 hn2) (T.obj _ _ st2)
    refine seg_bind_wrap ?_
    rw [ov]
    refine wpAny_mono (hg.run _ s2 σw H' x u _ I2' rx ht) (fun _ s3 ⟨σ3, H3, I3, hw3, q3⟩ => ?_) fun _ _ z => by rw [hxe] at z; exact False.elim z
    refine seg_bind_wrap ?_
    simp only [List.forIn_nil]
    refine wpAny_pure ?_
    simp only [if_true]
    have hyo : ∀ v, yieldOut G.env v = yieldValue v := fun v => by simp only [yieldOut, hco, Bool.false_eq_true, if_false]
    simp only [hyo]
    rw [Sem.bind_eq_wrap', Sem.bind_eq_wrap', Sem.wrap_wrap, Sem.wrap_wrap]
    refine seg_wrap ?_
    rw [ov]
    refine wpAny_mono (he.run _ s3 σ3 H3 _ I3 q3) (fun y s4 ⟨v, H4, I4, rv, e4, ev⟩ => ?_) fun _ _ z => by rw [hxe] at z; exact False.elim z
    subst e4 ev
    have pin4 : ∀ b ∈ fp, ∀ o, s2.heap.get? b = some o → s4.heap.get? b = some o := fun b hb o e =>
      (I4.pin (b, o) (List.mem_append_right _ (List.mem_append_right _ (mem_pinsAt hb e)))).1
    have st4 : tn (i + 1) s4.heap := T.keep _ _ _ st2 fun b hb o e => pin4 b hb o e
    have I5 : Inv G (pinsAt Sl s₀.heap) σw H4 s4 := by
      refine (I4.unpinned).weak ?_ fun j v e => ?_
      · rw [← hw3, wipe_length]
      · rw [← hw3] at e
        exact (wipe_some e).1
    have e1 : n - 1 - k = i := by omega
    have e2 : n - k = i + 1 := by omega
    refine seg_at (seg_yield rfl rfl rfl ⟨I5, by rw [e1]; exact rv, by rw [e2]; exact st4, fun s'' I'' st'' => ?_⟩)
    rw [e2] at st''
    exact seg_again rfl (ih (i + 1) s'' s'' (by omega) hlt I'' st'')

theorem seg_start (hA : G.A = A.deeper G.env) (hc : G.calm = true) (hxe : G.xe = fun _ _ => False) (hex : G.ex = fp) (hco : G.env.scope.isCoroutine = false) (T : Turn G.prog G.w G.K tg J fp it tn) (hg : PG G tg g) (he : PE G elt te) (hT : Turns J g te vs σw H n F)
    (hfp : ∀ b ∈ fp, H b = none) (hpn : ∀ p ∈ G.pn, p.1 ∉ fp) (hSl : ∀ b ∈ Sl, b ∉ fp) (hw : ∀ i, i ∈ vs → ∀ v, σw[i]? ≠ some (some v)) (s₀ s : Shared) (I : Inv G (pinsAt Sl s₀.heap) σw H s) (st : tn 0 s.heap) :
    Seg (model G.prog G.w) A (gR G Sl σw H) (gY G Sl tn σw H n F) n s₀ (.compStart (.GeneratorExp elt [⟨tg, iter, [], 0⟩] scope pos) 0 (.ref it) .none G.env)
      ((model G.prog G.w).den (.compStart (.GeneratorExp elt [⟨tg, iter, [], 0⟩] scope pos) 0 (.ref it) .none G.env)) [] s := by
  have loop := seg_loop (iter := iter) (scope := scope) (pos := pos) hA hc hxe hex hco T hg he hT hfp hpn hSl hw n 0 s₀ s (Nat.sub_zero _) (Nat.zero_le _) I st
  show Seg _ A _ _ _ s₀ _ ((compStart (.GeneratorExp elt [⟨tg, iter, [], 0⟩] scope pos) 0 (.ref it) .none G.env).onRaise (leaving G.env)) [] s
  unfold compStart
  rw [Sem.onRaise_eq_wrap]
  show Seg _ A _ _ _ s₀ _ ((ask >>= _).wrap _ _ _ _) [] s
  refine seg_bind_wrap (wpAny_askSetting ?_)
  split
  · exact seg_again rfl loop
  · first
      | exact seg_bind_wrap (wpAny_rule (seg_bind_wrap (wpAny_standAt (seg_bind_wrap (T.self _ 0 s _ _ st (seg_again rfl loop))))))
      | (refine seg_bind_wrap (wpAny_rule ?_); show Seg _ A _ _ _ s₀ _ ((standAt iter.pos >>= _).wrap _ _ _ _) [] s; exact seg_bind_wrap (wpAny_standAt (seg_bind_wrap (T.self _ 0 s _ _ st (seg_again rfl loop)))))
end
end Gx

end FoGx
section FoGy
set_option Elab.async false
set_option linter.all false
set_option maxRecDepth 100000
set_option maxHeartbeats 4000000
namespace Gx
open PySem PySem.Spec PyProof.Rows L2 GenW

theorem pinsAt_eq {h h' : Heap} : ∀ {Sl : List Addr}, (∀ b ∈ Sl, ∃ o, h.get? b = some o ∧ h'.get? b = some o) → pinsAt Sl h' = pinsAt Sl h
  | [], _ => rfl
  | b :: r, H => by
    obtain ⟨o, e1, e2⟩ := H b List.mem_cons_self
    have ih := pinsAt_eq (h := h) (h' := h') (Sl := r) fun c hc => H c (List.mem_cons_of_mem _ hc)
    unfold pinsAt at ih ⊢
    rw [List.filterMap_cons, List.filterMap_cons, e1, e2]
    simp only [Option.map_some]
    rw [ih]

/-- the generator a (number gn) stands before item j -/
structure GenI (G : Cx) (A : Around) (Sl : List Addr) (tn : Nat → Heap → Prop) (σw : L2.St) (H : Hp) (n : Nat) (F : Nat → V) (a : Addr) (gn : Nat) (j : Nat) (s : Shared) : Prop where
  inv : Inv G (pinsAt Sl s.heap) σw H s
  st : tn j s.heap
  sl : ∀ b ∈ Sl, ∃ o, s.heap.get? b = some o
  run : ∃ gs, s.gens[gn]? = some gs ∧ ∀ s'', Inv G (pinsAt Sl s''.heap) σw H s'' → tn j s''.heap → gs.Goes (model G.prog G.w) A.in1 (gR G Sl σw H) (gY G Sl tn σw H n F) (n - j) (.send .none) s''

section
variable {G : Cx} {A : Around} {Sl : List Addr} {tn : Nat → Heap → Prop} {σw : L2.St} {H : Hp} {n : Nat} {F : Nat → V} {a : Addr} {gn : Nat} {s : Shared}
theorem sl_keep {s s' : Shared} {pl : List (Addr × Obj)} (hsl : ∀ b ∈ Sl, ∃ o, s.heap.get? b = some o) (I : Inv G (pinsAt Sl s.heap) σw H s') : ∀ b ∈ Sl, ∃ o, s.heap.get? b = some o ∧ s'.heap.get? b = some o := fun b hb => by
  obtain ⟨o, e⟩ := hsl b hb
  exact ⟨o, e, (I.pin (b, o) (List.mem_append_right _ (mem_pinsAt hb e))).1⟩

theorem gen_next {j : Nat} {E : Value → Shared → Prop} (hh : A.handled = none) (hd : A.depth < recursionLimit) (hgen : ∀ s', Inv G (pinsAt Sl s.heap) σw H s' → s'.heap.IsGen a gn) (I : GenI G A Sl tn σw H n F a gn j s) (hj : j < n) :
    wpAny (model G.prog G.w) A (pyNext (.ref a)) (fun r s' => ∃ v, r = some v ∧ RelV (F j) v ∧ GenI G A Sl tn σw H n F a gn (j + 1) s' ∧ (∀ b ∈ Sl, ∃ o, s.heap.get? b = some o ∧ s'.heap.get? b = some o)) E s := by
  obtain ⟨I0, st, hsl, gs, hgs, hgo⟩ := I
  have hgl : gn < s.gens.size := (Array.getElem?_eq_some_iff.mp hgs).1
  obtain ⟨m, hm⟩ : ∃ m, n - j = m + 1 := ⟨n - j - 1, by omega⟩
  have hgo' := hgo (s.setGen gn .running) (inv_gens I0 (allBare_setGen I0.bare rfl)) st
  rw [hm] at hgo'
  refine wpAny_gsz (n := gn + 1) hgl ?_
  refine wpAny_pyNext_genexpQ (P := fun m s₀ s₁ => m = 0 ∧ Inv G (pinsAt Sl s₀.heap) σw H s₁) hh I0.nolimit hd (hgen s I0) hgs hgo' (fun v s₁ gs' hb hv => ?_) (fun s₁ hp h' hk => ?_)
  · intro hsz
    obtain ⟨I1, rv, st1, hkap⟩ := hv
    have I1 : Inv G (pinsAt Sl s.heap) σw H s₁ := I1
    have hsl1 := sl_keep (pl := []) hsl I1
    have ep : pinsAt Sl s₁.heap = pinsAt Sl s.heap := pinsAt_eq hsl1
    have e1 : n - 1 - (m + 1 - 1) = j := by omega
    have e2 : n - (m + 1 - 1) = j + 1 := by omega
    rw [e1] at rv
    rw [e2] at st1
    have hsz1 : gn < s₁.gens.size := by
      have q : (s₁.setGen gn gs').gens.size = s₁.gens.size := setGen_size _ _ _
      have hsz' : gn + 1 ≤ (s₁.setGen gn gs').gens.size := hsz
      omega
    refine ⟨v, rfl, rv, ⟨?_, st1, fun b hb => ?_, gs', setGen_at hsz1, fun s'' I'' st'' => ?_⟩, hsl1⟩
    · show Inv G (pinsAt Sl s₁.heap) σw H (s₁.setGen gn gs')
      rw [ep]
      exact inv_gens I1 (allBare_setGen I1.bare hb)
    · obtain ⟨o, _, e⟩ := hsl1 b hb
      exact ⟨o, e⟩
    · have e3 : n - (j + 1) = m := by omega
      rw [e3]
      rw [e2] at hkap
      exact hkap s'' I'' st''
  · exact fun _ => absurd hp.1 (Nat.succ_ne_zero m)

theorem gen_done {E : Value → Shared → Prop} (hh : A.handled = none) (hd : A.depth < recursionLimit) (hgen : ∀ s', Inv G (pinsAt Sl s.heap) σw H s' → s'.heap.IsGen a gn) (I : GenI G A Sl tn σw H n F a gn n s) :
    wpAny (model G.prog G.w) A (pyNext (.ref a)) (fun r s' => r = none ∧ Inv G (pinsAt Sl s.heap) σw H s') E s := by
  obtain ⟨I0, st, hsl, gs, hgs, hgo⟩ := I
  have hgo' := hgo (s.setGen gn .running) (inv_gens I0 (allBare_setGen I0.bare rfl)) st
  rw [Nat.sub_self] at hgo'
  refine wpAny_pyNext_genexpQ (P := fun m s₀ s₁ => m = 0 ∧ Inv G (pinsAt Sl s₀.heap) σw H s₁) hh I0.nolimit hd (hgen s I0) hgs hgo' (fun v s₁ gs' hb hv => ?_) (fun s₁ hp h' hk => ?_)
  · obtain ⟨I1, rv, st1, hkap⟩ := hv
    have I1 : Inv G (pinsAt Sl s.heap) σw H s₁ := I1
    have hsl1 := sl_keep (pl := []) hsl I1
    exact False.elim (hkap s₁ (by rw [pinsAt_eq hsl1]; exact I1) st1)
  · obtain ⟨_, I1⟩ := hp
    have I1 : Inv G (pinsAt Sl s.heap) σw H s₁ := I1
    refine ⟨rfl, ?_⟩
    have I2 : Inv G (pinsAt Sl s.heap) σw H { s₁ with heap := h' } := I1.kept (t' := s₁.toks) hk
    exact inv_gens (g' := (s₁.setGen gn .finished).gens) I2 (allBare_setGen I1.bare rfl)
end

/-! ### the consumers -/
section
variable {G : Cx} {A : Around} {tn : Nat → Heap → Prop} {σw : L2.St} {H : Hp} {n : Nat} {F : Nat → V} {a : Addr} {gn : Nat} {R : Result → Shared → Prop}
theorem all_loop (hh : A.handled = none) (hd : A.depth < recursionLimit) (hgen : ∀ pl s', Inv G pl σw H s' → s'.heap.IsGen a gn) (b : Nat → Bool) (hF : ∀ i, i < n → F i = .bl (b i))
    (hR : ∀ k s', Inv G [] σw H s' → k = (List.range n).all b → R (.ok (.ret (.bool k))) s') :
    ∀ (k i : Nat) (s : Shared), n - i = k → i ≤ n → (∀ j, j < i → b j = true) → GenI G A.in1 [] tn σw H n F a gn i s → codeAny (model G.prog G.w) A (.builtin "all.loop" ⟨[.ref a], []⟩) R s := by
  intro k
  induction k with
  | zero =>
    intro i s hk hi hb I
    have hin : i = n := by omega
    subst hin
    refine codeAny_builtin PySem.F.entry_all_loop ?_
    rw [Around.under_plainId PySem.F.plain_all_loop _]
    show wpAny _ A.in1 (pyNext (.ref a) >>= _) _ _ s
    refine wpAny_bind (thn (gen_done hh hd (hgen _) I) fun r s' ⟨hr, I'⟩ => ?_)
    subst hr
    refine wpAny_bind (wpAny_rule (wpAny_pure ?_))
    exact hR true s' I' (by symm; rw [List.all_eq_true]; exact fun x hx => hb x (List.mem_range.mp hx))
  | succ k ih =>
    intro i s hk hi hb I
    have hlt : i < n := by omega
    refine codeAny_builtin PySem.F.entry_all_loop ?_
    rw [Around.under_plainId PySem.F.plain_all_loop _]
    show wpAny _ A.in1 (pyNext (.ref a) >>= _) _ _ s
    refine wpAny_bind (thn (gen_next hh hd (hgen _) I hlt) fun r s' ⟨v, hr, rv, I', _⟩ => ?_)
    subst hr
    rw [hF i hlt] at rv
    cases rv
    refine wpAny_bind (wpAny_holding (wpAny_truthy_bool ?_))
    refine wpAny_bind (wpAny_letGo ?_)
    cases hbi : b i with
    | true =>
      simp only [if_true]
      refine wpAny_pure ⟨plainId_quiet PySem.F.plain_all_loop _, ih (i + 1) s' (by omega) hlt (fun j hj => ?_) I'⟩
      rcases Nat.lt_succ_iff_lt_or_eq.mp hj with z | z
      · exact hb j z
      · rw [z]; exact hbi
    | false =>
      simp only [Bool.false_eq_true, if_false]
      refine wpAny_bind (wpAny_rule (wpAny_pure ?_))
      refine hR false s' I'.inv ?_
      symm
      rw [List.all_eq_false]
      exact ⟨i, List.mem_range.mpr hlt, by rw [hbi]; exact Bool.false_ne_true⟩
theorem any_loop (hh : A.handled = none) (hd : A.depth < recursionLimit) (hgen : ∀ pl s', Inv G pl σw H s' → s'.heap.IsGen a gn) (b : Nat → Bool) (hF : ∀ i, i < n → F i = .bl (b i))
    (hR : ∀ k s', Inv G [] σw H s' → k = (List.range n).any b → R (.ok (.ret (.bool k))) s') :
    ∀ (k i : Nat) (s : Shared), n - i = k → i ≤ n → (∀ j, j < i → b j = false) → GenI G A.in1 [] tn σw H n F a gn i s → codeAny (model G.prog G.w) A (.builtin "any.loop" ⟨[.ref a], []⟩) R s := by
  intro k
  induction k with
  | zero =>
    intro i s hk hi hb I
    have hin : i = n := by omega
    subst hin
    refine codeAny_builtin PySem.F.entry_any_loop ?_
    rw [Around.under_plainId PySem.F.plain_any_loop _]
    show wpAny _ A.in1 (pyNext (.ref a) >>= _) _ _ s
    refine wpAny_bind (thn (gen_done hh hd (hgen _) I) fun r s' ⟨hr, I'⟩ => ?_)
    subst hr
    refine wpAny_bind (wpAny_rule (wpAny_pure ?_))
    exact hR false s' I' (by symm; rw [List.any_eq_false]; exact fun x hx => by rw [hb x (List.mem_range.mp hx)]; exact Bool.false_ne_true)
  | succ k ih =>
    intro i s hk hi hb I
    have hlt : i < n := by omega
    refine codeAny_builtin PySem.F.entry_any_loop ?_
    rw [Around.under_plainId PySem.F.plain_any_loop _]
    show wpAny _ A.in1 (pyNext (.ref a) >>= _) _ _ s
    refine wpAny_bind (thn (gen_next hh hd (hgen _) I hlt) fun r s' ⟨v, hr, rv, I', _⟩ => ?_)
    subst hr
    rw [hF i hlt] at rv
    cases rv
    refine wpAny_bind (wpAny_holding (wpAny_truthy_bool ?_))
    refine wpAny_bind (wpAny_letGo ?_)
    cases hbi : b i with
    | false =>
      simp only [Bool.false_eq_true, if_false]
      refine wpAny_pure ⟨plainId_quiet PySem.F.plain_any_loop _, ih (i + 1) s' (by omega) hlt (fun j hj => ?_) I'⟩
      rcases Nat.lt_succ_iff_lt_or_eq.mp hj with z | z
      · exact hb j z
      · rw [z]; exact hbi
    | true =>
      simp only [if_true]
      refine wpAny_bind (wpAny_rule (wpAny_pure ?_))
      refine hR true s' I'.inv ?_
      symm
      rw [List.any_eq_true]
      exact ⟨i, List.mem_range.mpr hlt, hbi⟩

/-- the sum's own object is written while the generator sleeps -/
theorem GenI.write {S : Addr} {j : Nat} {s : Shared} {o' : Obj} {tk : Nat} {h' : Heap} (I : GenI G A [S] tn σw H n F a gn j s) (hS : FpOk G [] H S) (hfp : ∀ i h h1, tn i h → (∀ b o, b ≠ S → h.get? b = some o → h1.get? b = some o) → tn i h1)
    (hk : ∀ b o, b ≠ S → s.heap.get? b = some o → h'.get? b = some o) (hS' : h'.get? S = some o') (hd : ∀ v, o'.data ≠ .cell v) : GenI G A [S] tn σw H n F a gn j { s with heap := h', toks := tk } := by
  obtain ⟨I0, st, hsl, run⟩ := I
  obtain ⟨f0, f1, f2, f3, f4, f5⟩ := hS
  have I1 : Inv G [] σw H s := I0.pins_of fun p hp => absurd hp (by simp)
  have I2 : Inv G [] σw H { s with heap := h', toks := tk } := I1.turned hk f0 f1 f3 f4 f5
  refine ⟨I2.pins_of fun p hp => ?_, hfp j _ _ st hk, fun b hb => ?_, run⟩
  · obtain ⟨h1, h2⟩ := of_pinsAt hp
    have e : p.1 = S := by simpa using h1
    rw [e] at h2
    have h2 : h'.get? S = some p.2 := h2
    rw [hS'] at h2
    have e2 : o' = p.2 := Option.some.inj h2
    refine ⟨?_, by rw [e]; exact f0, by rw [e]; exact f1, by rw [e]; exact f2, by rw [← e2]; exact hd⟩
    show h'.get? p.1 = some p.2
    rw [e, ← e2]
    exact hS'
  · have e : b = S := by simpa using hb
    rw [e]
    exact ⟨o', hS'⟩

theorem sum_loop (hh : A.handled = none) (hd : A.depth < recursionLimit) {S : Addr} (hgen : ∀ pl s', Inv G pl σw H s' → s'.heap.IsGen a gn) (z : Nat → Int) (hF : ∀ i, i < n → F i = .int (z i)) (hfit : ∀ j, j < n → InLong (z j) ∧ InLong (preSum z (j + 1)))
    (hS : FpOk G [] H S) (hfp : ∀ i h h1, tn i h → (∀ b o, b ≠ S → h.get? b = some o → h1.get? b = some o) → tn i h1)
    (hR : ∀ t s', Inv G [] σw H s' → R (.ok (.ret (.int (preSum z n) t))) s') :
    ∀ (k i : Nat) (s : Shared) (tA : Tok) (c : Nat), n - i = k → i ≤ n → s.heap.get? S = some { cls := .type "list", dict := none, data := .seq #[.int (preSum z i) tA] c, slots := #[] } → GenI G A.in1 [S] tn σw H n F a gn i s →
      codeAny (model G.prog G.w) A (.builtin "sum.loop" ⟨[.ref a, .ref S, rawInt 0, rawInt 0], []⟩) R s := by
  intro k
  induction k with
  | zero =>
    intro i s tA c hk hi hSs I
    have hin : i = n := by omega
    subst hin
    refine codeAny_builtin PySem.F.entry_sum_loop ?_
    rw [Around.under_plainId PySem.F.plain_sum_loop _]
    show wpAny _ A.in1 (seqItems? (.ref S) >>= _) _ _ s
    refine wpAny_bind (wpAny_seqItems hSs rfl ?_)
    show wpAny _ A.in1 (tryCatch (pyNext (.ref a)) _ >>= _) _ _ s
    refine wpAny_bind (wpAny_tryCatch (thn (gen_done hh hd (hgen _) I) fun r s' ⟨hr, I'⟩ => ?_))
    subst hr
    exact wpAny_pure (hR tA s' (I'.pins_of fun p hp => absurd hp (by simp)))
  | succ k ih =>
    intro i s tA c hk hi hSs I
    have hlt : i < n := by omega
    refine codeAny_builtin PySem.F.entry_sum_loop ?_
    rw [Around.under_plainId PySem.F.plain_sum_loop _]
    show wpAny _ A.in1 (seqItems? (.ref S) >>= _) _ _ s
    refine wpAny_bind (wpAny_seqItems hSs rfl ?_)
    show wpAny _ A.in1 (tryCatch (pyNext (.ref a)) _ >>= _) _ _ s
    refine wpAny_bind (wpAny_tryCatch (thn (gen_next hh hd (hgen _) I hlt) fun r s' ⟨v, hr, rv, I', hsl⟩ => ?_))
    subst hr
    rw [hF i hlt] at rv
    obtain ⟨t, rfl⟩ := rv
    obtain ⟨o, e1, hS'⟩ := hsl S (by simp)
    rw [hSs] at e1
    cases e1
    obtain ⟨⟨f1, f2⟩, f3, f4⟩ := hfit i hlt
    have hc : ((decide (-(2 ^ 63) ≤ z i) && decide (z i < 2 ^ 63)) && (decide (-(2 ^ 63) ≤ preSum z i + z i) && decide (preSum z i + z i < 2 ^ 63))) = true := by
      simp only [preSum] at f3 f4
      simp only [Bool.and_eq_true, decide_eq_true_eq]
      exact ⟨⟨f1, f2⟩, f3, f4⟩
    show wpAny _ A.in1 (if (_ : Bool) = true then (mkInt (preSum z i + z i) >>= _) else _) _ _ _
    split
    · refine wpAny_bind (wpAny_mkInt ?_)
      show wpAny _ A.in1 (updateSeq S (fun _ => #[.int (preSum z i + z i) s'.toks]) >>= _) _ _ _
      refine wpAny_bind ?_
      refine wpAny_updateSeq hS' rfl (wpAny_pure ⟨plainId_quiet PySem.F.plain_sum_loop _, ih (i + 1) _ s'.toks _ (by omega) hlt (Heap.get?_update_self _ hS' rfl) ?_⟩)
      refine I'.write hS hfp (fun b o hb e => (Heap.get?_update_other _ _ (Ne.symm hb)).trans e) (Heap.get?_update_self _ hS' rfl) ?_
      intro v q
      cases q
    · rename_i hneg
      exact absurd hc hneg
end

/-! ### the making of the generator -/
/-- what is known of the generator a (number gn) just made -/
structure Rdy (X : Cx) (pins : List (Addr × Obj)) (σ : L2.St) (G : Cx) (σw : L2.St) (H2 : Hp) (tn : Nat → Heap → Prop) (n : Nat) (F : Nat → V) (a : Addr) (gn : Nat) (s5 : Shared) : Prop where
  prog : G.prog = X.prog
  w : G.w = X.w
  gen : ∀ pl s', Inv G pl σw H2 s' → s'.heap.IsGen a gn
  here : s5.heap.IsGen a gn
  start : ∀ (Sl : List Addr) (h6 : Heap) (tk : Nat), (∀ b o, s5.heap.get? b = some o → h6.get? b = some o) → (∀ b ∈ Sl, s5.heap.objs.size ≤ b ∧ ∃ o, h6.get? b = some o ∧ ∀ v, o.data ≠ .cell v) →
    GenI G X.A.in1 Sl tn σw H2 n F a gn 0 { s5 with heap := h6, toks := tk }
  back : ∀ pl s', Inv G pl σw H2 s' → Inv X pins σ H2 s'
  apart : ∀ S, s5.heap.objs.size ≤ S → ∀ i h h1, tn i h → (∀ b o, b ≠ S → h.get? b = some o → h1.get? b = some o) → tn i h1
  sok : ∀ S, s5.heap.objs.size ≤ S → FpOk G [] H2 S

section
variable {X : Cx} {pins : List (Addr × Obj)} {σ : L2.St} {H : Hp} {s : Shared}
theorem gen_ready {c P : Addr} {elt iter tg : Expr} {gpos : Pos} {scope : Scope} {own : List (Str × Nat)} {wi : TI} {g : TG} {te : TE} {k : Nat} {R : Hp → Nat → (Nat → V) → Prop}
    (hr : Room k X.A) (hc : X.calm = true) (TB : GxR.TabB X.base X.mg c P) (hcode : X.env.code = .ref c) (S : GS scope) (hN : X.N.Nodup) (ok : BlkOk X.N X.env.scope scope own) (hi : PI X tg iter wi)
    (hg : ∀ (s : Shared) (H : Hp) (C : Addr) (cl : List (Str × Addr)) (code : Value) (fp : List Addr) (pn : List (Addr × Obj)), PG (gcx X X.A.in1.in1 s H (genEnv scope cl C code builtinsNs X.env) fp pn) tg g)
    (he : ∀ (s : Shared) (H : Hp) (C : Addr) (cl : List (Str × Addr)) (code : Value) (fp : List Addr) (pn : List (Addr × Obj)), PE (gcx X X.A.in1.in1 s H (genEnv scope cl C code builtinsNs X.env) fp pn) elt te)
    (hs : ∀ v, genFold iter X.env v = pure v) (I : Inv X pins σ H s)
    (h : wi σ H fun J H1 => GxR.TabG H1 P ∧ ∃ n F, (∀ H2, GxR.Tabbed P H1 H2 → Turns J g te (own.map (·.2)) (wipe σ (own.map (·.2))) H2 n F) ∧ R H1 n F) :
    wpAny (model X.prog X.w) X.A (eval (.GeneratorExp elt [⟨tg, iter, [], 0⟩] scope gpos) X.env)
      (fun v s5 => ∃ a gn G σw tn H1 H2 n F, v = .ref a ∧ GxR.Tabbed P H1 H2 ∧ R H1 n F ∧ Rdy X pins σ G σw H2 tn n F a gn s5) X.xe s := by
  have hfree : ∀ y ∈ scope.names, y.2 = .free → ∃ c, X.env.cells.lookup y.1 = some c := fun y hy e => by
    rcases ok.free y hy e with k | k
    · exact I.ok.has _ (.inl k)
    · exact I.ok.has _ (.inr k)
  refine wpAny_GeneratorExp_make S.co (closure_ok hfree) S.cell S.dot ok.kind (by have := hr.dp; omega) ?_ hs
  refine thn (hi.run pins s σ H _ I h) fun xv s1 h1 => thn h1 fun itv s2 h2 => ?_
  obtain ⟨it, fp, tn, J, H2, e, I2, T, st2, f2, ⟨⟨ps, hP, ht⟩, n, F, hturn, hRR⟩⟩ := h2
  subst e
  refine ⟨I2.nolimit, ?_⟩
  have hPs : s2.heap.get? P = some { cls := .none, data := .fields ps } := I2.hok P _ hP
  have cd : PySem.W.CodeHd s2.heap c P := TB.code.keeps I2.bk
  have fsz : ∀ b ∈ fp, b < s2.heap.objs.size := fun b hb => by
    obtain ⟨o, e, _⟩ := T.obj _ _ st2 b hb
    exact Heap.lt_size e
  have cont : ∀ (code : Value) (h3 : Heap) (tk : Nat) (more : Array Value), Heap.ExtBut P s2.heap h3 → s2.heap.objs.size ≤ h3.objs.size → h3.get? P = some { cls := .none, data := .fields (ps ++ more) } → TriplesOk (ps ++ more).toList →
      wpAny (model X.prog X.w) X.A (builtinsFor X.env.globals X.env.builtins) (fun bi s₄ =>
        ∀ h', h'.Ns s₄.heap.objs.size (fun y => if y = ".0" then some (Value.ref it) else none) → Heap.SameBut s₄.heap.objs.size (s₄.heap.push { cls := .type "frame", data := .dict #[] }) h' →
          (fun v s5 => ∃ a gn G σw tn H1 H2 n F, v = .ref a ∧ GxR.Tabbed P H1 H2 ∧ R H1 n F ∧ Rdy X pins σ G σw H2 tn n F a gn s5) (Value.ref h'.objs.size) { s₄ with
            gens := s₄.gens.push (.fresh (.compStart (.GeneratorExp elt [⟨tg, iter, [], 0⟩] scope gpos) 0 (.ref it) .none (genEnv scope (cloFrom X.env.cells scope.names []) s₄.heap.objs.size code bi X.env))),
            toks := s₄.toks + 1 + 1 + 1,
            heap := h'.push { cls := .type "generator", data := .fields #[.int s₄.gens.size 0, .str "<genexpr>" (s₄.toks + 1), .str (X.env.qual ++ "<genexpr>") (s₄.toks + 1 + 1)] } }) X.xe { s2 with heap := h3, toks := tk } := by
    intro code h3 tk more hx hsz hP3 ht3
    obtain ⟨bm, ob, e1, e2, e3, e4, e5, e6, e7, e8⟩ := TB.bm
    have keep3 : ∀ b u, b ≠ P → s2.heap.get? b = some u → h3.get? b = some u := fun b u hb e => hx b u hb e
    refine wpAny_builtinsFor (m := X.mg) (by rw [I2.ok.glob]; exact (I2.mod.glob.keeps I2.bk).extBut hx TB.gP) e1 e2 (keep3 _ _ e4 (I2.bk _ _ e5)) e6 e7 e8 ?_
    intro h' hns hsb
    have I4 : Inv X pins σ (upd H2 P (.tbl (ps ++ more))) { s2 with heap := h3, toks := tk } := GxR.inv_tab (g' := s2.gens) (d' := s2.drawn) (t' := tk) I2 hP keep3 hP3 I2.bare
    have hT2 : GxR.Tabbed P H2 (upd H2 P (.tbl (ps ++ more))) := ⟨⟨ps ++ more, upd_same, ht3⟩, fun b hb => upd_ne hb⟩
    generalize hH4 : upd H2 P (.tbl (ps ++ more)) = H4 at I4 hT2
    generalize hs4 : ({ s2 with heap := h3, toks := tk } : Shared) = s4 at I4 hns hsb ⊢
    have h4 : s4.heap = h3 := by rw [← hs4]
    have e5sz : h'.objs.size = s4.heap.objs.size + 1 := by rw [hsb.1, Heap.size_push]
    have kp' : ∀ b o, s4.heap.get? b = some o → h'.get? b = some o := fun b o e => hsb.extBut b o (Nat.ne_of_lt (Heap.lt_size e)) (Heap.get?_push_of_some _ e)
    generalize hob : ({ cls := .type "generator", data := .fields #[.int s4.gens.size 0, .str "<genexpr>" (s4.toks + 1), .str (X.env.qual ++ "<genexpr>") (s4.toks + 1 + 1)] } : Obj) = gob
    have kp : ∀ b o, s4.heap.get? b = some o → (h'.push gob).get? b = some o := fun b o e => Heap.get?_push_of_some _ (kp' b o e)
    have hgob : gob.isFreed = false := by rw [← hob]; rfl
    have hgat : (h'.push gob).get? h'.objs.size = some gob := Heap.get?_push_size _ hgob
    have isg : ∀ h6 : Heap, h6.get? h'.objs.size = some gob → h6.IsGen h'.objs.size s4.gens.size := fun h6 e => ⟨gob, _, _, e, by rw [← hob], by rw [← hob], by rw [← hob]⟩
    have f4 : ∀ b ∈ fp, FpOk X pins H4 b ∧ b < s4.heap.objs.size := fun b hb => by
      have hbP : b ≠ P := fun z => by
        have q := (f2 b hb).1
        rw [z, hP] at q
        cases q
      refine ⟨⟨?_, (f2 b hb).2⟩, ?_⟩
      · rw [hT2.2 b hbP]
        exact (f2 b hb).1
      · rw [h4]
        exact Nat.lt_of_lt_of_le (fsz b hb) hsz
    have nfp : ∀ b ∈ fp, H4 b = none := fun b hb => (f4 b hb).1.1
    have st3 : tn 0 s4.heap := T.keep _ _ _ st2 fun b hb o e => by
      rw [h4]
      refine keep3 b o (fun z => ?_) e
      have q := (f2 b hb).1
      rw [z, hP] at q
      cases q
    have hcs := gen_start (A := X.A.in1.in1) (code := code) (h5 := h'.push gob) (gs := s4.gens.push (.fresh (.compStart (.GeneratorExp elt [⟨tg, iter, [], 0⟩] scope gpos) 0 (.ref it) .none (genEnv scope (cloFrom X.env.cells scope.names []) s4.heap.objs.size code builtinsNs X.env))))
      (tk := s4.toks + 1 + 1 + 1) (pn := [(h'.objs.size, gob)]) I4 ok S hN f4 (I.ok.hd hc) I4.ok.frames (hns.push _) kp (I4.bare.push rfl) (fun p hp => by
        have e : p = (h'.objs.size, gob) := by simpa using hp
        rw [e]
        refine ⟨hgat, by show s4.heap.objs.size < h'.objs.size; omega, fun v q => ?_⟩
        rw [← hob] at q
        cases q)
    have pg := hg s4 H4 s4.heap.objs.size (cloFrom X.env.cells scope.names []) code fp [(h'.objs.size, gob)]
    have pe := he s4 H4 s4.heap.objs.size (cloFrom X.env.cells scope.names []) code fp [(h'.objs.size, gob)]
    have hTu := hturn H4 hT2
    have szgt : s4.heap.objs.size < (h'.push gob).objs.size := by
      rw [Heap.size_push, e5sz]
      exact Nat.lt_succ_of_lt (Nat.lt_succ_self _)
    refine ⟨h'.objs.size, s4.gens.size, gcx X X.A.in1.in1 s4 H4 (genEnv scope (cloFrom X.env.cells scope.names []) s4.heap.objs.size code builtinsNs X.env) fp [(h'.objs.size, gob)], wipe σ (own.map (·.2)), tn, H2, H4, n, F, rfl, hT2, hRR, ?_⟩
    refine ⟨rfl, rfl, fun pl s' I' => isg _ (I'.pin (h'.objs.size, gob) (List.mem_append_left _ List.mem_cons_self)).1, isg _ hgat, fun Sl h6 tk6 k6 hSl => ?_, fun pl s' I' => ?_, fun S0 hS0 i h h1 st hk => ?_, fun S0 hS0 => ?_⟩
    · -- before its first item
      have hSf : ∀ b ∈ Sl, b ∉ fp := fun b hb hf => by
        have h1 := (f4 b hf).2
        have h2 := (hSl b hb).1
        exact Nat.lt_irrefl _ (Nat.lt_of_lt_of_le (Nat.lt_trans h1 szgt) h2)
      have I6 := hcs.kept (h' := h6) (t' := tk6) k6
      have I7 : Inv (gcx X X.A.in1.in1 s4 H4 (genEnv scope (cloFrom X.env.cells scope.names []) s4.heap.objs.size code builtinsNs X.env) fp [(h'.objs.size, gob)]) (pinsAt Sl h6) (wipe σ (own.map (·.2))) H4 { s4 with heap := h6, gens := s4.gens.push (.fresh (.compStart (.GeneratorExp elt [⟨tg, iter, [], 0⟩] scope gpos) 0 (.ref it) .none (genEnv scope (cloFrom X.env.cells scope.names []) s4.heap.objs.size code builtinsNs X.env))), toks := tk6 } := by
        refine I6.pins_of fun p hp => ?_
        obtain ⟨hb, e⟩ := of_pinsAt hp
        obtain ⟨hge, o, eo, hcell⟩ := hSl p.1 hb
        rw [e] at eo
        cases eo
        have hge4 : s4.heap.objs.size < p.1 := Nat.lt_of_lt_of_le szgt hge
        refine ⟨e, I4.hok.fresh (Nat.le_of_lt hge4), Nat.ne_of_gt hge4, fun z => ?_, hcell⟩
        rcases List.mem_cons.mp (I4.stkSub p.1 z) with z | z
        · have hl := I4.lt
          rw [← z] at hl
          exact Nat.lt_irrefl _ (Nat.lt_trans hl hge4)
        · exact I4.nofs (Nat.le_of_lt hge4) z
      refine ⟨I7, T.keep _ _ _ st3 fun b _ o e => k6 b o (kp b o e), fun b hb => ?_, _, Array.getElem?_push_size .., fun s'' I'' st'' => ⟨rfl, ?_⟩⟩
      · obtain ⟨_, o, e, _⟩ := hSl b hb
        exact ⟨o, e⟩
      · refine seg_start (A := X.A.in1.in1) rfl rfl rfl rfl S.co T pg pe hTu nfp (fun p hp => ?_) hSf (fun i hi v => ?_) s'' s'' I'' st''
        · have e : p = (h'.objs.size, gob) := by simpa using hp
          rw [e]
          intro hf
          have h1 := (f4 _ hf).2
          have h2 : s4.heap.objs.size < h'.objs.size := by omega
          exact Nat.lt_irrefl _ (Nat.lt_trans h1 h2)
        · intro z
          exact (wipe_some z).2 hi
    · exact I4.call' (ch := fp) I'.os I'.base I'.hok I'.bare fun b hb => ⟨(f4 b hb).1.2.2.2.1, (f4 b hb).1.2.1, (f4 b hb).1.2.2.2.2.1, (f4 b hb).1.2.2.2.2.2⟩
    · refine T.keep _ _ _ st fun b hb o e => hk b o (fun z => ?_) e
      have h1 := (f4 b hb).2
      rw [z] at h1
      exact Nat.lt_irrefl _ (Nat.lt_of_lt_of_le (Nat.lt_trans h1 szgt) hS0)
    · have hge4 : s4.heap.objs.size < S0 := Nat.lt_of_lt_of_le szgt hS0
      refine ⟨I4.hok.fresh (Nat.le_of_lt hge4), Nat.ne_of_gt hge4, fun z => ?_, .inr (Nat.le_of_lt hge4), fun x cc e z => ?_, fun p hp z => ?_⟩
      · rcases List.mem_cons.mp (I4.stkSub S0 z) with z | z
        · have hl := I4.lt
          rw [← z] at hl
          exact Nat.lt_irrefl _ (Nat.lt_trans hl hge4)
        · exact I4.nofs (Nat.le_of_lt hge4) z
      · obtain ⟨w', zz⟩ := hcs.cell x cc e
        have hl : cc < (h'.push gob).objs.size := zz.lt
        rw [z] at hl
        exact Nat.lt_irrefl _ (Nat.lt_of_lt_of_le hl hS0)
      · have e : p = (h'.objs.size, gob) := by simpa using hp
        rw [e] at z
        have z : h'.objs.size = S0 := z
        rw [← z] at hS0
        have hS0' : (h'.push gob).objs.size ≤ h'.objs.size := hS0
        rw [Heap.size_push] at hS0'
        exact absurd hS0' (Nat.not_succ_le_self _)
  cases hf : codeAmong gpos ps.toList with
  | none =>
    refine wpAny_genexprCodeX hcode (cd.code hPs ht) (cd.tab hPs) hf fun c' h' tk hx hge hlt hco' _ htab' _ => ?_
    obtain ⟨o1, vs, f1, tf, fl, tg1, inF, tx, tt, op, _, _, _, _, _, _, _, _, _, htr, _⟩ := hco'
    exact cont _ h' tk _ hx (Nat.le_trans hge (Nat.le_of_lt hlt)) htab'.2 htr
  | some cv =>
    refine wpAny_genexprCode_hit hcode (cd.code hPs ht) hf ?_
    exact cont cv s2.heap s2.toks #[] (Heap.ExtBut.refl _ _) (Nat.le_refl _) (by rw [Array.append_empty]; exact hPs) (by rw [Array.append_empty]; exact ht)
end
end Gx

end FoGy
section FoGz
set_option Elab.async false
set_option linter.all false
set_option maxRecDepth 100000
set_option maxHeartbeats 4000000
namespace Gx
open PySem PySem.Spec PyProof.Rows L2 GenW
section
variable {X : Cx}
/-- any(elt for target in iter): n turns, turn i gives b i -/
def tAnyG (P : Addr) (wi : TI) (g : TG) (te : TE) (vs : List Nat) : TE := fun σ H Q => wi σ H fun J H1 => GxR.TabG H1 P ∧ ∃ (n : Nat) (F : Nat → V),
  (∀ H2, GxR.Tabbed P H1 H2 → Turns J g te vs (wipe σ vs) H2 n F) ∧ ∃ b : Nat → Bool, F = (fun i => V.bl (b i)) ∧ ∀ H2, GxR.Tabbed P H1 H2 → Q (.bl ((List.range n).any b)) H2
def tAllG (P : Addr) (wi : TI) (g : TG) (te : TE) (vs : List Nat) : TE := fun σ H Q => wi σ H fun J H1 => GxR.TabG H1 P ∧ ∃ (n : Nat) (F : Nat → V),
  (∀ H2, GxR.Tabbed P H1 H2 → Turns J g te vs (wipe σ vs) H2 n F) ∧ ∃ b : Nat → Bool, F = (fun i => V.bl (b i)) ∧ ∀ H2, GxR.Tabbed P H1 H2 → Q (.bl ((List.range n).all b)) H2
def tSumG (P : Addr) (wi : TI) (g : TG) (te : TE) (vs : List Nat) : TE := fun σ H Q => wi σ H fun J H1 => GxR.TabG H1 P ∧ ∃ (n : Nat) (F : Nat → V),
  (∀ H2, GxR.Tabbed P H1 H2 → Turns J g te vs (wipe σ vs) H2 n F) ∧ ∃ z : Nat → Int, F = (fun i => V.int (z i)) ∧ (∀ j, j < n → InLong (z j) ∧ InLong (preSum z (j + 1))) ∧ ∀ H2, GxR.Tabbed P H1 H2 → Q (.int (preSum z n)) H2

variable {c P : Addr} {elt iter tg : Expr} {gpos p pos : Pos} {scope : Scope} {own : List (Str × Nat)} {wi : TI} {g : TG} {te : TE} {k : Nat}
theorem pe_anyG (hr : Room k X.A) (hgl : Gl X "any") (hm : X.mg "any" = none) (hc : X.calm = true) (TB : GxR.TabB X.base X.mg c P) (hcode : X.env.code = .ref c) (S : GS scope) (hN : X.N.Nodup) (ok : BlkOk X.N X.env.scope scope own) (hi : PI X tg iter wi)
    (hg : ∀ (s : Shared) (H : Hp) (C : Addr) (cl : List (Str × Addr)) (code : Value) (fp : List Addr) (pn : List (Addr × Obj)), PG (gcx X X.A.in1.in1 s H (genEnv scope cl C code builtinsNs X.env) fp pn) tg g)
    (hel : ∀ (s : Shared) (H : Hp) (C : Addr) (cl : List (Str × Addr)) (code : Value) (fp : List Addr) (pn : List (Addr × Obj)), PE (gcx X X.A.in1.in1 s H (genEnv scope cl C code builtinsNs X.env) fp pn) elt te)
    (hs : ∀ v, genFold iter X.env v = pure v := by intro _; rfl)
    (he : starEach [.GeneratorExp elt [⟨tg, iter, [], 0⟩] scope gpos] X.env = (false, eval (.GeneratorExp elt [⟨tg, iter, [], 0⟩] scope gpos) X.env) :: starEach [] X.env := by rfl) :
    PE X (.Call (.Name "any" p) [.GeneratorExp elt [⟨tg, iter, [], 0⟩] scope gpos] [] pos) (tAnyG P wi g te (own.map (·.2))) := by
  refine ⟨fun pins s σ H Q I h => ?_⟩
  refine wpAny_Call_Name_kw (ld_blt I hgl hm boot_any ?_)
  refine PyProof.Rows.callWith_builtin1 ?_ he (by rfl)
  rw [he]
  show wpAny _ _ (spliced ((false, eval (.GeneratorExp elt [⟨tg, iter, [], 0⟩] scope gpos) X.env) :: backTo pos (starEach [] X.env))) _ _ s
  have hrdy := gen_ready (gpos := gpos) (R := fun H1 n F => ∃ b : Nat → Bool, F = (fun i => V.bl (b i)) ∧ ∀ H2, GxR.Tabbed P H1 H2 → Q (.bl ((List.range n).any b)) H2) hr hc TB hcode S hN ok hi hg hel hs I h
  refine Calls.spliced_cons (thn hrdy fun v s5 ⟨a, gn, G, σw, tn, H1, H2, n, F, ev, hT, ⟨b, eF, hQ⟩, rd⟩ => ?_)
  subst ev eF
  refine Calls.spliced_nil ?_
  refine call_function_tree PySem.F.kind_any PySem.F.plain_any PySem.F.entry_any (PySem.F.args_any1 _) ?_
  unfold Builtin.«any»
  refine wpAny_bind (m := oneArg "any" _) (wpAny_pure ?_)
  refine wpAny_bind (wpAny_pyIter_gen rd.here ?_)
  have I0 := rd.start [] s5.heap s5.toks (fun _ _ e => e) (fun b hb => absurd hb (by simp))
  have hl := any_loop (A := X.A) (R := fun r s' => match r with | .ok (.ret v) => EP X pins σ Q v s' | _ => False) hr.hd (by have := hr.dp; omega) rd.gen b (fun i _ => rfl) (fun k' s' I' ek => by
    rw [ek]
    exact ⟨.bl _, H2, rd.back _ _ I', rfl, hQ H2 hT⟩) n 0 s5 (Nat.sub_zero _) (Nat.zero_le _) (fun j hj => absurd hj (Nat.not_lt_zero _)) I0
  rw [rd.prog, rd.w] at hl
  refine wpAny_pure ⟨plainId_quiet PySem.F.plain_any_loop _, codeAny_mono hl fun r s' hq => ?_⟩
  cases r with
  | error e => exact False.elim hq
  | ok f =>
    cases f with
    | ret v => exact hq
    | next => exact False.elim hq
    | brk => exact False.elim hq
    | cont => exact False.elim hq
theorem pe_allG (hr : Room k X.A) (hgl : Gl X "all") (hm : X.mg "all" = none) (hb : bootBuiltins "all" = some (.builtin "all") := by decide +kernel) (hc : X.calm = true) (TB : GxR.TabB X.base X.mg c P) (hcode : X.env.code = .ref c) (S : GS scope) (hN : X.N.Nodup) (ok : BlkOk X.N X.env.scope scope own) (hi : PI X tg iter wi)
    (hg : ∀ (s : Shared) (H : Hp) (C : Addr) (cl : List (Str × Addr)) (code : Value) (fp : List Addr) (pn : List (Addr × Obj)), PG (gcx X X.A.in1.in1 s H (genEnv scope cl C code builtinsNs X.env) fp pn) tg g)
    (hel : ∀ (s : Shared) (H : Hp) (C : Addr) (cl : List (Str × Addr)) (code : Value) (fp : List Addr) (pn : List (Addr × Obj)), PE (gcx X X.A.in1.in1 s H (genEnv scope cl C code builtinsNs X.env) fp pn) elt te)
    (hs : ∀ v, genFold iter X.env v = pure v := by intro _; rfl)
    (he : starEach [.GeneratorExp elt [⟨tg, iter, [], 0⟩] scope gpos] X.env = (false, eval (.GeneratorExp elt [⟨tg, iter, [], 0⟩] scope gpos) X.env) :: starEach [] X.env := by rfl) :
    PE X (.Call (.Name "all" p) [.GeneratorExp elt [⟨tg, iter, [], 0⟩] scope gpos] [] pos) (tAllG P wi g te (own.map (·.2))) := by
  refine ⟨fun pins s σ H Q I h => ?_⟩
  refine wpAny_Call_Name_kw (ld_blt I hgl hm hb ?_)
  refine PyProof.Rows.callWith_builtin1 ?_ he (by rfl)
  rw [he]
  show wpAny _ _ (spliced ((false, eval (.GeneratorExp elt [⟨tg, iter, [], 0⟩] scope gpos) X.env) :: backTo pos (starEach [] X.env))) _ _ s
  have hrdy := gen_ready (gpos := gpos) (R := fun H1 n F => ∃ b : Nat → Bool, F = (fun i => V.bl (b i)) ∧ ∀ H2, GxR.Tabbed P H1 H2 → Q (.bl ((List.range n).all b)) H2) hr hc TB hcode S hN ok hi hg hel hs I h
  refine Calls.spliced_cons (thn hrdy fun v s5 ⟨a, gn, G, σw, tn, H1, H2, n, F, ev, hT, ⟨b, eF, hQ⟩, rd⟩ => ?_)
  subst ev eF
  refine Calls.spliced_nil ?_
  refine call_function_tree PySem.F.kind_all PySem.F.plain_all PySem.F.entry_all (PySem.F.args_all1 _) ?_
  unfold Builtin.«all»
  refine wpAny_bind (m := oneArg "all" _) (wpAny_pure ?_)
  refine wpAny_bind (wpAny_pyIter_gen rd.here ?_)
  have I0 := rd.start [] s5.heap s5.toks (fun _ _ e => e) (fun b hb => absurd hb (by simp))
  have hl := all_loop (A := X.A) (R := fun r s' => match r with | .ok (.ret v) => EP X pins σ Q v s' | _ => False) hr.hd (by have := hr.dp; omega) rd.gen b (fun i _ => rfl) (fun k' s' I' ek => by
    rw [ek]
    exact ⟨.bl _, H2, rd.back _ _ I', rfl, hQ H2 hT⟩) n 0 s5 (Nat.sub_zero _) (Nat.zero_le _) (fun j hj => absurd hj (Nat.not_lt_zero _)) I0
  rw [rd.prog, rd.w] at hl
  refine wpAny_pure ⟨plainId_quiet PySem.F.plain_all_loop _, codeAny_mono hl fun r s' hq => ?_⟩
  cases r with
  | error e => exact False.elim hq
  | ok f =>
    cases f with
    | ret v => exact hq
    | next => exact False.elim hq
    | brk => exact False.elim hq
    | cont => exact False.elim hq

theorem pe_sumG (hr : Room k X.A) (hgl : Gl X "sum") (hm : X.mg "sum" = none) (hc : X.calm = true) (TB : GxR.TabB X.base X.mg c P) (hcode : X.env.code = .ref c) (S : GS scope) (hN : X.N.Nodup) (ok : BlkOk X.N X.env.scope scope own) (hi : PI X tg iter wi)
    (hg : ∀ (s : Shared) (H : Hp) (C : Addr) (cl : List (Str × Addr)) (code : Value) (fp : List Addr) (pn : List (Addr × Obj)), PG (gcx X X.A.in1.in1 s H (genEnv scope cl C code builtinsNs X.env) fp pn) tg g)
    (hel : ∀ (s : Shared) (H : Hp) (C : Addr) (cl : List (Str × Addr)) (code : Value) (fp : List Addr) (pn : List (Addr × Obj)), PE (gcx X X.A.in1.in1 s H (genEnv scope cl C code builtinsNs X.env) fp pn) elt te)
    (hb : bootBuiltins "sum" = some (.builtin "sum") := by decide +kernel)
    (hs : ∀ v, genFold iter X.env v = pure v := by intro _; rfl)
    (he : starEach [.GeneratorExp elt [⟨tg, iter, [], 0⟩] scope gpos] X.env = (false, eval (.GeneratorExp elt [⟨tg, iter, [], 0⟩] scope gpos) X.env) :: starEach [] X.env := by rfl) :
    PE X (.Call (.Name "sum" p) [.GeneratorExp elt [⟨tg, iter, [], 0⟩] scope gpos] [] pos) (tSumG P wi g te (own.map (·.2))) := by
  refine ⟨fun pins s σ H Q I h => ?_⟩
  refine wpAny_Call_Name_kw (ld_blt I hgl hm hb ?_)
  refine PyProof.Rows.callWith_builtin1 ?_ he (by rfl)
  rw [he]
  show wpAny _ _ (spliced ((false, eval (.GeneratorExp elt [⟨tg, iter, [], 0⟩] scope gpos) X.env) :: backTo pos (starEach [] X.env))) _ _ s
  have hrdy := gen_ready (gpos := gpos) (R := fun H1 n F => ∃ z : Nat → Int, F = (fun i => V.int (z i)) ∧ (∀ j, j < n → InLong (z j) ∧ InLong (preSum z (j + 1))) ∧ ∀ H2, GxR.Tabbed P H1 H2 → Q (.int (preSum z n)) H2) hr hc TB hcode S hN ok hi hg hel hs I h
  refine Calls.spliced_cons (thn hrdy fun v s5 ⟨a, gn, G, σw, tn, H1, H2, n, F, ev, hT, ⟨z, eF, hfit, hQ⟩, rd⟩ => ?_)
  subst ev eF
  refine Calls.spliced_nil ?_
  refine call_function_tree PySem.F.kind_sum PySem.F.plain_sum PySem.F.entry_sum (PySem.F.args_sum1 _) ?_
  unfold Builtin.«sum»
  simp only [List.length_cons, List.length_nil]
  rw [if_neg (by decide)]
  refine wpAny_bind (wpAny_of_eq (show Builtin.Builtins.bindParams "sum" ["start"] 0 { } = pure [none] from rfl) ?_)
  refine wpAny_bind (wpAny_pyIter_gen rd.here ?_)
  refine wpAny_bind (wpAny_mkInt ?_)
  refine wpAny_bind (wpAny_pure ?_)
  simp only [List.forIn_cons, List.forIn_nil]
  refine wpAny_bind (wpAny_bind (wpAny_bind (wpAny_isInstance (T := "int") (b := false) (typeIs_int _ _ _) PySem.sub_int_str ?_)))
  simp only [Bool.false_eq_true, if_false]
  refine wpAny_pure (wpAny_bind (wpAny_bind (wpAny_isInstance (T := "int") (b := false) (typeIs_int _ _ _) PySem.sub_int_bytes ?_)))
  simp only [Bool.false_eq_true, if_false]
  refine wpAny_pure (wpAny_bind (wpAny_bind (wpAny_isInstance (T := "int") (b := false) (typeIs_int _ _ _) PySem.sub_int_bytearray ?_)))
  simp only [Bool.false_eq_true, if_false]
  refine wpAny_pure (wpAny_pure ?_)
  refine wpAny_bind (wpAny_newObj_type ?_)
  have hSat : (s5.heap.push { cls := .type "list", data := .seq #[.int 0 s5.toks] }).get? s5.heap.objs.size = some { cls := .type "list", data := .seq #[.int 0 s5.toks] } := Heap.get?_push_size _ rfl
  have I0 := rd.start [s5.heap.objs.size] (s5.heap.push { cls := .type "list", data := .seq #[.int 0 s5.toks] }) (s5.toks + 1) (fun _ _ e => Heap.get?_push_of_some _ e) (fun b hb => by
    have e : b = s5.heap.objs.size := by simpa using hb
    rw [e]
    exact ⟨Nat.le_refl _, _, hSat, fun v q => by cases q⟩)
  have hl := sum_loop (A := X.A) (S := s5.heap.objs.size) (R := fun r s' => match r with | .ok (.ret v) => EP X pins σ Q v s' | _ => False) hr.hd (by have := hr.dp; omega) rd.gen z (fun i _ => rfl) hfit (rd.sok _ (Nat.le_refl _)) (rd.apart _ (Nat.le_refl _)) (fun t s' I' =>
    ⟨.int _, H2, rd.back _ _ I', ⟨t, rfl⟩, hQ H2 hT⟩) n 0 _ s5.toks _ (Nat.sub_zero _) (Nat.zero_le _) hSat I0
  rw [rd.prog, rd.w] at hl
  refine wpAny_pure ⟨plainId_quiet PySem.F.plain_sum_loop _, codeAny_mono hl fun r s' hq => ?_⟩
  cases r with
  | error e => exact False.elim hq
  | ok f =>
    cases f with
    | ret v => exact hq
    | next => exact False.elim hq
    | brk => exact False.elim hq
    | cont => exact False.elim hq
end
end Gx

end FoGz
section FoSort
set_option Elab.async false
set_option linter.all false
set_option maxRecDepth 100000
set_option maxHeartbeats 4000000
/-! sorted of tuples of ints of any lengths (the empty one too), of a list or of a dict's keys. -/
namespace FoS
open PySem PySem.Spec PyProof.Rows L2 SrtO

/-- v is a tuple of the ints ns -/
def TIv (h : Heap) (v : Value) (ns : List Int) : Prop := ∃ (a : Addr) (its : Array Value), v = .ref a ∧ IsTup h a its ∧ IntsAre its.toList ns
theorem TIv.keep {h h' : Heap} {v : Value} {ns : List Int} (t : TIv h v ns) (k : ∀ b o, h.get? b = some o → o.cls = .type "tuple" → h'.get? b = some o) : TIv h' v ns := by
  obtain ⟨a, its, e, ⟨o, ho, hc, n, hd⟩, hi⟩ := t
  exact ⟨a, its, e, ⟨o, k a o ho hc, hc, n, hd⟩, hi⟩

theorem keyLt_general (x y : Value) : keyLt' general' x y = oneLt' false x y := rfl

section
variable {prog : Program} {w : World} {A : Around} {E : Value → Shared → Prop} {s : Shared}
theorem oneLt_gen {u v : Value} {ns ms : List Int} {Q : Bool → Shared → Prop} (hu : A.units < cLine) (h1 : TIv s.heap u ns) (h2 : TIv s.heap v ms) (h : Q (HT.lexLt ns ms) s) : wpAny (model prog w) A (oneLt' false u v) Q E s := by
  obtain ⟨a, its, rfl, t1, i1⟩ := h1
  obtain ⟨b, its2, rfl, t2, i2⟩ := h2
  rw [oneLt'_eq]
  simp only [Bool.false_eq_true, if_false]
  exact wpAny_bind (HT.lt_tupInts t1 t2 i1 i2 hu (wpAny_truthy_bool h))
theorem oneLt_one {u v : Value} {ns ms : List Int} {Q : Bool → Shared → Prop} (hu : A.units < cLine) (h1 : TIv s.heap u ns) (h2 : TIv s.heap v ms) (h : Q (HT.lexLt ns ms) s) : wpAny (model prog w) A (oneLt' true u v) Q E s := by
  obtain ⟨a, its, rfl, t1, i1⟩ := h1
  obtain ⟨b, its2, rfl, t2, i2⟩ := h2
  obtain ⟨⟨cls, dd, data, sl⟩, ho, hc, n, hd⟩ := id t1
  obtain ⟨⟨cls2, dd2, data2, sl2⟩, ho2, hc2, n2, hd2⟩ := id t2
  simp only at hc hd hc2 hd2
  subst hc hd hc2 hd2
  rw [oneLt'_eq]
  simp only [if_true]
  refine wpAny_bind (wpAny_cRoomFor hu ?_)
  refine wpAny_bind (wpAny_callSpecialIfBound?_slot (T := "tuple") ⟨_, ho, rfl⟩ PySem.F.slot_tuple_lt (call_meets PySem.F.slot_tuple_lt ⟨_, ho, rfl⟩ PySem.F.entry_tuple_lt (PySem.F.args_tuple_lt_2 _ _) (HT.tuple_lt_ints a b its its2 n n2 dd dd2 sl sl2 ns ms i1 i2) ⟨ho, ho2, ?_⟩))
  exact wpAny_truthy_bool h
theorem lex_kat {b : Bool} {Q : Bool → Shared → Prop} : ∀ {us vs : List Value} {ns ms : List Int} (i : Nat) {p q : Nat}, IntsAre us ns → IntsAre vs ms → p + ms.length = q + ns.length → Q (HT.lexLt ns ms) s → PySem.W.KatLex prog w A b (decide (p < q)) Q (us.zip vs) i s
  | _, _, _, _, i, p, q, .nil, .nil, hl, h => by
    refine PySem.W.kat_nil ?_
    have e : decide (p < q) = false := decide_eq_false (by simp at hl; omega)
    rw [e]
    exact h
  | _, _, _, _, i, p, q, .nil, .cons m t r, hl, h => by
    refine PySem.W.kat_nil ?_
    have e : decide (p < q) = true := decide_eq_true (by simp at hl; omega)
    rw [e]
    exact h
  | _, _, _, _, i, p, q, .cons n t r, .nil, hl, h => by
    refine PySem.W.kat_nil ?_
    have e : decide (p < q) = false := decide_eq_false (by simp at hl; omega)
    rw [e]
    exact h
  | _, _, _, _, i, p, q, .cons n t r, .cons m t' r', hl, h => by
    rw [HT.lexLt_cons] at h
    refine PySem.W.kat_cons (SeqAt.EqAt.int_int n t m t' prog w _ _ ?_)
    refine PySem.W.kat_go (fun e1 => ?_) (fun e1 => ?_)
    · have ex : n = m := by simpa using e1
      rw [if_pos ex] at h
      exact PySem.W.kat_yes (lex_kat (i + 1) r r' (by simp at hl; omega) h)
    · have ex : ¬ n = m := by simpa using e1
      rw [if_neg ex] at h
      exact PySem.W.kat_no (oneLt_any_int h)
theorem keyLt_tups {b : Bool} {u v : Value} {ns ms : List Int} {Q : Bool → Shared → Prop} (h1 : TIv s.heap u ns) (h2 : TIv s.heap v ms) (h : Q (HT.lexLt ns ms) s) : wpAny (model prog w) A (keyLt' (tuples' b) u v) Q E s := by
  obtain ⟨a, its, rfl, ⟨o, ho, hc, n, hd⟩, i1⟩ := h1
  obtain ⟨a2, its2, rfl, ⟨o2, ho2, hc2, n2, hd2⟩, i2⟩ := h2
  refine PySem.W.kat_lt ho hd ho2 hd2 (lex_kat 0 i1 i2 ?_ h)
  have e1 := i1.length
  have e2 := i2.length
  simp at e1 e2
  omega
end

/-! ### the order -/
theorem lexLt_irr : ∀ ns : List Int, HT.lexLt ns ns = false
  | [] => rfl
  | n :: ns => by rw [HT.lexLt_cons, if_pos rfl]; exact lexLt_irr ns
theorem lexLt_asym : ∀ {ns ms : List Int}, HT.lexLt ns ms = true → HT.lexLt ms ns = false
  | [], [], h => by cases h
  | [], m :: ms, _ => rfl
  | n :: ns, [], h => by cases h
  | n :: ns, m :: ms, h => by
    rw [HT.lexLt_cons] at h ⊢
    by_cases e : n = m
    · rw [if_pos e] at h
      rw [if_pos e.symm]
      exact lexLt_asym h
    · rw [if_neg e, decide_eq_true_eq] at h
      rw [if_neg (fun q => e q.symm), decide_eq_false_iff_not]
      omega
theorem lexLt_tr : ∀ {xs ys zs : List Int}, HT.lexLt ys xs = false → HT.lexLt zs ys = false → HT.lexLt zs xs = false
  | [], [], zs, _, h2 => h2
  | [], y :: ys, [], _, h2 => rfl
  | [], y :: ys, z :: zs, _, _ => rfl
  | x :: xs, [], zs, h1, _ => by cases h1
  | x :: xs, y :: ys, [], _, h2 => by cases h2
  | x :: xs, y :: ys, z :: zs, h1, h2 => by
    rw [HT.lexLt_cons] at h1 h2 ⊢
    by_cases e1 : y = x
    · rw [if_pos e1] at h1
      by_cases e2 : z = y
      · rw [if_pos e2] at h2
        rw [if_pos (e2.trans e1)]
        exact lexLt_tr h1 h2
      · rw [if_neg e2, decide_eq_false_iff_not] at h2
        rw [if_neg (by rw [← e1]; exact e2), decide_eq_false_iff_not]
        omega
    · rw [if_neg e1, decide_eq_false_iff_not] at h1
      by_cases e2 : z = y
      · rw [if_pos e2] at h2
        rw [if_neg (by rw [e2]; exact e1), decide_eq_false_iff_not]
        omega
      · rw [if_neg e2, decide_eq_false_iff_not] at h2
        have : ¬ z = x := by omega
        rw [if_neg this, decide_eq_false_iff_not]
        omega
theorem swo_lexI {α : Type} (k : α → List Int) : Swo fun x y => HT.lexLt (k x) (k y) :=
  ⟨fun _ _ h => lexLt_asym h, fun _ _ _ h1 h2 => lexLt_tr h1 h2⟩

/-! ### the keys' kind -/
section
variable {prog : Program} {w : World} {A : Around} {E : Value → Shared → Prop} {s : Shared}
theorem firsts_run : ∀ {vs : List Value} (k : Value → List Int), (∀ v ∈ vs, TIv s.heap v (k v)) → ∃ fs : List (Option Value), (∀ f ∈ fs, ∀ x, f = some x → ∃ i t, x = Value.int i t) ∧ fs.length = vs.length ∧
    ∀ {A : Around} {E : Value → Shared → Prop} (Q : List (Option Value) → Shared → Prop), Q fs s → wpAny (model prog w) A (vs.mapM firstOfTuple') Q E s
  | [], k, _ => ⟨[], fun f hf => absurd hf (by simp), rfl, fun Q h => by rw [List.mapM_nil]; exact wpAny_pure h⟩
  | v :: vs, k, hv => by
    obtain ⟨fs, h1, hl, h2⟩ := firsts_run (vs := vs) k fun u hu => hv u (List.mem_cons_of_mem _ hu)
    obtain ⟨a, its, rfl, ⟨o, ho, hc, n, hd⟩, hi⟩ := hv v List.mem_cons_self
    refine ⟨its[0]? :: fs, fun f hf x ex => ?_, by rw [List.length_cons, List.length_cons, hl], fun {A E} Q h => ?_⟩
    · rcases List.mem_cons.mp hf with e | hf
      · rw [e, ← Array.getElem?_toList] at ex
        cases q : its.toList with
        | nil => rw [q] at ex; cases ex
        | cons y r =>
          rw [q] at ex hi
          generalize k (Value.ref a) = ns at hi
          cases hi with
          | cons m t r' => exact ⟨m, t, (Option.some.inj ex).symm⟩
      · exact h1 f hf x ex
    · rw [List.mapM_cons]
      refine wpAny_bind ?_
      rw [PySem.W.kas_first_eq]
      refine wpAny_bind (PySem.W.Looks.here (show PySem.W.Looks (model prog w) s.heap (typeOf (.ref a)) o.cls from (PySem.W.Looks.ld ho).andThen .now) ?_)
      rw [hc, if_neg (by first | decide | simp)]
      refine wpAny_bind (listItems_at ho hd (wpAny_pure ?_))
      exact wpAny_bind (h2 (fun bs s' => wpAny (model prog w) A (pure (its[0]? :: bs)) Q E s') (wpAny_pure h))
theorem int_tup_ne : (Value.type "int" != Value.type "tuple") = true := by first | decide +kernel | rfl | decide
theorem all_eq {T : Value} (hT : (T == T) = true) (l : List Value) (h : ∀ v ∈ l, v = T) : (l.toArray.all fun x => x == T) = true := by
  simp only [List.all_toArray, List.all_eq_true]
  intro x hx
  rw [h x hx]
  exact hT
/-- which kind is found, and how two keys compare by it -/
theorem tups_kind {vs : List Value} {k : Value → List Int} (h2 : 2 ≤ vs.length) (hv : ∀ v ∈ vs, TIv s.heap v (k v)) : ∃ κ, (κ = general' ∨ κ = oneType' ∨ ∃ b, κ = tuples' b) ∧
    ∀ {A : Around} {E : Value → Shared → Prop} (Q : SortKind → Shared → Prop), Q κ s → wpAny (model prog w) A (keyKind' vs.toArray) Q E s := by
  obtain ⟨fs, h1, hfl, hfs⟩ := firsts_run (prog := prog) (w := w) k hv
  have tyT : ∀ v ∈ vs, ∀ {A : Around} {E : Value → Shared → Prop} (Q' : Value → Shared → Prop), Q' (.type "tuple") s → wpAny (model prog w) A (typeOf v) Q' E s := fun v hm {A E} Q' hq => by
    obtain ⟨a, its, rfl, ⟨o, ho, hc, n, hd⟩, hi⟩ := hv v hm
    exact wpAny_typeOf (T := "tuple") ⟨o, ho, hc⟩ hq
  by_cases hall : (fs.toArray.all fun x => x.isSome) = true
  · -- all have a first item
    have hne : fs ≠ [] := fun e => by rw [e] at hfl; simp at hfl; omega
    refine ⟨tuples' true, .inr (.inr ⟨_, rfl⟩), fun {A E} Q hq => ?_⟩
    rw [kat_kind_eq, List.mapM_toArray, map_eq_pure_bind]
    refine wpAny_bind (wpAny_bind (hfs _ (wpAny_pure ?_)))
    rw [if_pos hall]
    refine wpAny_bind (wpAny_rule ?_)
    have hfm : (fs.toArray.filterMap id) = (fs.filterMap id).toArray := by simp
    have hints : ∀ v ∈ fs.filterMap id, ∃ i t, v = Value.int i t := fun v hm => by
      obtain ⟨f, hf, e⟩ := List.mem_filterMap.mp hm
      exact h1 f hf v e
    have hlen : 0 < (fs.filterMap id).length := by
      cases fs with
      | nil => exact absurd rfl hne
      | cons f r =>
        have : f.isSome = true := by
          rw [List.all_toArray, List.all_cons] at hall
          exact (Bool.and_eq_true_iff.mp hall).1
        cases f with
        | none => cases this
        | some x => simp
    rw [hfm, oneTypeOnly'_eq, List.mapM_toArray, map_eq_pure_bind]
    refine wpAny_bind (wpAny_bind (wpAny_bind (PySem.W.kas_mapM (r := Value.type "int") _ (fun v hm Q' hq => ?_) (wpAny_pure ?_))))
    · obtain ⟨i, t, rfl⟩ := hints v hm
      exact wpAny_typeOf (typeIs_int s i t) hq
    · obtain ⟨x, r, e⟩ : ∃ x r, fs.filterMap id = x :: r := by
        cases q : fs.filterMap id with
        | nil => rw [q] at hlen; cases hlen
        | cons x r => exact ⟨x, r, rfl⟩
      rw [e]
      have h0 : ((x :: r).map fun _ => Value.type "int").toArray[0]? = some (Value.type "int") := by simp
      have h9 : (((x :: r).map fun _ => Value.type "int").toArray.all fun x => x == Value.type "int") = true := all_eq (by rfl) _ fun v hm => by
        obtain ⟨_, _, e⟩ := List.mem_map.mp hm
        exact e.symm
      rw [h0]
      simp only [h9, if_true]
      refine wpAny_pure (wpAny_pure ?_)
      have : Option.any (fun x => x != Value.type "tuple") (some (Value.type "int")) = true := int_tup_ne
      rw [this]
      exact hq
  · by_cases hf : (fs.toArray[0]?.bind id).isSome = true
    · refine ⟨general', .inl rfl, fun {A E} Q hq => ?_⟩
      rw [kat_kind_eq, List.mapM_toArray, map_eq_pure_bind]
      refine wpAny_bind (wpAny_bind (hfs _ (wpAny_pure ?_)))
      rw [if_neg hall, if_pos hf]
      exact wpAny_pure hq
    · refine ⟨oneType', .inr (.inl rfl), fun {A E} Q hq => ?_⟩
      rw [kat_kind_eq, List.mapM_toArray, map_eq_pure_bind]
      refine wpAny_bind (wpAny_bind (hfs _ (wpAny_pure ?_)))
      rw [if_neg hall, if_neg hf]
      rw [oneTypeOnly'_eq, List.mapM_toArray, map_eq_pure_bind]
      refine wpAny_bind (wpAny_bind (wpAny_bind (PySem.W.kas_mapM (r := Value.type "tuple") _ (fun v hm Q' hq => tyT v hm Q' hq) (wpAny_pure ?_))))
      obtain ⟨x, r, e⟩ : ∃ x r, vs = x :: r := by
        cases vs with
        | nil => simp at h2
        | cons x r => exact ⟨x, r, rfl⟩
      rw [e]
      have h0 : ((x :: r).map fun _ => Value.type "tuple").toArray[0]? = some (Value.type "tuple") := by simp
      have h9 : (((x :: r).map fun _ => Value.type "tuple").toArray.all fun x => x == Value.type "tuple") = true := all_eq (by rfl) _ fun v hm => by
        obtain ⟨_, _, e⟩ := List.mem_map.mp hm
        exact e.symm
      rw [h0]
      simp only [h9, if_true]
      exact wpAny_pure (wpAny_pure hq)
theorem keyLt_any {κ : SortKind} {u v : Value} {ns ms : List Int} {Q : Bool → Shared → Prop} (hκ : κ = general' ∨ κ = oneType' ∨ ∃ b, κ = tuples' b) (hu : A.units < cLine) (h1 : TIv s.heap u ns) (h2 : TIv s.heap v ms) (h : Q (HT.lexLt ns ms) s) :
    wpAny (model prog w) A (keyLt' κ u v) Q E s := by
  rcases hκ with e | e | ⟨b, e⟩
  · rw [e, keyLt_general]
    exact oneLt_gen hu h1 h2 h
  · rw [e, keyLt'_oneType]
    exact oneLt_one hu h1 h2 h
  · rw [e]
    exact keyLt_tups h1 h2 h
theorem tups_sortable {a : Addr} {vs : List Value} {k : Value → List Int} (h2 : 2 ≤ vs.length) (hu : A.units < cLine) (hv : ∀ v ∈ vs, TIv s.heap v (k v)) (ha : ∀ o, s.heap.get? a = some o → o.cls ≠ .type "tuple") : SortableO prog w A s a vs fun v u => HT.lexLt (k v) (k u) := by
  intro h' keep
  have hv' : ∀ v ∈ vs, TIv h' v (k v) := fun v hm => (hv v hm).keep fun b o e c => keep b o (fun z => by subst z; exact ha o e c) e
  obtain ⟨κ, hκ, hk⟩ := tups_kind (prog := prog) (w := w) (s := { s with heap := h' }) h2 hv'
  refine ⟨κ, fun Q E hq => hk Q hq, fun p q hm hm' => ?_⟩
  exact keyLt_any (s := { s with heap := h' }) hκ hu (hv' _ hm) (hv' _ hm') ⟨rfl, rfl⟩
end
end FoS

end FoSort
section FoRulA
set_option Elab.async false
set_option linter.all false
set_option maxRecDepth 100000
set_option maxHeartbeats 4000000
/-! sorted as rules: of a list of int tuples, of a dict with such keys. -/
namespace FoS
open PySem PySem.Spec PyProof.Rows L2
/-- at t: a tuple of these ints -/
abbrev TI (H : Hp) (t : Addr) (ns : List Int) : Prop := H t = some (.tup (ns.map V.int))
theorem TI.v {X : Cx} {pins : List (Addr × Obj)} {σ : L2.St} {H : Hp} {s : Shared} {t : Addr} {ns : List Int} (I : L2.Inv X pins σ H s) (h : TI H t ns) : TIv s.heap (.ref t) ns := by
  obtain ⟨z, its, r, ht⟩ := I.hok _ _ h
  exact ⟨t, its.toArray, rfl, ht, by rw [List.toList_toArray]; exact ints_of_vals r⟩
noncomputable def keyOf (h : Heap) (v : Value) : List Int := open Classical in if q : ∃ ns, TIv h v ns then q.choose else []
theorem keyOf_at {h : Heap} {v : Value} (q : ∃ ns, TIv h v ns) : TIv h v (keyOf h v) := by
  unfold keyOf
  rw [dif_pos q]
  exact q.choose_spec
theorem ref_map_inj : ∀ {out : List Value} {ts : List Addr}, out.Perm (ts.map Value.ref) → ∃ ts' : List Addr, out = ts'.map Value.ref ∧ ts'.Perm ts := by
  intro out ts h
  refine ⟨out.filterMap fun v => match v with | .ref a => some a | _ => none, ?_, ?_⟩
  · have hm : ∀ v ∈ out, ∃ a, v = Value.ref a := fun v hv => by
      obtain ⟨a, _, e⟩ := List.mem_map.mp (h.mem_iff.mp hv)
      exact ⟨a, e.symm⟩
    clear h
    induction out with
    | nil => rfl
    | cons v r ih =>
      obtain ⟨a, rfl⟩ := hm v List.mem_cons_self
      rw [List.filterMap_cons]
      exact congrArg (Value.ref a :: ·) (ih fun u hu => hm u (List.mem_cons_of_mem _ hu))
  · have e := h.filterMap fun v => match v with | .ref a => some a | _ => none
    rw [List.filterMap_map] at e
    have e2 : ((fun v : Value => match v with | .ref a => some a | _ => none) ∘ Value.ref) = (some : Addr → Option Addr) := rfl
    rw [e2, List.filterMap_some] at e
    exact e
section
variable {X : Cx}
/-- sorted(xs), xs a list of int tuples: a new list of the same -/
def rSortTI (K : PySem.W.Frag) : List V → Hp → VK → Prop := fun vs H Q => ∃ (a : Addr) (ts : List Addr), vs = [V.ref a] ∧ SqL K H a (ts.map V.ref) ∧ (∀ t ∈ ts, ∃ ns, TI H t ns) ∧
  ∀ (ts' : List Addr) (p : Addr), ts'.Perm ts → H p = none → Q (.ref p) (upd H p (.lst (ts'.map V.ref)))
theorem cr_sortTI (hu : X.A.in1.in1.units < cLine) : CallR X (.builtin "sorted") (rSortTI X.K) := by
  intro pins s σ H vs us Q I r h
  obtain ⟨a, ts, rfl, hs, hx, q⟩ := h
  obtain ⟨its, rv, hl, hz⟩ := I.list hs
  obtain rfl : its = ts.map Value.ref := nts_of rv
  obtain ⟨u, rfl, ru⟩ := vals1 r
  obtain rfl : u = Value.ref a := ru
  have hk : ∀ v ∈ ts.map Value.ref, TIv s.heap v (keyOf s.heap v) := fun v hv => by
    obtain ⟨t, ht, rfl⟩ := List.mem_map.mp hv
    obtain ⟨ns, e⟩ := hx t ht
    exact keyOf_at ⟨ns, TI.v I e⟩
  refine SrtO.sorted_ord (swo_lexI (keyOf s.heap)) hl.isList (by rw [List.length_map] at hz ⊢; exact hz) (fun h2 h₁ a' ha' keep => ?_) fun out h1 h2 => ?_
  · refine tups_sortable (s := { s with heap := h₁ }) h2 hu (fun v hv => (hk v hv).keep fun b o e c => (keep b o e).2) fun o e => ?_
    rw [ha'] at e
    cases e
    exact (by decide : (Value.type "list") ≠ Value.type "tuple")
  · obtain ⟨ts', rfl, hp⟩ := ref_map_inj h2.perm
    obtain ⟨ep, he'⟩ := PyProof.Rows.sortedAll_at s.heap (ts.map Value.ref) (ts'.map Value.ref).toArray
    have hlen : (ts'.map V.ref).length ≤ sizeLine := by
      rw [List.length_map, hp.length_eq]
      rw [List.length_map] at hz
      exact hz
    exact ⟨.ref _, upd H (s.heap.objs.size + 1) (.lst (ts'.map V.ref)), I.laid (t' := s.toks) (fun _ _ => PyProof.Rows.sortedAll_old) (Nat.le_succ _) ⟨hlen, _, ep, vals_refs ts', he'⟩, rfl, q _ _ hp (I.hok.fresh (Nat.le_succ _))⟩

theorem keysTI {H : Hp} : ∀ {kvs : List (List Key × V)} {ks : List (List Key × Addr × Value)}, KT H kvs ks → (∀ p ∈ kvs, ∃ ns : List Int, p.1 = ns.map Sum.inl) → ∀ t ∈ ks.map (fun x => x.2.1), ∃ ns, TI H t ns
  | _, _, .nil, _, t, ht => by cases ht
  | _, _, .cons h r, hk, t, ht => by
    rcases List.mem_cons.mp ht with e | e
    · subst e
      obtain ⟨ns, en⟩ := hk _ List.mem_cons_self
      refine ⟨ns, ?_⟩
      have h2 := h.2.1
      rw [en, List.map_map] at h2
      exact h2
    · exact keysTI r (fun p hp => hk p (List.mem_cons_of_mem _ hp)) t e
/-- sorted(d), d a dict whose keys are int tuples: a new list of its keys in some order -/
def rSortDT : List V → Hp → VK → Prop := fun xs H Q => ∃ (d : Addr) (kvs : List (List Key × V)), xs = [V.ref d] ∧ Rd H d (.dT kvs) ∧ (∀ p ∈ kvs, ∃ ns : List Int, p.1 = ns.map Sum.inl) ∧
  ∀ (bs bs' : List Addr) (p : Addr), IsKeys H kvs bs → bs'.Perm bs → H p = none → Q (.ref p) (upd H p (.lst (bs'.map V.ref)))
theorem cr_sortDT (hc : X.calm = true) (hu : X.A.in1.in1.units < cLine) : CallR X (.builtin "sorted") rSortDT := by
  intro pins s σ H xs us Q I r h
  obtain ⟨d, kvs, rfl, hd, hks, q⟩ := h
  obtain ⟨u, rfl, rx⟩ := r.one
  cases rx
  obtain ⟨z, hs, ks, pr, o, es, ep, ho, hx, hdt, he, hn⟩ := (show ObjOk X.prog X.w H s.heap d (.dT kvs) from hd.ok I.hok)
  have l1 : es.size = ks.length := size_of_entries he
  have l2 : kvs.length = ks.length := Paired.length pr
  refine Calls.call_function_entry PyProof.Rows.kind_sorted PyProof.Rows.plain_sorted PyProof.Rows.entry_sorted (PyProof.Rows.args_sorted1 _) ?_
  unfold Builtin.«sorted»
  refine wpAny_bind (m := checkCount "sorted" 1 1 _) (wpAny_pure ?_)
  refine wpAny_bind (PySem.W.kdu_collect (A := X.A.in1) (kdl_raw hs hx hdt) (I.ok.hd hc) ho (by omega) fun h' tk acc hk it => ?_)
  have ea : acc.toList = (ks.map fun x => x.2.1).map Value.ref := by
    have hl : acc.toList.length = ks.length := by rw [Array.length_toList, it.1]; exact l1
    apply List.ext_getElem?
    intro j
    rw [List.map_map, List.getElem?_map]
    cases hj : acc.toList[j]? with
    | none =>
      have h1 := List.getElem?_eq_none_iff.mp hj
      rw [List.getElem?_eq_none (by omega)]
      all_goals rfl
    | some v =>
      obtain ⟨en, hen, hv⟩ := it.2 j v (by rw [← Array.getElem?_toList]; exact hj)
      have qe := entry_at he j
      rw [hen] at qe
      cases hb : ks[j]? with
      | none =>
        rw [hb] at qe
        exact nomatch (show some en = none from qe)
      | some b =>
        rw [hb] at qe
        have e2 : en = entryOfKey (tupleKind (mixKind X.prog X.w)) b := Option.some.inj qe
        rw [hv, e2]
        all_goals rfl
  have hkT := keysTI pr hks
  have hlen : acc.toList.length ≤ sizeLine := by rw [ea, List.length_map, List.length_map]; omega
  have I1 : L2.Inv X pins σ H { s with heap := h', toks := tk } := I.kept hk
  refine wpAny_bind (wpAny_newList ?_ hlen)
  have hoL : (h'.push (seqObj "list" acc.toList.toArray 0)).get? h'.objs.size = some (seqObj "list" acc.toList.toArray 0) := Heap.get?_push_size _ rfl
  show wpAny _ _ _ _ _ { s with heap := h'.push (seqObj "list" acc.toList.toArray 0), toks := tk }
  have hkv : ∀ v ∈ acc.toList, TIv h' v (keyOf h' v) := fun v hv => by
    rw [ea] at hv
    obtain ⟨t, ht, rfl⟩ := List.mem_map.mp hv
    obtain ⟨ns, e⟩ := hkT t ht
    exact keyOf_at ⟨ns, TI.v I1 e⟩
  refine wpAny_bind (wpAny_holding (wpAny_call_entry PyProof.Rows.slot_list_sort ⟨_, hoL, rfl⟩ PyProof.Rows.entry_list_sort
    (SrtO.list_sort_ord (s := { s with heap := h'.push (seqObj "list" acc.toList.toArray 0), toks := tk }) (swo_lexI (keyOf h')) hoL hlen (fun h2 => ?_) fun out g1 g2 => ⟨_, rfl, ?_⟩) (PyProof.Rows.args_list_sort _)))
  · refine tups_sortable (s := { s with heap := h'.push (seqObj "list" acc.toList.toArray 0), toks := tk }) h2 hu (fun v hv => (hkv v hv).keep fun b o e c => Heap.get?_push_of_some _ e) fun o e => ?_
    have e' := hoL.symm.trans e
    cases e'
    exact (by decide : (Value.type "list") ≠ Value.type "tuple")
  · obtain ⟨e', he'⟩ := PyProof.Rows.sortedHeap_at (vs := acc.toList) (out := out.toArray) hoL
    have gp := g2.perm
    rw [ea] at gp
    obtain ⟨ts', rfl, hp⟩ := ref_map_inj gp
    have hl2 : (ts'.map V.ref).length ≤ sizeLine := by
      rw [List.length_map, hp.length_eq, List.length_map]
      omega
    refine wpAny_pure ⟨_, rfl, .ref h'.objs.size, upd H h'.objs.size (.lst (ts'.map V.ref)), I1.laid (t' := tk) (fun b u e => ?_) (Nat.le_refl _)
      (show ObjOk X.prog X.w _ _ _ (.lst (ts'.map V.ref)) from ⟨hl2, _, e', vals_refs ts', he'⟩), rfl, q _ _ _ (isKeys_of pr) hp (I1.hok.fresh (Nat.le_refl _))⟩
    have hb : b < h'.objs.size := Heap.lt_size e
    rw [PyProof.Rows.sortedHeap_old (Nat.ne_of_lt hb) (by rw [size_push']; exact Nat.lt_succ_of_lt hb)]
    exact Heap.get?_push_of_some _ e
end
end FoS

end FoRulA
section FoRulB
set_option Elab.async false
set_option linter.all false
set_option maxRecDepth 100000
set_option maxHeartbeats 4000000
/-! max of pairs, x in a tuple, >= of tuples, a tuple times a number. -/
namespace FoS
open PySem PySem.Spec PyProof.Rows L2 PySem.W
abbrev tD (ns : List Int) : PyData := .tuple (ns.map PyData.int)
abbrev pD (g : Int) (ns : List Int) : PyData := .tuple [.int g, tD ns]
theorem dpI {K : PySem.W.Frag} {H : Hp} : ∀ ns : List Int, DpAll K H (ns.map V.int) (ns.map PyData.int)
  | [] => .nil
  | n :: ns => .cons (.int n) (dpI ns)
theorem dpT {K : PySem.W.Frag} {H : Hp} {t : Addr} {ns : List Int} (h : SqT K H t (ns.map V.int)) : Dp K H (.ref t) (tD ns) := .tup h (dpI ns)
theorem TI.sq {K : PySem.W.Frag} {H : Hp} {t : Addr} {ns : List Int} (h : TI H t ns) : SqT K H t (ns.map V.int) := SqT.of h
theorem dpP {K : PySem.W.Frag} {H : Hp} {p t : Addr} {g : Int} {ns : List Int} (h : SqT K H p [.int g, .ref t]) (h2 : SqT K H t (ns.map V.int)) : Dp K H (.ref p) (pD g ns) := .tup h (.cons (.int g) (.cons (dpT h2) .nil))
theorem depth_ints : ∀ ns : List Int, PyData.depthAll (ns.map PyData.int) = 0
  | [] => by simp [PyData.depthAll]
  | n :: ns => by simp [PyData.depthAll, PyData.depth, depth_ints ns]
theorem depth_tD (ns : List Int) : (tD ns).depth = 1 := by simp [PyData.depth, depth_ints]
theorem depth_pD (g : Int) (ns : List Int) : (pD g ns).depth = 2 := by simp [PyData.depth, PyData.depthAll, depth_ints]
theorem lay_ints : ∀ ns : List Int, PyData.canLayAll0 (ns.map PyData.int) = true
  | [] => by simp [PyData.canLayAll0]
  | n :: ns => by simp [PyData.canLayAll0, PyData.canLay0, lay_ints ns]
theorem lay_tD (ns : List Int) : (tD ns).canLay0 = true := by simp [PyData.canLay0, lay_ints]
theorem shaped_tD (ns : List Int) : SeqAt.shaped (tD ns) = true := by
  unfold SeqAt.shaped
  rw [lay_tD, depth_tD]
  rfl
theorem eqvAll_ints : ∀ ns ms : List Int, PyData.eqvAll (ns.map PyData.int) (ms.map PyData.int) = decide (ns = ms)
  | [], [] => by simp [PyData.eqvAll]
  | [], m :: ms => by simp [PyData.eqvAll]
  | n :: ns, [] => by simp [PyData.eqvAll]
  | n :: ns, m :: ms => by
    rw [List.map_cons, List.map_cons, eqv_all_cons, eqvAll_ints ns ms]
    by_cases h : n = m <;> by_cases h2 : ns = ms <;> simp [PyData.eqv, h, h2]
theorem eqv_tD (ns ms : List Int) : PyData.eqv (tD ns) (tD ms) = decide (ns = ms) := by
  rw [← eqvAll_ints]
  simp [PyData.eqv]
theorem alike_ints : ∀ ns ms : List Int, alikeAll (ns.map PyData.int) (ms.map PyData.int) = true
  | [], ms => by simp [alikeAll]
  | n :: ns, [] => by simp [alikeAll]
  | n :: ns, m :: ms => by simp [alikeAll, alike, alike_ints ns ms]
theorem alike_tD (ns ms : List Int) : alike (tD ns) (tD ms) = true := by simp [alike, alike_ints]
theorem alike_pD (g g' : Int) (ns ms : List Int) : alike (pD g ns) (pD g' ms) = true := by simp [alike, alikeAll, alike_ints]
theorem lt_pD {g g' : Int} {ns ms : List Int} : (dataLt (pD g ns) (pD g' ms) = true → g ≤ g') ∧ (dataLt (pD g ns) (pD g' ms) = false → g' ≤ g) := by
  rw [dataLt_pair (by simp [alike]) (alike_tD ns ms), dataLt_int]
  by_cases e : g = g'
  · exact ⟨fun _ => by omega, fun _ => by omega⟩
  · have : PyData.eqv (.int g) (.int g') = false := by simp [PyData.eqv, e]
    rw [this]
    simp only [Bool.false_eq_true, if_false, decide_eq_true_eq, decide_eq_false_iff_not]
    exact ⟨fun _ => by omega, fun _ => by omega⟩
theorem argBest_max (f : Nat → Int) (bt : Nat → Nat → Bool) (N : Nat) (h1 : ∀ i j, i ≤ N → j ≤ N → bt i j = true → f j ≤ f i) (h2 : ∀ i j, i ≤ N → j ≤ N → bt i j = false → f i ≤ f j) : ∀ k, k ≤ N → argBest bt k ≤ k ∧ ∀ i ≤ k, f i ≤ f (argBest bt k)
  | 0, _ => ⟨Nat.le_refl _, fun i hi => by
      obtain rfl : i = 0 := by omega
      exact Int.le_refl _⟩
  | k + 1, hk => by
    obtain ⟨a, b⟩ := argBest_max f bt N h1 h2 k (by omega)
    unfold argBest
    cases hb : bt (k + 1) (argBest bt k) with
    | true =>
      simp only [if_true]
      refine ⟨Nat.le_refl _, fun i hi => ?_⟩
      rcases Nat.lt_or_ge i (k + 1) with h | h
      · exact Int.le_trans (b i (by omega)) (h1 _ _ (by omega) (by omega) hb)
      · obtain rfl : i = k + 1 := by omega
        exact Int.le_refl _
    | false =>
      simp only [Bool.false_eq_true, if_false]
      refine ⟨by omega, fun i hi => ?_⟩
      rcases Nat.lt_or_ge i (k + 1) with h | h
      · exact b i (by omega)
      · obtain rfl : i = k + 1 := by omega
        exact h2 _ _ (by omega) (by omega) hb
section
variable {X : Cx}
/-- max(xs), xs a list of pairs (number, int tuple): one of them with the greatest number -/
def rMaxP (K : PySem.W.Frag) : List V → Hp → VK → Prop := fun vs H Q => ∃ (a : Addr) (ps : List Addr) (f : Addr → Int) (k : Addr → List Int), vs = [V.ref a] ∧ SqL K H a (ps.map V.ref) ∧ ps ≠ [] ∧
  (∀ p ∈ ps, ∃ t, H p = some (.tup [.int (f p), .ref t]) ∧ TI H t (k p)) ∧ ∀ m ∈ ps, (∀ p ∈ ps, f p ≤ f m) → Q (.ref m) H
theorem dp_map {K : PySem.W.Frag} {H : Hp} {f : Addr → Int} {k : Addr → List Int} : ∀ {ps : List Addr}, (∀ p ∈ ps, ∃ t, H p = some (.tup [.int (f p), .ref t]) ∧ TI H t (k p)) → DpAll K H (ps.map V.ref) (ps.map fun p => pD (f p) (k p))
  | [], _ => .nil
  | p :: ps, h => by
    obtain ⟨t, h1, h2⟩ := h p List.mem_cons_self
    exact .cons (dpP (SqT.of h1) (SqT.of h2)) (dp_map fun q hq => h q (List.mem_cons_of_mem _ hq))
theorem depth_map (f : Addr → Int) (k : Addr → List Int) : ∀ ps : List Addr, PyData.depthAll (ps.map fun p => pD (f p) (k p)) ≤ 2
  | [] => by simp [PyData.depthAll]
  | p :: ps => by
    rw [List.map_cons, PyData.depthAll]
    have := depth_map f k ps
    rw [depth_pD]
    omega
theorem cr_maxP (hc : X.calm = true) (hu : X.A.units + 64 < cLine) : CallR X (.builtin "max") (rMaxP X.K) := by
  intro pins s σ H vs us Q I r h
  obtain ⟨a, ps, f, k, rfl, hs, hne, hx, q⟩ := h
  obtain ⟨its, rv, hl, hz⟩ := I.list hs
  obtain rfl : its = ps.map Value.ref := nts_of rv
  obtain ⟨u, rfl, ru⟩ := vals1 r
  obtain rfl : u = Value.ref a := ru
  obtain ⟨as, hr⟩ := Dp.readsAll I _ _ _ (dp_map hx) rv
  have hr' : ReadsAll s.heap (ps.map Value.ref).toArray.toList (ps.map fun p => pD (f p) (k p)) as := by rw [List.toList_toArray]; exact hr
  have hal : AlikeAll (ps.map fun p => pD (f p) (k p)) := by
    refine ⟨fun x hx y hy => ?_, fun x hx => ?_⟩
    · obtain ⟨p, _, rfl⟩ := List.mem_map.mp hx
      obtain ⟨p', _, rfl⟩ := List.mem_map.mp hy
      exact alike_pD _ _ _ _
    · obtain ⟨p, _, rfl⟩ := List.mem_map.mp hx
      exact fun z => nomatch z
  have hn : 0 < ps.length := List.length_pos_iff.mpr hne
  refine call_max_walkH (iter_listW (A := X.A.in1) (I.ok.hd hc) hl.isList fun s₂ e W st hfp hw hk => ?_)
  refine ⟨_, _, _, _, _, _, _, s.heap, _, rfl, W, st, hfp, by simpa using hn, hw, hk, cmpIn_gt (A := X.A.in1) hr' hal (by have := depth_map f k ps; show X.A.units + 1 + _ < _; omega), fun v s' hP m => ?_⟩
  obtain ⟨h', tk, rfl, hk'⟩ := moved_old e rfl m
  have hlen : (ps.map Value.ref).toArray.size - 1 = ps.length - 1 := by simp
  rw [hlen] at hP
  have hg : ∀ i (hi : i < ps.length), (ps.map fun p => pD (f p) (k p)).getD i .none = pD (f ps[i]) (k ps[i]) := fun i hi => by
    rw [List.getD_eq_getElem?_getD, List.getElem?_map, List.getElem?_eq_getElem hi]
    rfl
  have hf : ∀ i (hi : i < ps.length), f (ps.getD i 0) = f ps[i] := fun i hi => by
    rw [List.getD_eq_getElem?_getD, List.getElem?_eq_getElem hi]
    rfl
  obtain ⟨b1, b2⟩ := argBest_max (fun i => f (ps.getD i 0)) (fun i j => dataLt ((ps.map fun p => pD (f p) (k p)).getD j .none) ((ps.map fun p => pD (f p) (k p)).getD i .none)) (ps.length - 1)
    (fun i j hi hj hb => by
      show f (ps.getD _ 0) ≤ f (ps.getD _ 0)
      rw [hf i (by omega), hf j (by omega)]
      simp only [hg i (by omega), hg j (by omega)] at hb
      exact lt_pD.1 hb)
    (fun i j hi hj hb => by
      show f (ps.getD _ 0) ≤ f (ps.getD _ 0)
      rw [hf i (by omega), hf j (by omega)]
      simp only [hg i (by omega), hg j (by omega)] at hb
      exact lt_pD.2 hb) (ps.length - 1) (Nat.le_refl _)
  generalize argBest _ _ = j at hP b1 b2
  have hj : j < ps.length := by omega
  have hv : v = Value.ref ps[j] := by
    rw [List.getElem?_toArray, List.getElem?_map, List.getElem?_eq_getElem hj] at hP
    exact (Option.some.inj hP).symm
  subst hv
  refine ⟨.ref ps[j], H, I.kept hk', rfl, q _ (List.getElem_mem hj) fun p hp => ?_⟩
  obtain ⟨i, hi, rfl⟩ := List.mem_iff_getElem.mp hp
  have : f (ps.getD i 0) ≤ f (ps.getD j 0) := b2 i (by omega)
  rw [hf i hi, hf j hj] at this
  exact this

/-- x in t, t a tuple of data -/
def rInT (K : PySem.W.Frag) : R2 := fun x y H Q => ∃ d ds, Dp K H x d ∧ Dp K H y (.tuple ds) ∧ SeqAt.shaped d = true ∧ SeqAt.shaped (.tuple ds) = true ∧ Q (.bl (ds.any fun z => PyData.eqv z d)) H
theorem op_inT (hu : X.A.units + 65 < cLine) : OpR X (compareOp .In) (rInT X.K) := by
  intro pins s σ H x y v u Q I rx ry h
  obtain ⟨d, ds, hd, he, sd, se, q⟩ := h
  obtain ⟨as, r1⟩ := Dp.reads I d x v hd rx
  obtain ⟨bs, r2⟩ := Dp.reads I (.tuple ds) y u he ry
  exact SeqAt.in_tuple_reads r2 r1 (SeqAt.canLay_of_shaped se) (SeqAt.canLay_of_shaped sd) (room_in_shaped sd hu) ⟨.bl _, H, I, rfl, q⟩
/-- t >= u, both pairs of ints -/
def rGeP (K : PySem.W.Frag) : R2 := fun x y H Q => ∃ a b i j i' j', x = .ref a ∧ y = .ref b ∧ SqT K H a [.int i, .int j] ∧ SqT K H b [.int i', .int j'] ∧ Q (.bl (!decide (i < i' ∨ (i = i' ∧ j < j')))) H
theorem op_geP (hu : X.A.units + 65 < cLine) : OpR X (compareOp .GtE) (rGeP X.K) := by
  intro pins s σ H x y v u Q I rx ry h
  obtain ⟨a, b, i, j, i', j', rfl, rfl, ha, hb, q⟩ := h
  obtain ⟨as, r1⟩ := Dp.reads I (.tuple [.int i, .int j]) (.ref a) v (.tup ha (.cons (.int i) (.cons (.int j) .nil))) rx
  obtain ⟨bs, r2⟩ := Dp.reads I (.tuple [.int i', .int j']) (.ref b) u (.tup hb (.cons (.int i') (.cons (.int j') .nil))) ry
  rw [← dataLt_ii] at q
  exact ge_data r1 r2 (by simp [alike, alikeAll]) (fun z => nomatch z) (by simp [PyData.depth, PyData.depthAll]; omega) ⟨.bl _, H, I, rfl, q⟩
/-- t * 1 is t -/
def rRep1 (K : PySem.W.Frag) : R2 := fun x y H Q => ∃ l xs, x = .ref l ∧ y = .int 1 ∧ SqT K H l xs ∧ Q (.ref l) H
theorem tuple_mul1 (l : Addr) (items : Array Value) (n : Nat) (dd : Option Addr) (sl : Array (Option Value)) (u : Tok) :
    Meets (Builtin.«tuple.__mul__» ⟨[.ref l, .int 1 u], []⟩) (fun _ R s => s.heap.get? l = some { cls := .type "tuple", dict := dd, data := .seq items n, slots := sl } ∧
      R (.ok (.ret (Value.ref l))) s) :=
  .of_wp fun prog w A R s h => by
    obtain ⟨hp, g, d, tk, os⟩ := s
    obtain ⟨hl, h⟩ := h
    have f1 := AutoSeq1.idx_int
    have c0 : (decide ((1 : Int) < -(2 ^ 63)) || decide ((1 : Int) ≥ 2 ^ 63)) = false := by decide
    have c1 : (items.isEmpty || (1 : Int) == 1) = true := by simp
    wp_walk using AutoSeq1.wpAny_loadPart' hl
    exact ⟨_, rfl, h⟩
theorem op_rep1 : OpR X (binaryOp .Mult) (rRep1 X.K) := by
  intro pins s σ H x y v u Q I rx ry h
  obtain ⟨l, xs, rfl, rfl, hT, q⟩ := h
  cases rx
  obtain ⟨t, rfl⟩ := ry
  obtain ⟨its, r, ⟨⟨cls, dd, data, sl⟩, ho, hc, n, hd⟩, hs⟩ := I.tuple hT
  simp only at hc hd
  subst hc hd
  refine wpAny_binaryOp_repeat_ref (T := "tuple") (U := "int") (by decide) ⟨_, ho, rfl⟩ (fun s' => typeIs_int s' 1 t) noFill_tuple_mul F.fills_int_mul F.slot_int_rmul repeat_tuple F.slot_int_index.lookup
    (call_meets F.slot_int_rmul (typeIs_int s 1 t) F.entry_int_rmul (F.args_int_rmul_2 _ _) (int_rmul_tuple 1 t l its.toArray n dd sl)
      ⟨ho, rfl, ⟨_, ho, rfl⟩, call_meets F.slot_tuple_mul ⟨_, ho, rfl⟩ F.entry_tuple_mul (F.args_tuple_mul_2 _ _) (tuple_mul1 l its.toArray n dd sl t) ⟨ho, ?_⟩⟩)
  exact ⟨.ref l, H, I, rfl, q⟩
/-- (z,) * k, k from 1 to 1000: a tuple of k times z -/
def rRepZ (K : PySem.W.Frag) : R2 := fun x y H Q => ∃ l k z, x = .ref l ∧ y = .int k ∧ H l = some (.tup [z]) ∧ 1 ≤ k ∧ k ≤ 1000 ∧ ∀ p H', Same H H' → H' p = some (.tup (List.replicate k.toNat z)) → Q (.ref p) H'
theorem op_repZ : OpR X (binaryOp .Mult) (rRepZ X.K) := by
  intro pins s σ H x y v u Q I rx ry h
  obtain ⟨l, k, z, rfl, rfl, hl, h1, h2, q⟩ := h
  by_cases e : k = 1
  · subst e
    exact op_rep1 pins s σ H _ _ v u Q I rx ry ⟨l, [z], rfl, rfl, SqT.of hl, q l H (fun _ _ e => e) hl⟩
  · refine op_repT pins s σ H _ _ v u Q I rx ry ⟨l, k, [z], rfl, rfl, SqT.of hl, by simp, by omega, h2, by simp, fun p hp => q p _ (fun b o e => ?_) ?_⟩
    · rw [upd_ne (ne_of_none e hp)]
      exact e
    · rw [upd_same]
      congr 2
      induction k.toNat with
      | zero => rfl
      | succ n ih => rw [List.replicate_succ, List.flatten_cons, ih, List.replicate_succ]; rfl
end
end FoS

end FoRulB
section FoRulC
set_option Elab.async false
set_option linter.all false
set_option maxRecDepth 100000
set_option maxHeartbeats 4000000
/-! {k: v}, k a tuple. -/
namespace FoS
open PySem PySem.Spec PyProof.Rows L2
/-- {k: v}, k a tuple: the new dict stands empty while k and v are made -/
def tDispT (tk tv : TE) : TE := fun σ H Q => ∀ p, H p = none → tk σ (upd H p (.dT [])) fun x H1 => tv σ H1 fun y H2 => H2 p = some (.dT []) ∧ ∃ (b : Addr) (k : List Key), x = .ref b ∧ H2 b = some (.tup (k.map kV)) ∧ Q (.ref p) (upd H2 p (.dT [(k, y)]))
theorem pe_dispT {X : Cx} {pos : Pos} {k v : Expr} {tk tv : TE} (hu : X.A.units + 1 < cLine) (hk : PE X k tk) (hv : PE X v tv) : PE X (.Dict [some k] [v] pos) (tDispT tk tv) := by
  refine ⟨fun pins s σ H Q I q => ?_⟩
  have hn := I.hok.fresh (Nat.le_refl s.heap.objs.size)
  have I1 := I.laid (a := s.heap.objs.size) (o := .dT []) (h' := s.heap.push { cls := .type "dict", data := .dict #[] }) (t' := s.toks) (fun _ _ q => Heap.get?_push_of_some _ q) (Nat.le_refl _) (dt_empty s.heap I.big)
  have hz15 : (pairTrees [some k] [v] X.env pos).length ≤ 15 := by
    show 1 ≤ 15
    decide
  have hu0 : (tupleKind (mixKind X.prog X.w)).room X.A := show X.A.units < cLine by omega
  rw [arm_eval_Dict, zip_pairTrees [some k] [v] X.env pos rfl rfl, dictDisplay_pairs (pairTrees [some k] [v] X.env pos) (fun z => nomatch z) (by omega)]
  refine wpAny_bind (wpAny_standAt (wpAny_bind (wpAny_subDictH (knd := tupleKind (mixKind X.prog X.w)) hu0 hz15 ?_)))
  refine pairTrees_cons_walk (thn (hk.run pins _ σ _ _ I1 (q _ hn)) fun u s1 ⟨x, H1, J1, rx, q1⟩ => thn (hv.run pins s1 σ H1 _ J1 q1) fun w2 s2 ⟨y, H2, J2, ry, q2⟩ => pairTrees_nil_walk ?_)
  obtain ⟨e, b, ks, rfl, hb, q3⟩ := q2
  cases rx
  obtain ⟨z, hd, xs, rel, dd⟩ := dt_of J2.hok e
  have rel0 := rel
  cases rel
  refine ⟨[(ks, b, w2)], ⟨rfl, rfl, key_of J2.hok hb, True.intro⟩, dd, fun h' tk dd' hs => wpAny_pure ⟨.ref s.heap.objs.size, _, ?_, rfl, q3⟩⟩
  have dd2 : h'.DictOfH (tupleKind (mixKind X.prog X.w)) s.heap.objs.size (storedH [] ks b w2) := dd'
  have he : ∃ q, h'.get? s.heap.objs.size = some q := let ⟨q, _, _, hq, _⟩ := dd2; ⟨q, hq⟩
  obtain ⟨q', es, ep, hq, h2, h3, h4, _, h5⟩ := dd2
  refine d_write J2 (by rw [e]; exact True.intro) hs he ⟨Nat.le_trans (by decide : 1 ≤ 2) (by decide : 2 ≤ sizeLine), hd, _, (rel0.put ks hb ry).keeps fun c ys ec => ?_, q', es, ep, hq, h2, h3, h4, h5⟩
  rw [upd_ne (ne_of ec e (fun z => nomatch z))]
  exact ec
end FoS

end FoRulC
section FoRulD
set_option Elab.async false
set_option linter.all false
set_option maxRecDepth 100000
set_option maxHeartbeats 4000000
/-! sorted(xs, key=lambda one: found[one]), found a dict of int tuples by int tuples. -/
namespace FoS
open PySem PySem.Spec PyProof.Rows L2 PySem.W LamX
theorem readsI {h : Heap} : ∀ {us : List Value} {ns : List Int}, IntsAre us ns → ReadsAll h us (ns.map PyData.int) []
  | _, _, .nil => .nil
  | _, _, .cons n t r => ReadsAll.cons (as := []) (bs := []) (.int n t) (readsI r)
theorem readsT {h : Heap} {v : Value} {ns : List Int} (t : TIv h v ns) : Reads h v (tD ns) [] := by
  obtain ⟨a, its, rfl, ⟨o, ho, hc, n, hd⟩, hi⟩ := t
  exact .tuple ho hc hd (readsI hi)

section
variable {prog : Program} {w : World} {A : Around} {E : Value → Shared → Prop} {s : Shared}
/-- the sort of one item by a key -/
theorem one_rest {a kS : Addr} {e1 : Nat} {P : PySem.Fin → Shared → Prop} {f v : Value} {k : PyData} (nk : s.heap.get? kS = some (seqObj "list" #[] 0)) (na : s.heap.get? a = some (seqObj "list" #[] e1)) (hka : kS ≠ a) {h₁ : Heap} (kp : KeepsBut a h₁ s.heap) (hkS : h₁.get? kS = none)
    (turn : wpAny (model prog w) A (call f [v]) (KeyPure k s) (fun _ _ => False) s)
    (h : ∀ h' tk c, KeepsBut a h₁ h' → h'.get? a = some (seqObj "list" #[v] c) → P (.done (.ret .none)) { s with heap := h', toks := tk }) :
    wpAny (model prog w) A (ksk_rest a f false #[v] e1 (.ref kS)) P E s := by
  unfold ksk_rest
  refine wpAny_bind (wpAny_rule ?_)
  refine wpAny_bind (m := forIn #[v] PUnit.unit _) ?_
  rw [← Array.forIn_toList]
  rw [List.forIn_cons]
  refine wpAny_bind (wpAny_bind (wpAny_attempt (wpAny_mono turn (fun u s'' he => ?_) fun _ _ hF => hF.elim)))
  obtain ⟨g, tk2, rfl, hg, hr⟩ := he
  try dsimp only
  have nk2 : g.get? kS = some (seqObj "list" #[] 0) := hg _ _ nk
  have na2 : g.get? a = some (seqObj "list" #[] e1) := hg _ _ na
  have s1 := Heap.SameBut.update g kS (Obj.mapSeq (·.push u))
  obtain ⟨c2, hc2⟩ : ∃ c2, (g.update kS (Obj.mapSeq (·.push u))).get? kS = some (seqObj "list" (#[].push u) c2) := ⟨_, get?_update_seq nk2 (·.push u)⟩
  refine wpAny_bind (listUpdate_at nk2 rfl ?_ (Nat.zero_le _) (by show 1 ≤ sizeLine + 1; omega))
  refine wpAny_pure ?_
  (try dsimp only)
  rw [List.forIn_nil]
  refine wpAny_pure ?_
  refine wpAny_bind (listItems_at hc2 rfl ?_)
  unfold ksk_end
  try dsimp only
  simp only [Bool.false_eq_true, if_false]
  have h2 : (#[v] : Array Value).size < 2 := by simp
  rw [if_pos h2, if_pos h2]
  refine wpAny_bind (wpAny_pure ?_)
  rw [StateT.run_pure]
  refine wpAny_bind (wpAny_pure ?_)
  try dsimp only
  have ho : (if false = true then ((arrOf (SortSt.mk' general' ((#[].push u).zip #[v]) #[] 7 none)).map (·.2)).reverse else (arrOf (SortSt.mk' general' ((#[].push u).zip #[v]) #[] 7 none)).map (·.2)) = [v].toArray := by
    rw [if_neg (by decide)]
    have e : arrOf (SortSt.mk' general' ((#[].push u).zip #[v]) #[] 7 none) = (#[].push u).zip #[v] := rfl
    rw [e]
    simp
  exact keyH_tail (s := { s with heap := g.update kS (Obj.mapSeq (·.push u)), toks := tk2 }) (st := SortSt.mk' general' ((#[].push u).zip #[v]) #[] 7 none) (out := [v]) (b := false) (keys := #[].push u) (e := c2) (e1 := e1) (h₁ := h₁)
    ((kp.trans_all hg).same s1 (.inr hkS)) hkS hc2 ((s1.2 a hka.symm).trans na2) hka (by show 1 ≤ sizeLine; decide) (by show 1 ≤ sizeLine; decide) rfl ho h
theorem one_sorted {l : Addr} {f v : Value} {kw : List (Str × Value)} {k : PyData} {Q : Value → Shared → Prop} (hl : s.heap.IsList l #[v])
    (ha1 : argsOk "sorted" ⟨[.ref l], kw⟩) (ha2 : ∀ x, argsOk "list.sort" ⟨[.ref x], kw⟩) (ht : ∀ x, Builtin.«list.sort» ⟨[.ref x], kw⟩ = ksk_tree x f false)
    (turn : ∀ (h : Heap) (tk : Nat), (∀ b o, s.heap.get? b = some o → h.get? b = some o) → wpAny (model prog w) A.in1.in1 (call f [v]) (KeyPure k { s with heap := h, toks := tk }) (fun _ _ => False) { s with heap := h, toks := tk })
    (h : ∀ c h' tk, (∀ b o, s.heap.get? b = some o → h'.get? b = some o) → h'.get? (s.heap.objs.size + 1) = some (seqObj "list" #[v] c) → Q (.ref (s.heap.objs.size + 1)) { s with heap := h', toks := tk }) :
    wpAny (model prog w) A (call (.builtin "sorted") [.ref l] kw) Q E s := by
  have up : ∀ {g : Heap}, KeepsBut (s.heap.objs.size + 1) (copyHeap s.heap [v]) g → ∀ b o, s.heap.get? b = some o → g.get? b = some o := fun {g} kp b o q =>
    kp b o (Nat.ne_of_lt (Nat.lt_succ_of_lt (Heap.lt_size q))) (copyHeap_old q)
  refine sorted_of_sort (vs := [v]) hl (by show 1 ≤ sizeLine; decide) ha1 ha2 fun E' => ?_
  rw [ht]
  have ho := copyHeap_at s.heap [v]
  generalize hH : copyHeap s.heap [v] = H at ho up
  generalize hA : s.heap.objs.size + 1 = a at ho up h
  have ha : a < H.objs.size := Heap.lt_size ho
  obtain ⟨e1, ho1⟩ : ∃ e1, (H.update a (Obj.mapSeq fun _ => (#[] : Array Value))).get? a = some (seqObj "list" #[] e1) := ⟨_, get?_update_seq ho fun _ => #[]⟩
  have hkS : ((H.update a (Obj.mapSeq fun _ => (#[] : Array Value))).push (seqObj "tuple" [v].toArray 0)).objs.size = H.objs.size + 1 := by rw [size_push', Heap.size_update]
  unfold ksk_tree
  refine wpAny_bind (listItems_at ho rfl ?_)
  refine wpAny_bind (listUpdate_at ho rfl ?_ (by show 1 ≤ sizeLine; decide) (Nat.zero_le _))
  refine wpAny_bind (seqEpoch_at ho1 rfl ?_)
  refine wpAny_bind (wpAny_newTuple ?_ (by show 1 ≤ sizeLine; decide))
  refine wpAny_bind (wpAny_newList ?_ (Nat.zero_le _))
  refine wpAny_holding ?_
  have kp : KeepsBut a H (sortingHeap H a [v]) := fun b o hb q => sortingHeap_old hb q
  exact one_rest (h₁ := H) (k := k) (s := { s with heap := ((H.update a (Obj.mapSeq fun _ => (#[] : Array Value))).push (seqObj "tuple" [v].toArray 0)).push (seqObj "list" #[] 0) }) (kS := ((H.update a (Obj.mapSeq fun _ => (#[] : Array Value))).push (seqObj "tuple" [v].toArray 0)).objs.size)
    (Heap.get?_push_size _ rfl) (Heap.get?_push_of_some _ (Heap.get?_push_of_some _ ho1)) (by rw [hkS]; exact Nat.ne_of_gt (Nat.lt_succ_of_lt ha)) kp (Heap.get?_none_of_le (by rw [hkS]; exact Nat.le_succ _)) (turn _ _ (up kp)) fun h' tk c kp' he => ⟨rfl, h c h' tk (up kp') he⟩
end

section
variable {X : Cx} {pins : List (Addr × Obj)} {σ : L2.St} {H : Hp} {s : Shared}
/-- found[one], called -/
theorem lam_key {f c' d cf t b : Addr} {q : Str} {p1 p2 pos : Pos} {params : Arguments} {scope : Scope} {clos : List (Str × Addr)} {pm ctv : Value} {fx ox : Str} {kvs : List (List Key × V)} {ns ms : List Int} {A : Around} {h : Heap} {tk : Nat} (I : L2.Inv X pins σ H s)
    (kp : ∀ b o, s.heap.get? b = some o → h.get? b = some o) (hroom : A.depth < recursionLimit) (hu : (A.deeper X.env).units + 1 < cLine)
    (hf : s.heap.get? f = some (PySem.W.kla_obj "<lambda>" q params (.Subscript (.Name fx p1) (.Name ox p2) pos) scope clos pm c' ctv)) (hco : H c' = some (CodeO c' q))
    (hS : scope.kind = .function ∧ scope.isCoroutine = false ∧ scope.isGenerator = false) (hcell : ∀ x ∈ scope.names, x.2 ≠ .cell) (hlo : scope.names.lookup ox = some .local) (hfr : scope.names.lookup fx = some .free)
    (hbind : ∀ v, bindArgs (PySem.W.kla_fn "<lambda>" q params (.Subscript (.Name fx p1) (.Name ox p2) pos) scope clos pm (.ref c') ctv) ⟨[v], []⟩ = pure [(ox, v)])
    (hcf : clos.lookup fx = some cf) (hcv : s.heap.IsCell cf (some (.ref d)))
    (ht : TI H t ns) (hd : H d = some (.dT kvs)) (hv : valV kvs (ns.map Sum.inl) = some (.ref b)) (hb : TI H b ms)
    (hd1 : (fx == ("__debug__" : Str)) = false := by decide) (hd2 : (ox == ("__debug__" : Str)) = false := by decide) (hd3 : (fx == ("__classdict__" : Str)) = false := by decide) :
    wpAny (model X.prog X.w) A (call (.ref f) [.ref t]) (KeyPure (tD ms) { s with heap := h, toks := tk }) (fun _ _ => False) { s with heap := h, toks := tk } := by
  have J : L2.Inv X pins σ H { s with heap := h, toks := tk } := I.kept kp
  obtain ⟨⟨oc, vs, tc, hoc, hdc, hvc⟩, _, _⟩ := J.hok c' _ hco
  refine wpAny_call (PySem.W.kla_callFunE hroom (kp _ _ hf) rfl hS.2.1 hS.2.2 rfl ⟨c', oc, vs, tc, rfl, hoc, hdc, hvc⟩ ?_)
  rw [hbind]
  refine wpAny_pure (wpAny_newFunctionEnv hcell (fun x hx => ?_) (fun h₁ hns hsb => ⟨J.nolimit.fresh _ hsb, ?_⟩) hS.1)
  · rw [List.mem_singleton.mp hx]
    exact hlo
  have kp1 : ∀ b o, h.get? b = some o → h₁.get? b = some o := fun b o e => hsb.extBut b o (Nat.ne_of_lt (Heap.lt_size e)) (Heap.get?_push_of_some _ e)
  have ok1 : HOk X.prog X.w H h₁ := J.hok.kept kp1
  refine PySem.W.kla_codeExpr ?_
  obtain ⟨z, hdm, xs, rel, dd⟩ := dt_rd (P := X.prog) (w := X.w) ok1 (.inl hd)
  obtain ⟨w', hw, rw'⟩ := RelO.some_of (v := V.ref b) (o := (atKey xs (ns.map Sum.inl)).map (·.2)) (by rw [← hv]; exact rel.val _)
  obtain ⟨p, hp, hp2⟩ := Option.map_eq_some_iff.mp hw
  cases rw'
  have ht' : H t = some (.tup ((ns.map (Sum.inl : Int → Key)).map kV)) := by rw [List.map_map]; exact ht
  refine wpAny_Subscript_Name_late (wpAny_Name (wpAny_loadName_free (c := cf) (v := .ref d) hS.1 hfr hcf ((hcv.keeps kp).keeps kp1) ?_ hd3) hd1)
  refine wpAny_Name (wpAny_loadName_local (v := .ref t) hS.1 hlo hns (by simp) ?_) hd2
  refine ⟨"dict", _, PySem.slot_dict_getitem.lookup, dd.typeIs, ?_⟩
  refine wpAny_getItem_heap (k := ns.map Sum.inl) (tupleKind_room_in1 hu) (key_of ok1 ht') dd hp ?_
  rw [hp2]
  refine ⟨h₁, _, rfl, kp1, readsT ?_⟩
  obtain ⟨z2, its, r2, hts⟩ := ok1 b _ hb
  exact ⟨b, its.toArray, rfl, hts, by rw [List.toList_toArray]; exact ints_of_vals r2⟩
end
/-! ### the lambda is made: but for the table at P all stays as it was -/
section
variable {X : Cx} {pins : List (Addr × Obj)} {σ : L2.St} {H : Hp} {s : Shared}
def LKept (P : Addr) (H H' : Hp) : Prop := ∀ b o, b ≠ P → H b = some o → H' b = some o
theorem lam_make3 {c P : Addr} {params : Arguments} {body : Expr} {scope : Scope} {pos : Pos} {E : Value → Shared → Prop} {Q : Value → Shared → Prop} (I : L2.Inv X pins σ H s) (TB : LamX.TabB X.base X.mg c P) (hcode : X.env.code = .ref c)
    (hT : TabS H P (X.env.qual ++ "<lambda>")) (hdef : defaultsOf params X.env = ([], [])) (hfree : ∀ y ∈ scope.names, y.2 = .free → ∃ c, X.env.cells.lookup y.1 = some c)
    (h : ∀ (f c' : Addr) (pm ctv : Value) (H1 : Hp) (s' : Shared), L2.Inv X pins σ H1 s' → LKept P H H1 → TabS H1 P (X.env.qual ++ "<lambda>") →
      s'.heap.get? f = some (PySem.W.kla_obj "<lambda>" (X.env.qual ++ "<lambda>") params body scope (cloFrom X.env.cells scope.names []) pm c' ctv) → H1 c' = some (CodeO c' (X.env.qual ++ "<lambda>")) → Q (.ref f) s') :
    wpAny (model X.prog X.w) X.A (eval (.Lambda params body scope pos) X.env) Q E s := by
  obtain ⟨ps, hP, ht, hq⟩ := id hT
  have hPh : s.heap.get? P = some { cls := .none, data := .fields ps } := I.hok P _ hP
  refine PySem.W.kla_eval hdef ?_
  cases hc : codeAmong pos ps.toList with
  | some cv =>
    obtain ⟨c', rfl, hco⟩ := hq pos cv hc
    refine PySem.W.kla_makeFunctionHit (mg := X.mg) (c := c) (P := P) (ps := ps) (closure_ok hfree) I.ok.glob (I.mod.glob.keeps I.bk) hcode (TB.code.keeps I.bk) hPh ht hc (TB.bm.keeps I.bk) fun ctv h' tk hx hsz => ?_
    exact h h'.objs.size c' _ ctv H _ (I.kept fun b o e => Heap.get?_push_of_some _ (hx b o e)) (fun _ _ _ e => e) hT (Heap.get?_push_size _ rfl) hco
  | none =>
    refine PySem.W.kla_makeFunction (mg := X.mg) (c := c) (P := P) (ps := ps) (closure_ok hfree) I.ok.glob (I.mod.glob.keeps I.bk) hcode (TB.code.keeps I.bk) hPh ht hc TB.gP (TB.bm.keeps I.bk) fun c' ctv h' tk hx hge hlt hrec htb => ?_
    obtain ⟨c2, oc, vs, t, ec, hoc, hd, hv⟩ := hrec
    cases ec
    have nC : H c' = none := I.hok.fresh hge
    have nPc : P ≠ c' := ne_of_none hP nC
    have LK : LKept P H (upd (upd H P (.tbl (ps ++ #[rawInt pos.line, rawInt pos.col, .ref c']))) c' (CodeO c' (X.env.qual ++ "<lambda>"))) := fun b o hb e => by
      rw [upd_ne (ne_of_none e nC), upd_ne hb]
      exact e
    have eL : (ps ++ #[rawInt pos.line, rawInt pos.col, .ref c']).toList = ps.toList ++ [rawInt pos.line, rawInt pos.col, .ref c'] := by simp
    refine h h'.objs.size c' _ ctv _ _ (inv_table (t' := tk) (more := #[rawInt pos.line, rawInt pos.col, .ref c']) I hP (fun b o hb e => Heap.get?_push_of_some _ (hx b o hb e)) (Heap.get?_push_of_some _ htb) hge ⟨oc, vs, t, Heap.get?_push_of_some _ hoc, hd, hv⟩) LK ?_ (Heap.get?_push_size _ rfl) upd_same
    refine ⟨_, by rw [upd_ne nPc, upd_same], by rw [eL]; exact PySem.TriplesOk_snoc _ _ _ _ ht, fun p' cv hcv => ?_⟩
    rw [eL] at hcv
    rcases among_app _ ht hcv with z | z
    · obtain ⟨c0, e1, e2⟩ := hq p' cv z
      refine ⟨c0, e1, LK _ _ (fun z => ?_) e2⟩
      rw [z, hP] at e2
      exact codeO_ne ps (Option.some.inj e2).symm
    · exact ⟨c', z, upd_same⟩
end
section
variable {X : Cx}
theorem each_refs {R : Value → Addr → Prop} : ∀ (ts : List Addr), (∀ t ∈ ts, R (.ref t) t) → EachIs R (ts.map Value.ref) ts
  | [], _ => .nil
  | t :: r, h => .cons (h t List.mem_cons_self) (each_refs r fun u hu => h u (List.mem_cons_of_mem _ hu))
theorem refs_each {R : Value → Addr → Prop} (hR : ∀ v t, R v t → v = .ref t) : ∀ {out : List Value} {ts : List Addr}, EachIs R out ts → out = ts.map Value.ref
  | _, _, .nil => rfl
  | _, _, .cons h r => by rw [hR _ _ h, refs_each hR r]; rfl
def rSortL (P : Addr) (q : Str) (i : Nat) (σ : L2.St) (Q : VK) (vs : List V) (H0 : Hp) : Prop := ∃ (a : Addr) (ts : List Addr) (d : Addr) (kvs : List (List Key × V)) (key : Addr → List Int), vs = [.ref a] ∧ H0 a = some (.lst (ts.map V.ref)) ∧
  σ[i]? = some (some (.ref d)) ∧ H0 d = some (.dT kvs) ∧ TabS H0 P q ∧ (∀ t ∈ ts, ∃ (ns : List Int) (b : Addr), TI H0 t ns ∧ valV kvs (ns.map Sum.inl) = some (.ref b) ∧ TI H0 b (key t)) ∧ ((∀ t ∈ ts, key t ≠ []) ∨ ts.length = 1) ∧
  ∀ (H1 : Hp) (ts' : List Addr) (p : Addr), LKept P H0 H1 → TabS H1 P q → ts'.Perm ts → H1 p = none → Q (.ref p) (upd H1 p (.lst (ts'.map V.ref)))
def tSortL (P : Addr) (q : Str) (i : Nat) (te : TA) : TE := fun σ H Q => te σ H fun vs H0 => rSortL P q i σ Q vs H0
/-- sorted(e, key=lambda one: found[one]), found a cell of the def -/
theorem pe_sortL {c P : Addr} {k i : Nat} {fx ox : Str} {p p1 p2 p3 lpos kpos pos : Pos} {e : Expr} {te : TA} {params : Arguments} {scope : Scope} (hg : Gl X "sorted") (hm : X.mg "sorted" = none) (TB : LamX.TabB X.base X.mg c P)
    (hcode : X.env.code = .ref c) (hr : Room k X.A) (hcalm : X.calm = true) (hdef : defaultsOf params X.env = ([], [])) (he : PA X [e] te)
    (hS : scope.kind = .function ∧ scope.isCoroutine = false ∧ scope.isGenerator = false) (hcell : ∀ x ∈ scope.names, x.2 ≠ .cell) (hlo : scope.names.lookup ox = some .local) (hfr : scope.names.lookup fx = some .free)
    (hfree : ∀ y ∈ scope.names, y.2 = .free → X.env.scope.names.lookup y.1 = some .cell)
    (hbind : ∀ (q : Str) (cl : List (Str × Addr)) (pm cv ctv v : Value), bindArgs (PySem.W.kla_fn "<lambda>" q params (.Subscript (.Name fx p1) (.Name ox p2) p3) scope cl pm cv ctv) ⟨[v], []⟩ = pure [(ox, v)])
    (hN : X.N[i]? = some fx)
    (hd1 : (fx == ("__debug__" : Str)) = false := by decide) (hd2 : (ox == ("__debug__" : Str)) = false := by decide) (hd3 : (fx == ("__classdict__" : Str)) = false := by decide)
    (hb1 : backTo pos (starEach [e] X.env) = (false, eval e X.env) :: backTo pos (starEach [] X.env) := by rfl) (hb2 : (backTo pos (starEach [e] X.env)).any (·.1) = false := by rfl) :
    PE X (.Call (.Name "sorted" p) [e] [⟨some "key", .Lambda params (.Subscript (.Name fx p1) (.Name ox p2) p3) scope lpos, kpos⟩] pos) (tSortL P (X.env.qual ++ "<lambda>") i te) := by
  refine ⟨fun pins s σ H Q I h => ?_⟩
  refine wpAny_Call_Name_kw (ld_blt I hg hm (u := .builtin "sorted") (by decide +kernel) ?_)
  refine PyProof.Rows.callWith_kw (thn (he.run pos pins s σ H (fun vs H0 => rSortL P (X.env.qual ++ "<lambda>") i σ Q vs H0) I h) fun us s1 ⟨vs, H0, I0, r0, q0⟩ => ?_) hb1 hb2 (by rfl) (by rfl)
  obtain ⟨a, ts, d, kvs, key, ex, ha, hd, hkv, hT, hk, hne, q⟩ := q0
  subst ex
  obtain ⟨u0, rfl, ru0⟩ := vals1 r0
  obtain rfl : u0 = Value.ref a := ru0
  show wpAny _ _ (evalAll ((do let v ← eval (.Lambda params (.Subscript (.Name fx p1) (.Name ox p2) p3) scope lpos) X.env; standAt pos; pure v) :: [])) _ _ s1
  refine wpAny_evalAll_cons (wpAny_bind (lam_make3 I0 TB hcode hT hdef (fun y hy e => I0.ok.has _ (.inl (hfree y hy e))) fun f c' pm' ctv H1 s' I1 eN T1 hf hco => wpAny_bind (wpAny_standAt (wpAny_pure (wpAny_evalAll_nil ?_)))))
  show wpAny _ _ (call (.builtin "sorted") [.ref a] [(Str.ofString "key", .ref f)]) _ _ s'
  obtain ⟨psT, hPT, _⟩ := id hT
  have nP : ∀ {b : Addr} {o : HO}, H0 b = some o → (∀ ps, o ≠ .tbl ps) → b ≠ P := fun {b o} e n z => by
    rw [z, hPT] at e
    exact n psT (Option.some.inj e).symm
  have ha1 : H1 a = some (.lst (ts.map V.ref)) := eN _ _ (nP ha fun ps z => nomatch z) ha
  have hd1' : H1 d = some (.dT kvs) := eN _ _ (nP hkv fun ps z => nomatch z) hkv
  have tup1 : ∀ t ns, TI H0 t ns → TI H1 t ns := fun t ns e => eN _ _ (nP e fun ps z => nomatch z) e
  obtain ⟨its, rv, hl, hz⟩ := I1.list (SqL.of ha1)
  obtain rfl : its = ts.map Value.ref := nts_of rv
  obtain ⟨cf, hcf, hcv⟩ : ∃ cf, (cloFrom X.env.cells scope.names []).lookup fx = some cf ∧ s'.heap.IsCell cf (some (.ref d)) := by
    have hvis : X.env.scope.names.lookup fx = some .cell := hfree _ (PySem.mem_of_lookup hfr) rfl
    obtain ⟨m, hn, hlk⟩ := I1.loc
    obtain ⟨u, ru, lk⟩ := hlk i fx (.ref d) hN hd (.inr (.inl hvis))
    cases ru
    rcases lk with ⟨k', _⟩ | ⟨_, c3, e', z⟩
    · have k' : X.env.scope.names.lookup fx = some .local := k'
      rw [hvis] at k'
      cases k'
    · obtain ⟨c2, h2⟩ := mem_lookup (cloFrom_has (cells := X.env.cells) (acc := []) (PySem.mem_of_lookup hfr))
      refine ⟨c2, h2, ?_⟩
      rcases cloFrom_mem (PySem.mem_of_lookup h2) with hm | ⟨h1, h2'⟩
      · cases hm
      · have : c2 = c3 := by
          rw [h2', e'] <;> rfl
        rw [this]
        exact z
  have hroom : X.A.in1.in1.depth < recursionLimit := hr.depth
  have turn : ∀ (t : Addr), t ∈ ts → ∀ (h : Heap) (tk : Nat), (∀ b o, s'.heap.get? b = some o → h.get? b = some o) →
      wpAny (model X.prog X.w) X.A.in1.in1 (call (.ref f) [.ref t]) (KeyPure (tD (key t)) { s' with heap := h, toks := tk }) (fun _ _ => False) { s' with heap := h, toks := tk } := fun t ht h tk kp => by
    obtain ⟨ns, b, e1, e2, e3⟩ := hk t ht
    exact lam_key I1 kp hroom (by have := hr.un; show X.A.units + 1 + 1 + 3 + 1 < _; omega) hf hco hS hcell hlo hfr (hbind _ _ _ _ _) hcf hcv (tup1 _ _ e1) hd1' e2 (tup1 _ _ e3) hd1 hd2 hd3
  have hlen : ts.length ≤ sizeLine := by rw [List.length_map] at hz; exact hz
  rcases hne with hne | hne
  · refine sorted_key_data (b := false) (R := fun v t => v = .ref t) (fun t => tD (key t)) hl.isList (each_refs ts fun _ _ => rfl) (fun x hx y hy => ?_) (.inl fun x hx => ?_) hlen (fun t ht => ?_) (PyProof.Rows.ksk_s1 _ _) (fun _ => PyProof.Rows.ksk_l1 _ _) (fun _ => rfl) (fun v t hR ht h tk kp => ?_) fun out c' h' tk kp hfr' hat hlen' he => ?_
    · obtain ⟨t, _, rfl⟩ := List.mem_map.mp hx
      obtain ⟨t', _, rfl⟩ := List.mem_map.mp hy
      exact alike_tD _ _
    · obtain ⟨t, ht, rfl⟩ := List.mem_map.mp hx
      have := hne t ht
      cases e : key t with
      | nil => exact absurd e this
      | cons n ns => exact ⟨_, _, rfl⟩
    · have := hr.un
      rw [depth_tD]
      omega
    · subst hR
      exact turn t ht h tk kp
    · have eo := refs_each (fun _ _ e => e) he
      have pm : (ts.mergeSort (dataLe false fun t => tD (key t))).Perm ts := List.mergeSort_perm _ _
      generalize ts.mergeSort (dataLe false fun t => tD (key t)) = ts' at eo pm
      subst eo
      have hl2 : (ts'.map V.ref).length ≤ sizeLine := by rw [List.length_map, pm.length_eq]; exact hlen
      exact ⟨.ref _, upd H1 (s'.heap.objs.size + 1) (.lst (ts'.map V.ref)), I1.laid (t' := tk) kp (Nat.le_succ _) ⟨hl2, _, _, vals_refs ts', hat⟩, rfl, q H1 ts' _ eN T1 pm (I1.hok.fresh (Nat.le_succ _))⟩
  · obtain ⟨t, rfl⟩ : ∃ t, ts = [t] := by
      match ts, hne with
      | [t], _ => exact ⟨t, rfl⟩
    refine one_sorted (v := .ref t) (k := tD (key t)) hl.isList (PyProof.Rows.ksk_s1 _ _) (fun _ => PyProof.Rows.ksk_l1 _ _) (fun _ => rfl) (fun h tk kp => turn t (by simp) h tk kp) fun c' h' tk kp hat => ?_
    exact ⟨.ref _, upd H1 (s'.heap.objs.size + 1) (.lst ([t].map V.ref)), I1.laid (t' := tk) kp (Nat.le_succ _) ⟨(by show 1 ≤ sizeLine; decide), _, _, vals_refs [t], hat⟩, rfl, q H1 [t] _ eN T1 (List.Perm.refl _) (I1.hok.fresh (Nat.le_succ _))⟩
end
end FoS

end FoRulD
section FoTab
set_option Elab.async false
set_option linter.all false
set_option maxRecDepth 100000
set_option maxHeartbeats 4000000
/-! The relations between heaps, the text by places, what is known of the module's names. -/
namespace Fo
open PySem PySem.Spec PyProof.Rows L2 FoS
/-! ### tables of code objects -/
structure TT where
  G : List Addr
  L : Addr
  q : Str
  nd : L ∉ G
def Tb (T : TT) (H : Hp) : Prop := (∀ P ∈ T.G, GxR.TabG H P) ∧ LamX.TabS H T.L T.q
def Ext (H H' : Hp) : Prop := (∀ b o, H b = some o → (∀ ps, o ≠ .tbl ps) → H' b = some o) ∧ ∀ b, H' b = none → H b = none
def Ev (T : TT) (H H' : Hp) : Prop := Ext H H' ∧ (Tb T H → Tb T H')
variable {T : TT} {H H1 H2 H' : Hp}
theorem Tb.same (t : Tb T H) (e : Same H H') : Tb T H' := ⟨fun P hP => by
  obtain ⟨ps, h1, h2⟩ := t.1 P hP
  exact ⟨ps, e _ _ h1, h2⟩, t.2.ext e⟩
theorem Ev.of_same (e : Same H H') : Ev T H H' := ⟨⟨fun b o h _ => e b o h, fun b h => e.free h⟩, fun t => t.same e⟩
theorem Ev.refl (H : Hp) : Ev T H H := Ev.of_same (Same.refl H)
theorem Ev.trans (a : Ev T H H1) (b : Ev T H1 H2) : Ev T H H2 := ⟨⟨fun c o h n => b.1.1 c o (a.1.1 c o h n) n, fun c h => a.1.2 c (b.1.2 c h)⟩, fun t => b.2 (a.2 t)⟩
theorem Ev.free {a : Addr} (e : Ev T H H') (h : H' a = none) : H a = none := e.1.2 a h
theorem Same.new {a : Addr} {o : HO} (e : Same H H') (h : H' a = none) : Same H (upd H' a o) := fun b u q => by
  have q' := e b u q
  rw [upd_ne (ne_of_none q' h)]
  exact q'
theorem Ev.same (a : Ev T H H1) (e : Same H1 H2) : Ev T H H2 := a.trans (.of_same e)
theorem Ev.new {a : Addr} {o : HO} (e : Ev T H H') (h : H' a = none) : Ev T H (upd H' a o) := e.same (Same.new (Same.refl _) h)
theorem Ev.lst {a : Addr} {xs : List V} (e : Ev T H H') (h : H a = some (.lst xs)) : H' a = some (.lst xs) := e.1.1 _ _ h fun _ z => nomatch z
theorem Ev.tup {a : Addr} {xs : List V} (e : Ev T H H') (h : H a = some (.tup xs)) : H' a = some (.tup xs) := e.1.1 _ _ h fun _ z => nomatch z
theorem Ev.dT {a : Addr} {xs : List (List Key × V)} (e : Ev T H H') (h : H a = some (.dT xs)) : H' a = some (.dT xs) := e.1.1 _ _ h fun _ z => nomatch z
theorem Ev.tabbed {P : Addr} (hP : P ∈ T.G) (e : GxR.Tabbed P H H') (t : GxR.TabG H P) : Ev T H H' := by
  obtain ⟨ps, hp, _⟩ := t
  have nP : ∀ {b : Addr} {o : HO}, H b = some o → (∀ ps, o ≠ .tbl ps) → b ≠ P := fun {b o} q n z => by
    rw [z, hp] at q
    exact n ps (Option.some.inj q).symm
  refine ⟨⟨fun b o q n => by rw [e.2 b (nP q n)]; exact q, fun b hb => ?_⟩, fun t => ⟨fun Q hQ => ?_, ?_⟩⟩
  · by_cases hq : b = P
    · obtain ⟨qs, h1, _⟩ := e.1
      rw [hq, h1] at hb
      cases hb
    · rw [← e.2 b hq]
      exact hb
  · by_cases hq : Q = P
    · rw [hq]
      exact e.1
    · obtain ⟨qs, h1, h2⟩ := t.1 Q hQ
      exact ⟨qs, by rw [e.2 Q hq]; exact h1, h2⟩
  · obtain ⟨qs, h1, h2, h3⟩ := t.2
    have hL : T.L ≠ P := fun z => T.nd (z ▸ hP)
    refine ⟨qs, by rw [e.2 _ hL]; exact h1, h2, fun pos cv hc => ?_⟩
    obtain ⟨c, e1, e2⟩ := h3 pos cv hc
    exact ⟨c, e1, by rw [e.2 c (nP e2 LamX.codeO_ne)]; exact e2⟩
theorem Ev.lkept (e : LKept T.L H H') (t : Tb T H) (t' : LamX.TabS H' T.L T.q) : Ev T H H' := by
  obtain ⟨ps, hp, _⟩ := id t.2
  refine ⟨⟨fun b o q n => e b o (fun z => ?_) q, fun b hb => ?_⟩, fun t => ⟨fun Q hQ => ?_, t'⟩⟩
  · rw [z, hp] at q
    exact n ps (Option.some.inj q).symm
  · by_cases hq : b = T.L
    · obtain ⟨qs, h1, _⟩ := id t'
      rw [hq, h1] at hb
      cases hb
    · cases hz : H b with
      | none => rfl
      | some o =>
        rw [e b o hq hz] at hb
        cases hb
  · obtain ⟨qs, h1, h2⟩ := t.1 Q hQ
    exact ⟨qs, e _ _ (fun z => T.nd (z ▸ hQ)) h1, h2⟩
/-- an own object is written -/
theorem Ev.put {a : Addr} {o u : HO} (e : Ev T H H') (h0 : H a = none) (h : H' a = some u) (hu : (∃ xs, u = .lst xs) ∨ ∃ xs, u = .dT xs) : Ev T H (upd H' a o) := by
  refine ⟨⟨fun b v q n => by rw [upd_ne (ne_of_none q h0)]; exact e.1.1 b v q n, fun b hb => ?_⟩, fun t => ?_⟩
  · by_cases hq : b = a
    · rw [hq]
      exact h0
    · rw [upd_ne hq] at hb
      exact e.1.2 b hb
  have t' := e.2 t
  have ne : ∀ {b : Addr} {v : HO}, H' b = some v → (∀ xs, v ≠ .lst xs) → (∀ xs, v ≠ .dT xs) → b ≠ a := fun {b v} q n1 n2 z => by
    rw [z, h] at q
    have e := Option.some.inj q
    subst e
    rcases hu with ⟨xs, z⟩ | ⟨xs, z⟩
    · exact n1 _ z
    · exact n2 _ z
  refine ⟨fun Q hQ => ?_, ?_⟩
  · obtain ⟨qs, h1, h2⟩ := t'.1 Q hQ
    exact ⟨qs, by rw [upd_ne (ne h1 (fun _ z => nomatch z) fun _ z => nomatch z)]; exact h1, h2⟩
  · obtain ⟨qs, h1, h2, h3⟩ := t'.2
    refine ⟨qs, by rw [upd_ne (ne h1 (fun _ z => nomatch z) fun _ z => nomatch z)]; exact h1, h2, fun pos cv hc => ?_⟩
    obtain ⟨c, e1, e2⟩ := h3 pos cv hc
    exact ⟨c, e1, by rw [upd_ne (ne e2 (fun _ z => nomatch z) fun _ z => nomatch z)]; exact e2⟩

/-! ### the text -/
def topS (i : Nat) : Stmt := PySem.Challenge.pw_foescome_k66_across_net_rows.main.body.getD i (.Pass ⟨0, 0, 0, 0⟩)
abbrev FnP (K : PySem.W.Frag) (x : Str) (st : Stmt) (f : Addr) (fd : FuncData) : Prop := FunD K x x (defArgs st) (defBody st) (defScope st) [] [] f fd
/-- the built-in names are still the built-ins; the constants -/
structure Bt (mg : Str → Option Value) : Prop where
  isi : mg "isinstance" = none
  int : mg "int" = none
  bool : mg "bool" = none
  tuple : mg "tuple" = none
  len : mg "len" = none
  range : mg "range" = none
  any : mg "any" = none
  all : mg "all" = none
  sum : mg "sum" = none
  sorted : mg "sorted" = none
  max : mg "max" = none
  min : mg "min" = none
  people : ∃ t, mg "MOST_PEOPLE" = some (.int 7 t)
  row : ∃ t, mg "MOST_ROW" = some (.int 30 t)
  gain : ∃ t, mg "MOST_GAIN" = some (.int 1000 t)
  cost : ∃ t, mg "MOST_COST" = some (.int 1000 t)
/-- the def's code object at c, its table at P -/
structure Own (base : Heap) (mg : Str → Option Value) (fd : FuncData) (c P : Addr) : Prop where
  code : fd.code = .ref c
  tb : LamX.TabB base mg c P
theorem Own.gx {base : Heap} {mg : Str → Option Value} {fd : FuncData} {c P : Addr} (o : Own base mg fd c P) : GxR.TabB base mg c P := ⟨o.tb.code, o.tb.bm, o.tb.gP⟩
section
variable {P : Program} {w : World} {K : PySem.W.Frag} {mg : Str → Option Value} {base : Heap}
/-- a def with a code table -/
theorem okC {x : Str} {st : Stmt} {f c Pt : Addr} {fd : FuncData} {N ps : List Str} {k : Nat} {sp : Sp} (F : FnP K x st f fd) (O : Own base mg fd c Pt) (S : FnScope N ps (defScope st)) (len : ∀ vs H Q E, sp vs H Q E → vs.length = ps.length)
    (hbody : ∀ (A : Around) (outer : List Env) (s : Shared) (H : Hp) (vs : List V) (Q : VK) (E : XK), Room k (A.deeper (envOfC x (defScope st) s.heap.objs.size f (.ref c))) → sp vs H Q E →
      ∃ t, PSs (cxOf CX0 P w K mg base N x (defScope st) f (.ref c) A outer s H E).nox (defBody st) t ∧ t { nx := fun _ H' => Q .non H', rt := Q } (start N vs) H) : FnOk P w K mg base CX0 (k + 1) f fd ps sp := by
  obtain ⟨oc, od, dV, kV, doc, pm, an, cdv, ct, osl, rfl, lk, hcd, hD, hK⟩ := F.ex
  have e : cdv = .ref c := O.code
  subst e
  refine fn_of lk hcd S len fun A outer s H vs Q E hr hsp => ?_
  obtain ⟨t, h, q⟩ := hbody A outer s H vs Q E hr hsp
  exact ⟨t, h.nox, q⟩
/-- a def without -/
theorem okN {x : Str} {st : Stmt} {f : Addr} {fd : FuncData} {N ps : List Str} {k : Nat} {sp : Sp} (F : FnP K x st f fd) (S : FnScope N ps (defScope st)) (len : ∀ vs H Q E, sp vs H Q E → vs.length = ps.length)
    (hbody : ∀ (cdv : Value) (A : Around) (outer : List Env) (s : Shared) (H : Hp) (vs : List V) (Q : VK) (E : XK), Room k (A.deeper (envOfC x (defScope st) s.heap.objs.size f cdv)) → sp vs H Q E →
      ∃ t, PSs (cxOf CX0 P w K mg base N x (defScope st) f cdv A outer s H E).nox (defBody st) t ∧ t { nx := fun _ H' => Q .non H', rt := Q } (start N vs) H) : FnOk P w K mg base CX0 (k + 1) f fd ps sp := by
  refine F.ok S len fun cdv A outer s H vs Q E hr hsp => ?_
  obtain ⟨t, h, q⟩ := hbody cdv A outer s H vs Q E hr hsp
  exact ⟨t, h.nox, q⟩
end
end Fo

end FoTab
section FoP
set_option Elab.async false
set_option linter.all false
set_option maxRecDepth 100000
set_option maxHeartbeats 4000000
/-! What the defs compute, and their promises. -/
namespace Fo
open PySem PySem.Spec PyProof.Rows L2 FoS
/-! ### plain functions -/
structure Web where
  n : Nat
  es : List (Int × Int)
def lexP (p q : Int × Int) : Prop := p.1 < q.1 ∨ (p.1 = q.1 ∧ p.2 < q.2)
structure Web.ok (W : Web) : Prop where
  lo : 1 ≤ W.n
  hi : W.n ≤ 5
  es : ∀ e ∈ W.es, 0 ≤ e.1 ∧ e.1 < e.2 ∧ e.2 < (W.n : Int)
  asc : W.es.Pairwise lexP
  few : W.es.length ≤ 1000
def foe (W : Web) (a b : Int) : Bool := decide ((min a b, max a b) ∈ W.es)
def isG (W : Web) (ns : List Int) : Bool := !(W.es.any fun e => decide (e.1 ∈ ns) && decide (e.2 ∈ ns))
def In (n : Nat) (ns : List Int) : Prop := ∀ x ∈ ns, 0 ≤ x ∧ x < (n : Int)
structure Lot (n : Nat) (ns : List Int) : Prop where
  rg : In n ns
  asc : ns.Pairwise (· < ·)
def cameF (W : Web) (g : List Int) (p : Int) : List Int := ((g.filter fun x => decide (x ≠ p) && !foe W x p) ++ [p]).mergeSort fun a b => decide (a ≤ b)
def run (W : Web) (g : List Int) (row : List Int) : List Int := row.foldl (cameF W) g
def at_ (cs : List Int) (p : Int) : Int := cs.getD p.toNat 0
def sumAt (cs : List Int) (ns : List Int) : Int := (ns.map (at_ cs)).sum
def lotsF (n : Nat) : List (List Int) := (List.range n).foldl (fun acc (k : Nat) => acc ++ acc.map (· ++ [(k : Int)])) [[]]
def gaths (W : Web) : List (List Int) := (lotsF W.n).filter (isG W)
structure Ent where
  key : List Int
  cost : Int
  row : List Int
/-- costs, gains: one number a person, 0 to 1000 -/
structure Nums (W : Web) (cs : List Int) : Prop where
  len : cs.length = W.n
  rg : ∀ x ∈ cs, 0 ≤ x ∧ x ≤ 1000
/-- what holds of a table of rows that is done with: the start in it at no cost; each row leads to its key at its cost; no row is longer than 30; a comer more costs no less than what stands -/
structure Done (W : Web) (s : List Int) (cs : List Int) (es : List Ent) : Prop where
  nd : (es.map (·.key)).Nodup
  st : ⟨s, 0, []⟩ ∈ es
  lead : ∀ e ∈ es, run W s e.row = e.key ∧ e.cost = sumAt cs e.row ∧ In W.n e.row ∧ e.row.length ≤ 30
  closed : ∀ e ∈ es, ∀ p : Int, 0 ≤ p → p < (W.n : Int) → ∃ e' ∈ es, e'.key = cameF W e.key p ∧ e'.cost ≤ e.cost + at_ cs p
/-- the best of gains less costs -/
def Net (W : Web) (s cs gs : List Int) (net : Int) (row : List Int) : Prop :=
  ∃ es, Done W s cs es ∧ (∃ e ∈ es, net = sumAt gs e.key - e.cost ∧ row = e.row) ∧ ∀ e ∈ es, sumAt gs e.key - e.cost ≤ net

/-! ### how these lie in the heap -/
def WebAt (H : Hp) (a : Addr) (W : Web) : Prop := ∃ (b : Addr) (ps : List (Addr × Int × Int)), H a = some (.tup [.int (W.n : Int), .ref b]) ∧ H b = some (.tup (ps.map fun p => V.ref p.1)) ∧
  (∀ p ∈ ps, H p.1 = some (.tup [.int p.2.1, .int p.2.2])) ∧ W.es = ps.map (·.2)
def TIs (H : Hp) (l : Addr) (ts : List (Addr × List Int)) : Prop := H l = some (.lst (ts.map fun t => V.ref t.1)) ∧ ∀ t ∈ ts, TI H t.1 t.2
structure FE where
  e : Ent
  p : Addr
  r : Addr
def FoundAt (H : Hp) (d : Addr) (es : List Ent) : Prop := ∃ qs : List FE, es = qs.map (·.e) ∧ H d = some (.dT (qs.map fun q => (q.e.key.map Sum.inl, V.ref q.p))) ∧ ∀ q ∈ qs, H q.p = some (.tup [.int q.e.cost, .ref q.r]) ∧ TI H q.r q.e.row
def FoundR (H : Hp) (d : Addr) (es : List Ent) : Prop := ∃ qs : List FE, es = qs.map (·.e) ∧ H d = some (.dT (qs.map fun q => (q.e.key.map Sum.inl, V.ref q.r))) ∧ ∀ q ∈ qs, TI H q.r q.e.row
def PairAt (H : Hp) (m : Addr) (z : Int) (row : List Int) : Prop := ∃ r, H m = some (.tup [.int z, .ref r]) ∧ TI H r row

/-! ### the promises -/
variable (T : TT)
def spIsIn : Sp := fun vs H Q _ => ∃ z lo hi : Int, vs = [.int z, .int lo, .int hi] ∧ Q (.bl (decide (lo ≤ z ∧ z ≤ hi))) H
def spNeedWeb : Sp := fun vs H Q _ => ∃ a W, vs = [.ref a] ∧ WebAt H a W ∧ W.ok ∧ Tb T H ∧ ∀ H', Ev T H H' → Q .non H'
def spFoes : Sp := fun vs H Q _ => ∃ a W x y, vs = [.ref a, .int x, .int y] ∧ WebAt H a W ∧ ∀ H', Same H H' → Q (.bl (foe W x y)) H'
def spIsLot : Sp := fun vs H Q _ => ∃ a W t ns, vs = [.ref a, .ref t] ∧ WebAt H a W ∧ W.n ≤ 5 ∧ TI H t ns ∧ Lot W.n ns ∧ Tb T H ∧ ∀ H', Ev T H H' → Q (.bl true) H'
def spIsG : Sp := fun vs H Q _ => ∃ a W t ns, vs = [.ref a, .ref t] ∧ WebAt H a W ∧ W.n ≤ 5 ∧ TI H t ns ∧ Lot W.n ns ∧ Tb T H ∧ ∀ H', Ev T H H' → Q (.bl (isG W ns)) H'
def spNeedG : Sp := fun vs H Q _ => ∃ a W t ns, vs = [.ref a, .ref t] ∧ WebAt H a W ∧ W.ok ∧ TI H t ns ∧ Lot W.n ns ∧ isG W ns = true ∧ Tb T H ∧ ∀ H', Ev T H H' → Q .non H'
def spLots : Sp := fun vs H Q _ => ∃ a W, vs = [.ref a] ∧ WebAt H a W ∧ W.n ≤ 5 ∧ ∀ H' p ts, Same H H' → TIs H' p ts → (ts.map (·.2)).Perm (lotsF W.n) → Q (.ref p) H'
def spGaths : Sp := fun vs H Q _ => ∃ a W, vs = [.ref a] ∧ WebAt H a W ∧ W.n ≤ 5 ∧ Tb T H ∧ ∀ H' p ts, Ev T H H' → TIs H' p ts → (ts.map (·.2)).Perm (gaths W) → Q (.ref p) H'
def spCame : Sp := fun vs H Q _ => ∃ a W g ns p, vs = [.ref a, .ref g, .int p] ∧ WebAt H a W ∧ TI H g ns ∧ ns.length ≤ 60 ∧ ∀ H' t, Same H H' → TI H' t (cameF W ns p) → Q (.ref t) H'
def spNeedRow : Sp := fun vs H Q _ => ∃ a W r row, vs = [.ref a, .ref r] ∧ WebAt H a W ∧ TI H r row ∧ In W.n row ∧ row.length ≤ 30 ∧ Tb T H ∧ ∀ H', Ev T H H' → Q .non H'
def spIsRow : Sp := fun vs H Q _ => ∃ a W r row, vs = [.ref a, .ref r] ∧ WebAt H a W ∧ TI H r row ∧ In W.n row ∧ row.length ≤ 30 ∧ Tb T H ∧ ∀ H', Ev T H H' → Q (.bl true) H'
def spTrace : Sp := fun vs H Q _ => ∃ a W g ns r row, vs = [.ref a, .ref g, .ref r] ∧ WebAt H a W ∧ W.n ≤ 5 ∧ TI H g ns ∧ Lot W.n ns ∧ TI H r row ∧ In W.n row ∧ row.length ≤ 30 ∧
  ∀ H' l xs t, Same H H' → H' l = some (.lst (xs ++ [.ref t])) → xs.length ≤ 30 → TI H' t (run W ns row) → Q (.ref l) H'
def spDone : Sp := fun vs H Q _ => ∃ a W g ns r row, vs = [.ref a, .ref g, .ref r] ∧ WebAt H a W ∧ W.ok ∧ TI H g ns ∧ Lot W.n ns ∧ isG W ns = true ∧ TI H r row ∧ In W.n row ∧ row.length ≤ 30 ∧ Tb T H ∧
  ∀ H' t, Ev T H H' → TI H' t (run W ns row) → Q (.ref t) H'
def spSum : Sp := fun vs H Q _ => ∃ c cs g ns, vs = [.ref c, .ref g] ∧ TI H c cs ∧ (∀ x ∈ cs, 0 ≤ x ∧ x ≤ 1000) ∧ TI H g ns ∧ In cs.length ns ∧ ns.length ≤ 40 ∧ Tb T H ∧ ∀ H', Ev T H H' → Q (.int (sumAt cs ns)) H'
def spNeedN : Sp := fun vs H Q _ => ∃ a W c cs, vs = [.ref a, .ref c] ∧ WebAt H a W ∧ TI H c cs ∧ Nums W cs ∧ Tb T H ∧ ∀ H', Ev T H H' → Q .non H'
def spBest : Sp := fun vs H Q _ => ∃ a W c gs, vs = [.ref a, .ref c] ∧ WebAt H a W ∧ W.ok ∧ TI H c gs ∧ Nums W gs ∧ Tb T H ∧ ∀ H' m z ns, Ev T H H' → PairAt H' m z ns → ns ∈ gaths W → z = sumAt gs ns → (∀ ms ∈ gaths W, sumAt gs ms ≤ z) → Q (.ref m) H'
/-- the ways that web, start and costs come -/
structure Pre (H : Hp) (a g c : Addr) (W : Web) (s cs : List Int) : Prop where
  web : WebAt H a W
  ok : W.ok
  st : TI H g s
  lot : Lot W.n s
  ga : isG W s = true
  tc : TI H c cs
  nu : Nums W cs
  tb : Tb T H
def spRows : Sp := fun vs H Q _ => ∃ a g c W s cs, vs = [.ref a, .ref g, .ref c] ∧ Pre T H a g c W s cs ∧ ∀ H' d es, Ev T H H' → FoundAt H' d es → Done W s cs es → Q (.ref d) H'
def spNeedNet : Sp := fun vs H Q _ => ∃ a g c b W s cs gs, vs = [.ref a, .ref g, .ref c, .ref b] ∧ Pre T H a g c W s cs ∧ TI H b gs ∧ Nums W gs ∧ ∀ H', Ev T H H' → Q .non H'
def spNet : Sp := fun vs H Q _ => ∃ a g c b W s cs gs, vs = [.ref a, .ref g, .ref c, .ref b] ∧ Pre T H a g c W s cs ∧ TI H b gs ∧ Nums W gs ∧ ∀ H' m net row, Ev T H H' → PairAt H' m net row → Net W s cs gs net row → Q (.ref m) H'
def spShowsNet : Sp := fun vs H Q _ => ∃ a g c b v W s cs gs z row, vs = [.ref a, .ref g, .ref c, .ref b, .ref v] ∧ Pre T H a g c W s cs ∧ TI H b gs ∧ Nums W gs ∧ PairAt H v z row ∧ In W.n row ∧ row.length ≤ 30 ∧
  ∀ H' net row', Ev T H H' → Net W s cs gs net row' → Q (.bl (decide (z = net) && decide (sumAt gs (run W s row) - sumAt cs row = net))) H'
def spNeedPr : Sp := fun vs H Q _ => ∃ a g o c W s t cs, vs = [.ref a, .ref g, .ref o, .ref c] ∧ Pre T H a g c W s cs ∧ TI H o t ∧ Lot W.n t ∧ isG W t = true ∧ ∀ H', Ev T H H' → Q .non H'
def spCheap : Sp := fun vs H Q _ => ∃ a g o c W s t cs, vs = [.ref a, .ref g, .ref o, .ref c] ∧ Pre T H a g c W s cs ∧ TI H o t ∧ Lot W.n t ∧ isG W t = true ∧
  (∀ H' es, Ev T H H' → Done W s cs es → (∀ e ∈ es, e.key ≠ t) → Q .non H') ∧ ∀ H' es e m, Ev T H H' → Done W s cs es → e ∈ es → e.key = t → PairAt H' m e.cost e.row → Q (.ref m) H'
def spShowsCheap : Sp := fun vs H Q _ => ∃ a g c v W s cs, vs = [.ref a, .ref g, .ref g, .ref c, .ref v] ∧ Pre T H a g c W s cs ∧ PairAt H v 0 [] ∧ ∀ H', Ev T H H' → Q (.bl true) H'
def ones (n : Nat) : List Int := List.replicate n 1
def spRowsFrom : Sp := fun vs H Q _ => ∃ a g W s, vs = [.ref a, .ref g] ∧ WebAt H a W ∧ W.ok ∧ TI H g s ∧ Lot W.n s ∧ isG W s = true ∧ Tb T H ∧ ∀ H' d es, Ev T H H' → FoundR H' d es → Done W s (ones W.n) es → Q (.ref d) H'
def spNeedEnds : Sp := fun vs H Q _ => ∃ a g o W s t, vs = [.ref a, .ref g, .ref o] ∧ WebAt H a W ∧ W.ok ∧ TI H g s ∧ Lot W.n s ∧ isG W s = true ∧ TI H o t ∧ Lot W.n t ∧ isG W t = true ∧ Tb T H ∧ ∀ H', Ev T H H' → Q .non H'
def spDist : Sp := fun vs H Q _ => ∃ a g o W s t, vs = [.ref a, .ref g, .ref o] ∧ WebAt H a W ∧ W.ok ∧ TI H g s ∧ Lot W.n s ∧ isG W s = true ∧ TI H o t ∧ Lot W.n t ∧ isG W t = true ∧ Tb T H ∧
  (∀ H' es, Ev T H H' → Done W s (ones W.n) es → (∀ e ∈ es, e.key ≠ t) → Q .non H') ∧ ∀ H' es e, Ev T H H' → Done W s (ones W.n) es → e ∈ es → e.key = t → Q (.int e.row.length) H'
/-! the law's own -/
/-- the place where the script is read -/
def SqS (K : PySem.W.Frag) (H : Hp) (l sc : Addr) (xs : List V) : Prop := (sc ≠ l ∧ Rd H sc (.lst xs)) ∨
  ∃ (o : Obj) (its : Array Value) (n : Nat), K.lookup sc = some o ∧ o.cls = .type "list" ∧ o.dict = none ∧ o.data = .seq its n ∧ its.size ≤ sizeLine ∧ Vals xs its.toList
def RowAt (K : PySem.W.Frag) (H : Hp) (l sc : Addr) (ns : List Int) : Prop := SqS K H l sc (ns.map V.int) ∧ ns.length ≤ 63 ∧ ∃ i s r : Int, H l = some (.lst [.ref sc, .int i, .int s, .int r]) ∧ 0 ≤ i ∧ 0 ≤ s ∧ s < 2147483647 ∧ 0 ≤ r
def Kept (T : TT) (l : Addr) (H H' : Hp) : Prop := ∀ b o, b ≠ l → H b = some o → H' b = some o
variable (K : PySem.W.Frag)
def spTaken : Sp := fun vs H Q _ => ∃ (l sc : Addr) (ns : List Int) (m : Int), vs = [.ref l, .int m] ∧ RowAt K H l sc ns ∧ 0 < m ∧ m ≤ 100 ∧ ∀ H' (r : Int) xs, 0 ≤ r → r < m → H' = upd H l (.lst xs) → RowAt K H' l sc ns → Q (.int r) H'
end Fo

end FoP
section FoW1
set_option Elab.async false
set_option linter.all false
set_option maxRecDepth 100000
set_option maxHeartbeats 4000000
namespace Fo
open PySem PySem.Spec PyProof.Rows L2 FoS
section
variable {P : Program} {w : World} {K : PySem.W.Frag} {mg : Str → Option Value} {base : Heap} {T : TT}
abbrev sIsIn : Stmt := topS 10
theorem scIsIn : FnScope ["value", "least", "most"] ["value", "least", "most"] (defScope sIsIn) := ⟨rfl, rfl, rfl, by decide +kernel, rfl, by decide +kernel, by decide +kernel⟩
theorem ok_isIn {f : Addr} {fd : FuncData} (F : FnP K "is_in" sIsIn f fd) (B : Bt mg) : FnOk P w K mg base CX0 1 f fd ["value", "least", "most"] spIsIn := by
  refine okN F scIsIn (fun vs H Q E h => ?_) (fun cdv A outer s H vs Q E hr h => ?_)
  · obtain ⟨_, _, _, rfl, _⟩ := h
    rfl
  · obtain ⟨z, lo, hi, rfl, q⟩ := h
    refine ⟨_, pss_one (ps_ret (pe_and (pe_callB call_isi (by rfl) B.isi (by decide +kernel) (pa_cons (pv 0) (pa_cons (pe_bltn (v := .ty "int") (by rfl) B.int (by decide +kernel) rfl) pa_nil)))
      (pe_and (pe_not (pe_callB call_isi (by rfl) B.isi (by decide +kernel) (pa_cons (pv 0) (pa_cons (pe_bltn (v := .ty "bool") (by rfl) B.bool (by decide +kernel) rfl) pa_nil))))
      (pe_one (pe_chain op_le op_le (pv 1) (pv 0) (pv 2)))))), ?_⟩
    refine ⟨_, rfl, _, _, .type "int", .type "int", true, rfl, .ty _, .base (.int _), kit_ty (by decide +kernel), _, rfl, ?_⟩
    refine iteT ⟨_, rfl, _, _, .type "int", .type "bool", false, rfl, .ty _, .base (.int _), kit_ty (by decide +kernel), _, rfl, _, rfl, iteT ?_⟩
    refine ⟨_, rfl, _, rfl, _, _, rfl, rfl, _, rfl, ?_⟩
    by_cases h1 : lo ≤ z
    · rw [decide_eq_true h1]
      refine iteT ⟨_, rfl, _, _, rfl, rfl, ?_⟩
      have e : decide (z ≤ hi) = decide (lo ≤ z ∧ z ≤ hi) := by simp [h1]
      show Q (.bl (decide (z ≤ hi))) H
      rw [e]
      exact q
    · rw [decide_eq_false h1]
      refine iteF ?_
      have e : decide (lo ≤ z ∧ z ≤ hi) = false := by simp [h1]
      rw [e] at q
      exact q
theorem gx_units {A : Around} {k : Nat} (hr : Room k A) (env : Env) : (A.in1.in1.deeper env).units + 65 < cLine := by
  have := hr.un
  show A.units + 1 + 1 + 3 + 65 < _
  omega
theorem gx_room {A : Around} {k : Nat} (hr : Room (k + 1) A) (env : Env) : Room k (A.in1.in1.deeper env) :=
  ⟨hr.hd, by have := hr.dp; show A.depth + 1 + 3 * k + 5 < _; omega, by have := hr.un; show A.units + 1 + 1 + 3 + 16 * k + 200 < _; omega⟩
theorem WebAt.ev {H H' : Hp} {a : Addr} {W : Web} (h : WebAt H a W) (e : Ev T H H') : WebAt H' a W := by
  obtain ⟨b, ps, h1, h2, h3, h4⟩ := h
  exact ⟨b, ps, e.tup h1, e.tup h2, fun p hp => e.tup (h3 p hp), h4⟩
theorem WebAt.same {H H' : Hp} {a : Addr} {W : Web} (h : WebAt H a W) (e : Same H H') : WebAt H' a W := by
  obtain ⟨b, ps, h1, h2, h3, h4⟩ := h
  exact ⟨b, ps, e _ _ h1, e _ _ h2, fun p hp => e _ _ (h3 p hp), h4⟩
theorem ixT_in {X : Cx} {K : PySem.W.Frag} (h : X.K = K) : IxR X (rIxT K) := by
  subst h
  exact ix_tup
theorem geP_in {X : Cx} {K : PySem.W.Frag} (h : X.K = K) (hu : X.A.units + 65 < cLine) : OpR X (compareOp .GtE) (rGeP K) := by
  subst h
  exact op_geP hu
abbrev sNW : Stmt := topS 11
theorem scNW : FnScope ["web", "pair", "k"] ["web"] (defScope sNW) := ⟨rfl, rfl, rfl, by decide +kernel, rfl, by decide +kernel, by decide +kernel⟩
theorem ok_needWeb {f fI c Pt : Addr} {fd fdI : FuncData} (F : FnP K "need_web" sNW f fd) (FI : FnP K "is_in" sIsIn fI fdI) (mI : mg "is_in" = some (.ref fI)) (O : Own base mg fd c Pt) (hP : Pt ∈ T.G) (B : Bt mg) : FnOk P w K mg base CX0 2 f fd ["web"] (spNeedWeb T) := by
  have GI : FnOk P w K mg base CX0 1 fI fdI ["value", "least", "most"] spIsIn := ok_isIn FI B
  have bI : Binds K fdI ["value", "least", "most"] [] := FI.bindsN fun _ _ _ _ _ _ us hl => match us, hl with | [_, _, _], _ => rfl
  refine okC F O scNW (fun vs H Q E h => ?_) (fun A outer s H vs Q E hr h => ?_)
  · obtain ⟨_, _, rfl, _⟩ := h
    rfl
  · obtain ⟨a, W, rfl, hW, ok, hT, q⟩ := h
    obtain ⟨t7, h7⟩ := B.people
    refine ⟨_, pss_cons (ps_if (pw_or (pt_not (pt_val (pe_callB call_isi (by rfl) B.isi (by decide +kernel) (pa_cons (pv 0) (pa_cons (pe_bltn (v := .ty "tuple") (by rfl) B.tuple (by decide +kernel) rfl) pa_nil)))))
        (pw_or (pt_cmpR op_ne (pe_callB call_len_seq (by rfl) B.len PySem.boot_len (pa_cons (pv 0) pa_nil)) pe_int (nomark _))
        (pw_or1 (pt_not (pt_val (pe_call GI hr (by rfl) mI FI.kp bI .nil pass0 (pa_cons (pe_ix ix_tup (pv 0) pe_int (fun _ _ => rfl)) (pa_cons pe_int (pa_cons (pe_glob (v := .int 7) (by rfl) h7 ⟨_, rfl⟩) pa_nil))))))))).pt pss_never pss_nil)
      (pss_cons (ps_if (pt_not (pt_val (pe_callB call_isi (by rfl) B.isi (by decide +kernel) (pa_cons (pe_ix ix_tup (pv 0) pe_int (fun _ _ => rfl)) (pa_cons (pe_bltn (v := .ty "tuple") (by rfl) B.tuple (by decide +kernel) rfl) pa_nil))))) pss_never pss_nil)
      (pss_cons (ps_for PassesOwn.never rfl (pi_tup (pe_ix ix_tup (pv 0) pe_int (fun _ _ => rfl))) (pg_name (i := 1) scNW.nd rfl (Or.inl rfl))
        (pss_cons (ps_if (pw_or (pt_not (pt_val (pe_callB call_isi (by rfl) B.isi (by decide +kernel) (pa_cons (pv 1) (pa_cons (pe_bltn (v := .ty "tuple") (by rfl) B.tuple (by decide +kernel) rfl) pa_nil)))))
          (pw_or (pt_cmpR op_ne (pe_callB call_len_seq (by rfl) B.len PySem.boot_len (pa_cons (pv 1) pa_nil)) pe_int (nomark _))
          (pw_or1 (pt_not (pt_val (pe_call GI hr (by rfl) mI FI.kp bI .nil pass0 (pa_cons (pe_ix ix_tup (pv 1) pe_int (fun _ _ => rfl)) (pa_cons pe_int (pa_cons (pe_op op_sub (pe_ix ix_tup (pv 0) pe_int (fun _ _ => rfl)) pe_int) pa_nil))))))))).pt pss_never pss_nil)
        (pss_one (ps_if (pt_not (pt_val (pe_call GI hr (by rfl) mI FI.kp bI .nil pass0 (pa_cons (pe_ix ix_tup (pv 1) pe_int (fun _ _ => rfl)) (pa_cons (pe_op op_add (pe_ix ix_tup (pv 1) pe_int (fun _ _ => rfl)) pe_int) (pa_cons (pe_op op_sub (pe_ix ix_tup (pv 0) pe_int (fun _ _ => rfl)) pe_int) pa_nil)))))) pss_never pss_nil))))
      (pss_one (ps_if (pt_val (Gx.pe_anyG hr (by rfl) B.any rfl O.gx rfl (Gx.gs_by (by decide +kernel)) scNW.nd (blkOk_by (own := [("k", 2)]) (N := ["web", "pair", "k"]) (sc := defScope sNW) (by decide +kernel))
        (pi_range1 (by rfl) B.range (pa_cons (pe_op op_sub (pe_callB call_len_seq (by rfl) B.len PySem.boot_len (pa_cons (pe_ix ix_tup (pv 0) pe_int (fun _ _ => rfl)) pa_nil)) pe_int) pa_nil))
        (fun _ _ _ _ _ _ _ => pg_name (i := 2) scNW.nd rfl (Or.inl rfl))
        (fun _ _ _ _ _ _ _ => pe_cmpR (geP_in (K := K) rfl (gx_units hr _)) (pe_ix (ixT_in (K := K) rfl) (pe_ix (ixT_in (K := K) rfl) (pv 0) pe_int (fun _ _ => rfl)) (pv 2) (fun _ _ => rfl)) (pe_ix (ixT_in (K := K) rfl) (pe_ix (ixT_in (K := K) rfl) (pv 0) pe_int (fun _ _ => rfl)) (pe_op op_add (pv 2) pe_int) (fun _ _ => rfl)) (nomark _)))) pss_never pss_nil)))), ?_⟩
    obtain ⟨b, ps, h1, h2, h3, h4⟩ := hW
    have hin : ∀ e ∈ ps, 0 ≤ e.2.1 ∧ e.2.1 < e.2.2 ∧ e.2.2 < (W.n : Int) := fun e he => ok.es e.2 (by rw [h4]; exact List.mem_map_of_mem he)
    have hlen : ps.length ≤ 1000 := by have := ok.few; rw [h4, List.length_map] at this; exact this
    have := ok.lo
    have := ok.hi
    -- the first test
    refine ⟨_, rfl, _, _, .type "tuple", .type "tuple", true, rfl, .ty _, .base (.tup h1), kit_ty (by decide +kernel), _, rfl, iteF ?_⟩
    refine ⟨_, rfl, _, _, rfl, .inr (SqT.of h1), rfl, _, rfl, iteF ?_⟩
    refine ⟨_, rfl, _, _, _, _, rfl, rfl, SqT.of h1, rfl, _, _, _, rfl, _, rfl, iteNS (by omega) ?_⟩
    -- the second
    refine ⟨_, rfl, _, _, _, _, rfl, rfl, SqT.of h1, rfl, _, _, .type "tuple", .type "tuple", true, rfl, .ty _, .base (.tup h2), kit_ty (by decide +kernel), _, rfl, iteF ?_⟩
    -- the loop
    refine ⟨_, rfl, _, _, _, _, rfl, rfl, SqT.of h1, rfl, b, rfl, ⟨_, SqT.of h2⟩, for_tup (K := K) (a := b) (xs := ps.map fun p => V.ref p.1) (fun i σ H2 => ∃ v, σ = [some (.ref a), v, none] ∧ H2 = H) ⟨none, rfl, rfl⟩ (fun i σ H2 _ ⟨_, _, e⟩ => by rw [e]; exact SqT.of h2) ?_ ?_⟩
    · rintro i x σ H2 hi ⟨v, rfl, rfl⟩
      rw [List.getElem?_map] at hi
      obtain ⟨e, he, rfl⟩ := Option.map_eq_some_iff.mp hi
      have hm : e ∈ ps := List.mem_of_getElem? he
      have g := h3 e hm
      obtain ⟨e1, e2, e3⟩ := hin e hm
      refine ⟨_, rfl, _, _, .type "tuple", .type "tuple", true, rfl, .ty _, .base (.tup g), kit_ty (by decide +kernel), _, rfl, iteF ?_⟩
      refine ⟨_, rfl, _, _, rfl, .inr (SqT.of g), rfl, _, rfl, iteF ?_⟩
      refine ⟨_, rfl, _, _, _, _, rfl, rfl, SqT.of g, rfl, _, rfl, _, _, _, _, rfl, rfl, SqT.of h1, rfl, _, _, rfl, rfl, _, _, _, rfl, _, rfl, iteNS (by omega) ?_⟩
      refine ⟨_, rfl, _, _, _, _, rfl, rfl, SqT.of g, rfl, _, rfl, _, _, _, _, rfl, rfl, SqT.of g, rfl, _, _, rfl, rfl, _, rfl, _, _, _, _, rfl, rfl, SqT.of h1, rfl, _, _, rfl, rfl, _, _, _, rfl, _, rfl, iteNS (by omega) ?_⟩
      exact ⟨_, rfl, rfl⟩
    · rintro σ H2 ⟨v, rfl, rfl⟩
      refine ⟨_, rfl, _, _, _, _, rfl, rfl, SqT.of h1, rfl, b, _, rfl, .inr (SqT.of h2), _, _, rfl, rfl, _, rfl, by rw [List.length_map]; omega, by rw [List.length_map]; omega, hT.1 Pt hP, ((((ps.map fun p => V.ref p.1).length : Nat) : Int) - 1).toNat, fun _ => .bl false, fun H3 T3 => ?_, fun _ => false, rfl, fun H3 T3 => ?_⟩
      · have e3 : Ev T H2 H3 := Ev.tabbed hP T3 (hT.1 Pt hP)
        refine ⟨Nat.le_refl _, fun i hi => hi, fun i x H' hi hy => ?_⟩
        obtain ⟨rfl, rfl⟩ := hy
        have hi1 : i + 1 < ps.length := by rw [List.length_map] at hi; omega
        have hp1 : (ps.map fun p => V.ref p.1)[i]? = some (V.ref ps[i].1) := by rw [List.getElem?_map, List.getElem?_eq_getElem (by omega)]; rfl
        have hp2 : (ps.map fun p => V.ref p.1)[i + 1]? = some (V.ref ps[i + 1].1) := by rw [List.getElem?_map, List.getElem?_eq_getElem hi1]; rfl
        have c1 := h3 ps[i] (List.getElem_mem _)
        have c2 := h3 ps[i + 1] (List.getElem_mem _)
        have lt : lexP ps[i].2 ps[i + 1].2 := by
          have := ok.asc
          rw [h4] at this
          have := List.pairwise_iff_getElem.mp this i (i + 1) (by rw [List.length_map]; omega) (by rw [List.length_map]; omega) (by omega)
          simpa using this
        have ez : (0 : Int) + (i : Int) = ((i : Nat) : Int) := by omega
        have ez2 : (0 : Int) + (i : Int) + 1 = ((i + 1 : Nat) : Int) := by omega
        refine ⟨rfl, rfl, _, rfl, _, _, _, _, rfl, rfl, SqT.of (e3.tup h1), rfl, _, rfl, _, _, _, _, rfl, rfl, SqT.of (e3.tup h2), (by rw [ez]; exact atI_nat hp1), _, rfl, _, _, _, _, rfl, rfl, SqT.of (e3.tup h1), rfl, _, rfl, _, _, rfl, rfl, _, _, _, _, rfl, rfl, SqT.of (e3.tup h2), (by rw [ez2]; exact atI_nat hp2), _, _, _, _, _, _, rfl, rfl, SqT.of (e3.tup c1), SqT.of (e3.tup c2), rfl, ?_⟩
        have lt' : ps[i].2.1 < ps[i + 1].2.1 ∨ (ps[i].2.1 = ps[i + 1].2.1 ∧ ps[i].2.2 < ps[i + 1].2.2) := lt
        rw [decide_eq_true lt']
        rfl
      · refine ⟨_, rfl, ?_⟩
        have e : (List.range ((((ps.map fun p => V.ref p.1).length : Nat) : Int) - 1).toNat).any (fun _ => false) = false := by simp
        rw [e]
        exact iteF (q _ (Ev.tabbed hP T3 (hT.1 Pt hP)))
end
end Fo

end FoW1
section FoW2
set_option Elab.async false
set_option linter.all false
set_option maxRecDepth 100000
set_option maxHeartbeats 4000000
namespace Fo
open PySem PySem.Spec PyProof.Rows L2 FoS PySem.W
theorem any_ints (x : Int) : ∀ ns : List Int, (ns.map PyData.int).any (fun z => PyData.eqv z (.int x)) = decide (x ∈ ns)
  | [] => by simp
  | n :: ns => by
    rw [List.map_cons, List.any_cons, any_ints x ns]
    by_cases h : n = x
    · subst h
      simp [PyData.eqv]
    · have h' : ¬ x = n := fun e => h e.symm
      simp [PyData.eqv, h, h']
abbrev prD (p : Addr × Int × Int) : PyData := .tuple [.int p.2.1, .int p.2.2]
theorem eqv_pr (i j : Int) (p : Addr × Int × Int) : PyData.eqv (prD p) (.tuple [.int i, .int j]) = decide ((i, j) = p.2) := by
  obtain ⟨a, x, y⟩ := p
  have e : decide ((i, j) = (x, y)) = (decide (i = x) && decide (j = y)) := by
    by_cases h : i = x <;> by_cases h2 : j = y <;> simp [h, h2]
  show PyData.eqv (.tuple [.int x, .int y]) (.tuple [.int i, .int j]) = decide ((i, j) = (x, y))
  rw [e]
  by_cases h : x = i <;> by_cases h2 : y = j
  · subst h h2
    simp [PyData.eqv, PyData.eqvAll]
  · have h2' : ¬ j = y := fun e => h2 e.symm
    simp [PyData.eqv, PyData.eqvAll, h2, h2']
  · have h' : ¬ i = x := fun e => h e.symm
    simp [PyData.eqv, PyData.eqvAll, h, h']
  · have h' : ¬ i = x := fun e => h e.symm
    simp [PyData.eqv, PyData.eqvAll, h, h']
theorem any_pairs (i j : Int) : ∀ ps : List (Addr × Int × Int), (ps.map prD).any (fun z => PyData.eqv z (.tuple [.int i, .int j])) = decide ((i, j) ∈ ps.map (·.2))
  | [] => by simp
  | p :: ps => by
    rw [List.map_cons, List.any_cons, any_pairs i j ps, eqv_pr, List.map_cons]
    by_cases h : (i, j) = p.2
    · rw [decide_eq_true h, decide_eq_true (show (i, j) ∈ p.2 :: _ by rw [h]; exact List.mem_cons_self)]
      rfl
    · rw [decide_eq_false h, Bool.false_or]
      refine decide_eq_decide.mpr ⟨fun q => List.mem_cons_of_mem _ q, fun q => ?_⟩
      rcases List.mem_cons.mp q with q | q
      · exact absurd q h
      · exact q
theorem lay_pairs : ∀ ps : List (Addr × Int × Int), PyData.canLayAll0 (ps.map prD) = true
  | [] => by simp [PyData.canLayAll0]
  | p :: ps => by simp [PyData.canLayAll0, PyData.canLay0, lay_pairs ps]
theorem depth_pairs : ∀ ps : List (Addr × Int × Int), PyData.depthAll (ps.map prD) ≤ 1
  | [] => by simp [PyData.depthAll]
  | p :: ps => by
    have := depth_pairs ps
    simp [PyData.depthAll, PyData.depth]
    omega
theorem shaped_pairs (ps : List (Addr × Int × Int)) : SeqAt.shaped (.tuple (ps.map prD)) = true := by
  unfold SeqAt.shaped
  have := depth_pairs ps
  simp [PyData.canLay0, lay_pairs, PyData.depth]
  omega
theorem dp_pairs {K : PySem.W.Frag} {H : Hp} : ∀ {ps : List (Addr × Int × Int)}, (∀ p ∈ ps, H p.1 = some (.tup [.int p.2.1, .int p.2.2])) → DpAll K H (ps.map fun p => V.ref p.1) (ps.map prD)
  | [], _ => .nil
  | p :: ps, h => .cons (.tup (SqT.of (h p List.mem_cons_self)) (.cons (.int _) (.cons (.int _) .nil))) (dp_pairs fun q hq => h q (List.mem_cons_of_mem _ hq))
theorem shaped_int (x : Int) : SeqAt.shaped (.int x) = true := by simp [SeqAt.shaped, PyData.canLay0, PyData.depth]
theorem shaped_ij (i j : Int) : SeqAt.shaped (.tuple [.int i, .int j]) = true := by simp [SeqAt.shaped, PyData.canLay0, PyData.canLayAll0, PyData.depth, PyData.depthAll]
theorem inT_in {X : Cx} {K : PySem.W.Frag} (h : X.K = K) (hu : X.A.units + 65 < cLine) : OpR X (compareOp .In) (rInT K) := by
  subst h
  exact op_inT hu
section
variable {P : Program} {w : World} {K : PySem.W.Frag} {mg : Str → Option Value} {base : Heap} {T : TT}
abbrev sFoes : Stmt := topS 12
theorem scFoes : FnScope ["web", "one", "other"] ["web", "one", "other"] (defScope sFoes) := ⟨rfl, rfl, rfl, by decide +kernel, rfl, by decide +kernel, by decide +kernel⟩
theorem ok_foes {f : Addr} {fd : FuncData} (F : FnP K "are_foes" sFoes f fd) (B : Bt mg) : FnOk P w K mg base CX0 1 f fd ["web", "one", "other"] spFoes := by
  refine okN F scFoes (fun vs H Q E h => ?_) (fun cdv A outer s H vs Q E hr h => ?_)
  · obtain ⟨_, _, _, _, rfl, _⟩ := h
    rfl
  · obtain ⟨a, W, x, y, rfl, hW, q⟩ := h
    have hu : (A.deeper (envOfC "are_foes" (defScope sFoes) s.heap.objs.size f cdv)).units + 65 < cLine := by have := hr.un; omega
    refine ⟨_, pss_one (ps_ret (pe_cmpR (op_inT hu) (pe_tup (pa_cons (pe_callB (call_min2 rfl) (by rfl) B.min (by decide +kernel) (pa_cons (pv 1) (pa_cons (pv 2) pa_nil))) (pa_cons (pe_callB (call_max2 rfl) (by rfl) B.max (by decide +kernel) (pa_cons (pv 1) (pa_cons (pv 2) pa_nil))) pa_nil))) (pe_ix ix_tup (pv 0) pe_int (fun _ _ => rfl)) (by with_unfolding_all rfl))), ?_⟩
    obtain ⟨b, ps, h1, h2, h3, h4⟩ := hW
    refine ⟨_, rfl, _, rfl, _, _, rfl, _, rfl, _, rfl, _, _, rfl, (by show 2 ≤ sizeLine; decide), fun t ht => ?_⟩
    have m1 : (if y < x then y else x) = min x y := by split <;> omega
    have m2 : (if y > x then y else x) = max x y := by split <;> omega
    rw [m1, m2] at *
    have e : Same H (upd H t (.tup [.int (min x y), .int (max x y)])) := Same.new (Same.refl _) ht
    refine ⟨_, rfl, _, _, _, _, rfl, rfl, SqT.of (e _ _ h1), rfl, .tuple [.int (min x y), .int (max x y)], ps.map prD, .tup (SqT.of upd_same) (.cons (.int _) (.cons (.int _) .nil)), .tup (SqT.of (e _ _ h2)) (dp_pairs fun p hp => e _ _ (h3 p hp)), shaped_ij _ _, shaped_pairs ps, ?_⟩
    rw [any_pairs, ← h4]
    exact q _ e
end
end Fo

end FoW2
section FoW3
set_option Elab.async false
set_option linter.all false
set_option maxRecDepth 100000
set_option maxHeartbeats 4000000
namespace Fo
open PySem PySem.Spec PyProof.Rows L2 FoS PySem.W
section
variable {P : Program} {w : World} {K : PySem.W.Frag} {mg : Str → Option Value} {base : Heap} {T : TT}
theorem gtup_in {X : Cx} {K : PySem.W.Frag} {es : List Expr} {k n : Nat} {t : TGs} {pos : Pos} (e : X.K = K) (hc : X.calm = true) (h : PGs X es t) (hn : (assignEach es X.env).length = n) (hst : (assignEach es X.env).findIdx? (·.1) = none) : PG X (.Tuple es k pos) (gTup K n t) := by
  subst e
  exact pg_tup hc h hn hst
theorem asc_len : ∀ (ns : List Int) (lo hi : Int), (∀ x ∈ ns, lo ≤ x ∧ x < hi) → ns.Pairwise (· < ·) → (ns.length : Int) ≤ (hi - lo).toNat
  | [], lo, hi, _, _ => by
    rw [List.length_nil]
    omega
  | n :: ns, lo, hi, h, p => by
    obtain ⟨p1, p2⟩ := List.pairwise_cons.mp p
    have h1 := h n List.mem_cons_self
    have := asc_len ns (n + 1) hi (fun x hx => ⟨by have := p1 x hx; omega, (h x (List.mem_cons_of_mem _ hx)).2⟩) p2
    rw [List.length_cons]
    omega
theorem lot_len {n : Nat} {ns : List Int} (h : Lot n ns) : ns.length ≤ n := by
  have := asc_len ns 0 n h.rg h.asc
  omega
abbrev sIsLot : Stmt := topS 13
theorem scIsLot : FnScope ["web", "value", "one", "k"] ["web", "value"] (defScope sIsLot) := ⟨rfl, rfl, rfl, by decide +kernel, rfl, by decide +kernel, by decide +kernel⟩
theorem ok_isLot {f fI c Pt : Addr} {fd fdI : FuncData} (F : FnP K "is_lot" sIsLot f fd) (FI : FnP K "is_in" sIsIn fI fdI) (mI : mg "is_in" = some (.ref fI)) (O : Own base mg fd c Pt) (hP : Pt ∈ T.G) (B : Bt mg) : FnOk P w K mg base CX0 3 f fd ["web", "value"] (spIsLot T) := by
  have GI : FnOk P w K mg base CX0 1 fI fdI ["value", "least", "most"] spIsIn := ok_isIn FI B
  have bI : Binds K fdI ["value", "least", "most"] [] := FI.bindsN fun _ _ _ _ _ _ us hl => match us, hl with | [_, _, _], _ => rfl
  refine okC F O scIsLot (fun vs H Q E h => ?_) (fun A outer s H vs Q E hr h => ?_)
  · obtain ⟨_, _, _, _, rfl, _⟩ := h
    rfl
  · obtain ⟨a, W, t, ns, rfl, hW, hn, ht, lot, hT, q⟩ := h
    refine ⟨_, pss_cons (ps_if (pw_or (pt_not (pt_val (pe_callB call_isi (by rfl) B.isi (by decide +kernel) (pa_cons (pv 1) (pa_cons (pe_bltn (v := .ty "tuple") (by rfl) B.tuple (by decide +kernel) rfl) pa_nil)))))
        (pw_or1 (pt_not (pt_val (Gx.pe_allG hr (by rfl) B.all (by decide +kernel) rfl O.gx rfl (Gx.gs_by (by decide +kernel)) scIsLot.nd (blkOk_by (own := [("one", 2)]) (N := ["web", "value", "one", "k"]) (sc := defScope sIsLot) (by decide +kernel))
          (pi_tup (pv 1)) (fun _ _ _ _ _ _ _ => pg_name (i := 2) scIsLot.nd rfl (Or.inl rfl))
          (fun _ _ _ _ _ _ _ => pe_call GI (gx_room hr _) (by rfl) mI FI.kp bI .nil pass0 (pa_cons (pv 2) (pa_cons pe_int (pa_cons (pe_op op_sub (pe_ix (ixT_in (K := K) rfl) (pv 0) pe_int (fun _ _ => rfl)) pe_int) pa_nil)))))))) ).pt (pss_one (ps_ret pe_bl)) pss_nil)
      (pss_one (ps_ret (Gx.pe_allG hr (by rfl) B.all (by decide +kernel) rfl O.gx rfl (Gx.gs_by (by decide +kernel)) scIsLot.nd (blkOk_by (own := [("k", 3)]) (N := ["web", "value", "one", "k"]) (sc := defScope sIsLot) (by decide +kernel))
          (pi_range1 (by rfl) B.range (pa_cons (pe_op op_sub (pe_callB call_len_seq (by rfl) B.len PySem.boot_len (pa_cons (pv 1) pa_nil)) pe_int) pa_nil))
          (fun _ _ _ _ _ _ _ => pg_name (i := 3) scIsLot.nd rfl (Or.inl rfl))
          (fun _ _ _ _ _ _ _ => pe_cmpR op_lt (pe_ix (ixT_in (K := K) rfl) (pv 1) (pv 3) (fun _ _ => rfl)) (pe_ix (ixT_in (K := K) rfl) (pv 1) (pe_op op_add (pv 3) pe_int) (fun _ _ => rfl)) (nomark _))))), ?_⟩
    obtain ⟨b, ps, h1, h2, h3, h4⟩ := hW
    have hlen := lot_len lot
    refine ⟨_, rfl, _, _, .type "tuple", .type "tuple", true, rfl, .ty _, .base (.tup ht), kit_ty (by decide +kernel), _, rfl, iteF ?_⟩
    refine ⟨_, rfl, t, rfl, ⟨_, SqT.of ht⟩, hT.1 Pt hP, ns.length, fun _ => .bl true, fun H3 T3 => ?_, fun _ => true, rfl, fun H3 T3 => ?_⟩
    · have e3 : Ev T H H3 := Ev.tabbed hP T3 (hT.1 Pt hP)
      have ht3 := e3.tup ht
      refine ⟨⟨_, SqT.of ht3, by rw [List.length_map]; omega⟩, fun i hi => ⟨_, V.int ns[i], SqT.of ht3, by rw [List.getElem?_map, List.getElem?_eq_getElem hi]; rfl⟩, fun i x H' hi hy => ?_⟩
      obtain ⟨rfl, hx⟩ := hy
      have ex := hx _ (SqT.of ht3)
      rw [List.getElem?_map, List.getElem?_eq_getElem hi] at ex
      have ex := Option.some.inj ex
      subst ex
      have hrg := lot.rg ns[i] (List.getElem_mem _)
      refine ⟨rfl, rfl, _, rfl, _, rfl, _, _, _, _, rfl, rfl, SqT.of (e3.tup h1), rfl, _, _, rfl, rfl, _, _, _, rfl, rfl, ?_⟩
      rw [decide_eq_true (by omega)]
    · refine ⟨_, rfl, ?_⟩
      have e3 : Ev T H H3 := Ev.tabbed hP T3 (hT.1 Pt hP)
      have hT3 := e3.2 hT
      have ea : (List.range ns.length).all (fun _ => true) = true := by simp
      rw [ea]
      refine iteF ?_
      have ht3 := e3.tup ht
      refine ⟨_, rfl, _, _, rfl, .inr (SqT.of ht3), _, _, rfl, rfl, _, rfl, by rw [List.length_map]; omega, by rw [List.length_map]; omega, hT3.1 Pt hP, ((((ns.map V.int).length : Nat) : Int) - 1).toNat, fun _ => .bl true, fun H4 T4 => ?_, fun _ => true, rfl, fun H4 T4 => ?_⟩
      · have e4 : Ev T H3 H4 := Ev.tabbed hP T4 (hT3.1 Pt hP)
        refine ⟨Nat.le_refl _, fun i hi => hi, fun i x H' hi hy => ?_⟩
        obtain ⟨rfl, rfl⟩ := hy
        have hi1 : i + 1 < ns.length := by rw [List.length_map] at hi; omega
        have hp1 : (ns.map V.int)[i]? = some (V.int ns[i]) := by rw [List.getElem?_map, List.getElem?_eq_getElem (by omega)]; rfl
        have hp2 : (ns.map V.int)[i + 1]? = some (V.int ns[i + 1]) := by rw [List.getElem?_map, List.getElem?_eq_getElem hi1]; rfl
        have lt : ns[i] < ns[i + 1] := List.pairwise_iff_getElem.mp lot.asc i (i + 1) (by omega) hi1 (by omega)
        have ez : (0 : Int) + (i : Int) = ((i : Nat) : Int) := by omega
        have ez2 : (0 : Int) + (i : Int) + 1 = ((i + 1 : Nat) : Int) := by omega
        refine ⟨rfl, rfl, _, rfl, _, rfl, _, _, _, _, rfl, rfl, SqT.of (e4.tup ht3), (by rw [ez]; exact atI_nat hp1), _, rfl, _, rfl, _, _, rfl, rfl, _, _, _, _, rfl, rfl, SqT.of (e4.tup ht3), (by rw [ez2]; exact atI_nat hp2), _, _, rfl, rfl, rfl, ?_⟩
        show V.bl (decide (ns[i] < ns[i + 1])) = _
        rw [decide_eq_true lt]
      · have eb : (List.range ((((ns.map V.int).length : Nat) : Int) - 1).toNat).all (fun _ => true) = true := by simp
        rw [eb]
        exact q _ (e3.trans (Ev.tabbed hP T4 (hT3.1 Pt hP)))
abbrev sIsG : Stmt := topS 14
theorem scIsG : FnScope ["web", "value", "one", "other"] ["web", "value"] (defScope sIsG) := ⟨rfl, rfl, rfl, by decide +kernel, rfl, by decide +kernel, by decide +kernel⟩
theorem ok_isG {f fL c Pt : Addr} {fd fdL : FuncData} (F : FnP K "is_gathering" sIsG f fd) (FL : FnP K "is_lot" sIsLot fL fdL) (mL : mg "is_lot" = some (.ref fL)) (GL : FnOk P w K mg base CX0 3 fL fdL ["web", "value"] (spIsLot T)) (O : Own base mg fd c Pt) (hP : Pt ∈ T.G) (B : Bt mg) :
    FnOk P w K mg base CX0 4 f fd ["web", "value"] (spIsG T) := by
  have bL : Binds K fdL ["web", "value"] [] := FL.bindsN fun _ _ _ _ _ _ us hl => match us, hl with | [_, _], _ => rfl
  refine okC F O scIsG (fun vs H Q E h => ?_) (fun A outer s H vs Q E hr h => ?_)
  · obtain ⟨_, _, _, _, rfl, _⟩ := h
    rfl
  · obtain ⟨a, W, t, ns, rfl, hW, hn, ht, lot, hT, q⟩ := h
    refine ⟨_, pss_one (ps_ret (pe_and (pe_call GL hr (by rfl) mL FL.kp bL .nil pass0 (pa_cons (pv 0) (pa_cons (pv 1) pa_nil)))
      (pe_one (pe_not (Gx.pe_anyG hr (by rfl) B.any rfl O.gx rfl (Gx.gs_by (by decide +kernel)) scIsG.nd (blkOk_by (own := [("one", 2), ("other", 3)]) (N := ["web", "value", "one", "other"]) (sc := defScope sIsG) (by decide +kernel))
        (pi_tup (pe_ix ix_tup (pv 0) pe_int (fun _ _ => rfl)))
        (fun _ _ _ _ _ _ _ => gtup_in (K := K) (n := 2) rfl rfl (pgs_cons (pg_name (i := 2) scIsG.nd rfl (Or.inl rfl)) (pgs_cons (pg_name (i := 3) scIsG.nd rfl (Or.inl rfl)) pgs_nil)) rfl rfl)
        (fun _ _ _ _ _ _ _ => pe_and (pe_cmpR (inT_in (K := K) rfl (gx_units hr _)) (pv 2) (pv 1) (by with_unfolding_all rfl)) (pe_one (pe_cmpR (inT_in (K := K) rfl (gx_units hr _)) (pv 3) (pv 1) (by with_unfolding_all rfl))))))))), ?_⟩
    refine ⟨_, rfl, _, rfl, a, W, t, ns, rfl, hW, hn, ht, lot, hT, fun H1 e1 => ⟨_, rfl, iteT ?_⟩⟩
    have hT1 := e1.2 hT
    obtain ⟨b, ps, h1, h2, h3, h4⟩ := hW.ev e1
    have ht1 := e1.tup ht
    refine ⟨_, rfl, _, _, _, _, rfl, rfl, SqT.of h1, rfl, b, rfl, ⟨_, SqT.of h2⟩, hT1.1 Pt hP, ps.length, fun i => .bl (match ps[i]? with | some p => decide (p.2.1 ∈ ns) && decide (p.2.2 ∈ ns) | none => false), fun H3 T3 => ?_, _, rfl, fun H3 T3 => ?_⟩
    · have e3 : Ev T H1 H3 := Ev.tabbed hP T3 (hT1.1 Pt hP)
      have h23 := e3.tup h2
      refine ⟨⟨_, SqT.of h23, by rw [List.length_map]; omega⟩, fun i hi => ⟨_, V.ref ps[i].1, SqT.of h23, by rw [List.getElem?_map, List.getElem?_eq_getElem hi]; rfl⟩, fun i x H' hi hy => ?_⟩
      obtain ⟨rfl, hx⟩ := hy
      have ex := hx _ (SqT.of h23)
      rw [List.getElem?_map, List.getElem?_eq_getElem hi] at ex
      have ex := Option.some.inj ex
      subst ex
      have g := e3.tup (h3 ps[i] (List.getElem_mem _))
      have ht3 := e3.tup ht1
      refine ⟨rfl, _, _, rfl, SqT.of g, rfl, _, _, rfl, _, _, rfl, rfl, rfl, _, rfl, _, rfl, .int ps[i].2.1, ns.map PyData.int, .int _, .tup (SqT.of ht3) (dpI ns), shaped_int _, shaped_tD ns, ?_⟩
      rw [any_ints]
      refine ⟨_, rfl, ?_⟩
      rw [List.getElem?_eq_getElem hi]
      show if decide (ps[i].2.1 ∈ ns) = true then _ else _
      by_cases hm : ps[i].2.1 ∈ ns
      · rw [decide_eq_true hm]
        refine iteT ⟨_, rfl, _, rfl, .int ps[i].2.2, ns.map PyData.int, .int _, .tup (SqT.of ht3) (dpI ns), shaped_int _, shaped_tD ns, rfl, ?_⟩
        rw [any_ints]
        simp [hm]
      · rw [decide_eq_false hm]
        refine iteF ⟨rfl, ?_⟩
        simp [hm]
    · refine ⟨_, rfl, ?_⟩
      have ee : (!(List.range ps.length).any fun i => (match ps[i]? with | some p => decide (p.2.1 ∈ ns) && decide (p.2.2 ∈ ns) | none => false)) = isG W ns := by
        unfold isG
        rw [h4, List.any_map]
        congr 1
        rw [Bool.eq_iff_iff, List.any_eq_true, List.any_eq_true]
        constructor
        · rintro ⟨i, hi, h⟩
          rw [List.getElem?_eq_getElem (List.mem_range.mp hi)] at h
          exact ⟨_, List.getElem_mem _, h⟩
        · rintro ⟨p, hp, h⟩
          obtain ⟨i, hi, rfl⟩ := List.mem_iff_getElem.mp hp
          exact ⟨i, List.mem_range.mpr hi, by rw [List.getElem?_eq_getElem hi]; exact h⟩
      rw [ee]
      exact q _ (e1.trans (Ev.tabbed hP T3 (hT1.1 Pt hP)))
abbrev sNG : Stmt := topS 15
theorem scNG : FnScope ["web", "gathering"] ["web", "gathering"] (defScope sNG) := ⟨rfl, rfl, rfl, by decide +kernel, rfl, by decide +kernel, by decide +kernel⟩
theorem ok_needG {f fL fN : Addr} {fd fdL fdN : FuncData} (F : FnP K "need_gathering" sNG f fd) (FL : FnP K "is_gathering" sIsG fL fdL) (mL : mg "is_gathering" = some (.ref fL)) (GL : FnOk P w K mg base CX0 4 fL fdL ["web", "value"] (spIsG T))
    (FN : FnP K "need_web" sNW fN fdN) (mN : mg "need_web" = some (.ref fN)) (GN : FnOk P w K mg base CX0 2 fN fdN ["web"] (spNeedWeb T)) :
    FnOk P w K mg base CX0 5 f fd ["web", "gathering"] (spNeedG T) := by
  have bL : Binds K fdL ["web", "value"] [] := FL.bindsN fun _ _ _ _ _ _ us hl => match us, hl with | [_, _], _ => rfl
  have bN : Binds K fdN ["web"] [] := FN.bindsN fun _ _ _ _ _ _ us hl => match us, hl with | [_], _ => rfl
  refine okN F scNG (fun vs H Q E h => ?_) (fun cdv A outer s H vs Q E hr h => ?_)
  · obtain ⟨_, _, _, _, rfl, _⟩ := h
    rfl
  · obtain ⟨a, W, t, ns, rfl, hW, ok, ht, lot, hg, hT, q⟩ := h
    refine ⟨_, pss_cons (ps_expr (pe_call GN (hr.mono (by decide)) (by rfl) mN FN.kp bN .nil pass0 (pa_cons (pv 0) pa_nil)))
      (pss_one (ps_if (pt_not (pt_val (pe_call GL hr (by rfl) mL FL.kp bL .nil pass0 (pa_cons (pv 0) (pa_cons (pv 1) pa_nil))))) pss_never pss_nil)), ?_⟩
    refine ⟨_, rfl, a, W, rfl, hW, ok, hT, fun H1 e1 => ?_⟩
    refine ⟨_, rfl, _, rfl, a, W, t, ns, rfl, hW.ev e1, ok.hi, e1.tup ht, lot, e1.2 hT, fun H2 e2 => ⟨_, rfl, ?_⟩⟩
    rw [hg]
    exact iteF (q _ (e1.trans e2))
end
end Fo

end FoW3
section FoW4
set_option Elab.async false
set_option linter.all false
set_option maxRecDepth 100000
set_option maxHeartbeats 4000000
namespace Fo
open PySem PySem.Spec PyProof.Rows L2 FoS PySem.W
theorem Same.own {H H' : Hp} {a : Addr} {o : HO} (e : Same H H') (h0 : H a = none) : Same H (upd H' a o) := fun b u q => by
  rw [upd_ne (ne_of_none q h0)]
  exact e b u q
theorem TI.updL {H : Hp} {t D : Addr} {ns : List Int} {xs : List V} {o : HO} (h : TI H t ns) (hD : H D = some (.lst xs)) : TI (upd H D o) t ns := by
  show upd H D o t = _
  rw [upd_ne (ne_of h hD fun z => nomatch z)]
  exact h
theorem lots_succ (n : Nat) : lotsF (n + 1) = lotsF n ++ (lotsF n).map (· ++ [(n : Int)]) := by
  unfold lotsF
  rw [List.range_succ, List.foldl_append]
  rfl
theorem lots_len : ∀ n, (lotsF n).length = 2 ^ n
  | 0 => rfl
  | n + 1 => by
    rw [lots_succ, List.length_append, List.length_map, lots_len n, Nat.pow_succ]
    omega
theorem pow5 {n : Nat} (h : n ≤ 5) : 2 ^ n ≤ 32 := Nat.pow_le_pow_right (by decide) h
theorem size_big {n : Nat} (h : n ≤ 1000000) : n ≤ sizeLine := by
  rw [sizeLine_eq]
  omega
theorem lots_small : ∀ n, ∀ ns ∈ lotsF n, ns.length ≤ n
  | 0, ns, h => by
    have : ns = [] := by simpa [lotsF] using h
    rw [this]
    exact Nat.le_refl _
  | n + 1, ns, h => by
    rw [lots_succ, List.mem_append, List.mem_map] at h
    rcases h with h | ⟨m, h, rfl⟩
    · have := lots_small n ns h
      omega
    · have := lots_small n m h
      rw [List.length_append, List.length_singleton]
      omega
theorem perm_map {α β : Type} (f : α → β) {l : List α} {m : List β} (h : m.Perm (l.map f)) : ∃ k : List α, m = k.map f ∧ k.Perm l := by
  induction m generalizing l with
  | nil =>
    have : l = [] := by simpa using h.symm.eq_nil
    exact ⟨[], rfl, by rw [this]⟩
  | cons x m ih =>
    obtain ⟨a, ha, rfl⟩ := List.mem_map.mp (h.mem_iff.mp List.mem_cons_self)
    obtain ⟨s, t, rfl⟩ := List.append_of_mem ha
    have h2 : (f a :: m).Perm (f a :: (s ++ t).map f) := by
      refine h.trans ?_
      rw [List.map_append, List.map_cons, List.map_append]
      exact List.perm_middle
    obtain ⟨k, rfl, pk⟩ := ih h2.cons_inv
    exact ⟨a :: k, rfl, (pk.cons a).trans List.perm_middle.symm⟩
theorem pa_starK {X : Cx} {K : PySem.W.Frag} {e : Expr} {es : List Expr} {te : TE} {t : TA} {p : Pos} (h : X.K = K) (he : PE X e te) (hr : PA X es t) (hs : starEach (.Starred e p :: es) X.env = (true, eval e X.env) :: starEach es X.env) : PA X (.Starred e p :: es) (StX.tStar K te t) := by
  subst h
  exact StX.pa_star he hr hs
section
variable {P : Program} {w : World} {K : PySem.W.Frag} {mg : Str → Option Value} {base : Heap} {T : TT}
abbrev sLots : Stmt := topS 16
theorem scLots : FnScope ["web", "found", "person", "one"] ["web"] (defScope sLots) := ⟨rfl, rfl, rfl, by decide +kernel, rfl, by decide +kernel, by decide +kernel⟩
theorem ok_lots {f : Addr} {fd : FuncData} (F : FnP K "all_lots" sLots f fd) (B : Bt mg) : FnOk P w K mg base CX0 1 f fd ["web"] spLots := by
  refine okN F scLots (fun vs H Q E h => ?_) (fun cdv A outer s H vs Q E hr h => ?_)
  · obtain ⟨_, _, rfl, _⟩ := h
    rfl
  · obtain ⟨a, W, rfl, hW, hn, q⟩ := h
    have hu : (A.deeper (envOfC "all_lots" (defScope sLots) s.heap.objs.size f cdv)).in1.in1.units < cLine := by have := hr.un; show _ + 1 + 1 < _; omega
    refine ⟨_, pss_cons (ps_set (i := 1) scLots.nd rfl (.inl rfl) (pe_lst (pa_cons (pe_tup pa_nil) pa_nil)))
      (pss_cons (ps_for PassesOwn.never rfl (pi_range1 (by rfl) B.range (pa_cons (pe_ix ix_tup (pv 0) pe_int (fun _ _ => rfl)) pa_nil)) (pg_name (i := 2) scLots.nd rfl (Or.inr rfl))
        (pss_one (ps_set (i := 1) scLots.nd rfl (.inl rfl) (pe_op op_cat (pv 1) (pe_lc (own := [("one", 3)]) (g := gName 3) (tt := tYes) rfl scLots.nd (pi_list (pv 1))
          (blkOk_by (N := ["web", "found", "person", "one"]) (sc := defScope sLots) (by decide +kernel)) (fun _ _ _ _ _ => pg_name (i := 3) scLots.nd rfl (Or.inl rfl)) (fun _ _ _ _ _ => pts_nil)
          (fun _ _ _ _ _ => pe_tup (pa_starK (K := K) rfl (pv 3) (pa_cons (pv 2) pa_nil) rfl)))))))
      (pss_one (ps_ret (pe_callB (cr_sortTI hu) (by rfl) B.sorted (by decide +kernel) (pa_cons (pv 1) pa_nil))))), ?_⟩
    obtain ⟨b, ps, h1, h2, h3, h4⟩ := id hW
    -- found = [()]
    refine ⟨(by show 0 ≤ sizeLine; decide), fun t0 n0 => ⟨(by show 1 ≤ sizeLine; decide), fun l0 m0 => ?_⟩⟩
    have e0 : Same H (upd (upd H t0 (.tup [])) l0 (.lst [.ref t0])) := Same.new (Same.new (Same.refl _) n0) m0
    refine ⟨_, rfl, _, _, _, _, rfl, rfl, SqT.of (e0 _ _ h1), rfl, _, rfl, by omega, by omega, for_range (lo := 0) (n := (W.n : Int).toNat) (fun i σ H2 => ∃ p ts pv ov, σ = [some (.ref a), some (.ref p), pv, ov] ∧ Same H H2 ∧ TIs H2 p ts ∧ ts.map (·.2) = lotsF i)
      ⟨l0, [(t0, [])], none, none, rfl, e0, ⟨upd_same, fun t ht => ?_⟩, rfl⟩ ?_ ?_⟩
    · rw [List.mem_singleton.mp ht]
      show upd _ l0 _ t0 = _
      rw [upd_ne (ne_of_none upd_same m0), upd_same]
      rfl
    · rintro i σ H2 hi ⟨p, ts, pv, ov, rfl, e2, ⟨l2, t2⟩, hts⟩
      have hi5 : i ≤ 4 := by omega
      have hlen : ts.length ≤ 32 := by
        have := congrArg List.length hts
        rw [List.length_map, lots_len] at this
        rw [this]
        exact pow5 (by omega)
      refine ⟨_, rfl, _, rfl, p, rfl, ⟨_, SqL.of l2⟩, fun D hD => lc_list (K := K) (a := p) (xs := ts.map fun t => V.ref t.1) (fun j H3 => ∃ us, Same H2 H3 ∧ TIs H3 D us ∧ us.map (·.2) = (ts.take j).map (fun t => t.2 ++ [(i : Int)])) ⟨[], Same.new (Same.refl _) hD, ⟨upd_same, fun t ht => nomatch ht⟩, rfl⟩
        (fun j H3 _ ⟨_, e3, _⟩ => SqL.of (e3 _ _ l2)) ?_ ?_⟩
      · rintro j x H3 hj ⟨us, e3, ⟨l3, t3⟩, hus⟩
        rw [List.getElem?_map] at hj
        obtain ⟨t, ht, rfl⟩ := Option.map_eq_some_iff.mp hj
        have hjl := (List.getElem?_eq_some_iff.mp ht).1
        have hti := t2 t (List.mem_of_getElem? ht)
        have hul : us.length ≤ 32 := by
          have := congrArg List.length hus
          rw [List.length_map, List.length_map, List.length_take] at this
          omega
        have hsm : t.2.length ≤ 5 := by
          have : t.2 ∈ lotsF i := by rw [← hts]; exact List.mem_map_of_mem (List.mem_of_getElem? ht)
          have := lots_small i _ this
          omega
        refine ⟨rfl, ⟨_, rfl, _, _, rfl, .inl (SqT.of (e3 _ _ hti)), _, rfl, ?_, fun r nr => ⟨us.map fun t => V.ref t.1, ?_, ?_, us ++ [(r, t.2 ++ [(i : Int)])], ?_, ⟨?_, fun u hu => ?_⟩, ?_⟩⟩⟩
        · rw [List.length_append, List.length_map]
          exact size_big (by show t.2.length + 1 ≤ 1000000; omega)
        · rw [upd_ne (ne_of_none l3 nr)]
          exact l3
        · rw [List.length_map, sizeLine_eq]
          omega
        · exact Same.own (Same.new e3 nr) hD
        · rw [upd_same, List.map_append]
          rfl
        · have hDr : upd H3 r (HO.tup (t.2.map V.int ++ [V.int (0 + (i : Int))])) D = some (.lst (us.map fun t => V.ref t.1)) := by
            rw [upd_ne (ne_of_none l3 nr)]
            exact l3
          rcases List.mem_append.mp hu with hu | hu
          · refine TI.updL ?_ hDr
            show upd H3 r _ u.1 = _
            rw [upd_ne (ne_of_none (t3 u hu) nr)]
            exact t3 u hu
          · rw [List.mem_singleton.mp hu]
            refine TI.updL ?_ hDr
            show upd H3 r _ r = _
            rw [upd_same, List.map_append, Int.zero_add]
            rfl
        · rw [List.map_append, hus, List.take_succ, ht, List.map_append]
          rfl
      · rintro H3 ⟨us, e3, ⟨l3, t3⟩, hus⟩
        rw [List.length_map, List.take_length] at hus
        have hul : us.length ≤ 32 := by
          have := congrArg List.length hus
          rw [List.length_map, List.length_map] at this
          omega
        refine ⟨_, _, _, _, rfl, rfl, e3 _ _ l2, l3, ?_, fun r nr => ⟨r, ts ++ us, _, _, rfl, e2.trans (Same.new e3 nr), ⟨?_, fun t ht => ?_⟩, ?_⟩⟩
        · rw [List.length_map, List.length_map]
          exact size_big (by omega)
        · rw [upd_same, List.map_append]
        · show upd H3 r _ t.1 = _
          have : TI H3 t.1 t.2 := by
            rcases List.mem_append.mp ht with ht | ht
            · exact e3 _ _ (t2 t ht)
            · exact t3 t ht
          rw [upd_ne (ne_of_none this nr)]
          exact this
        · rw [List.map_append, hus, hts, lots_succ, ← hts, List.map_map]
          rfl
    · rintro σ H2 ⟨p, ts, pv, ov, rfl, e2, ⟨l2, t2⟩, hts⟩
      refine ⟨_, rfl, p, ts.map (·.1), rfl, SqL.of (by rw [l2, List.map_map]; rfl), fun t ht => ?_, fun ts' r pm nr => ?_⟩
      · obtain ⟨u, hu, rfl⟩ := List.mem_map.mp ht
        exact ⟨_, t2 u hu⟩
      · obtain ⟨us, rfl, pu⟩ := perm_map (fun t : Addr × List Int => t.1) pm
        have e3 : Same H2 (upd H2 r (.lst ((us.map (·.1)).map V.ref))) := Same.new (Same.refl _) nr
        refine q _ r us (e2.trans e3) ⟨by rw [upd_same, List.map_map]; rfl, fun t ht => e3 _ _ (t2 t (pu.mem_iff.mp ht))⟩ ?_
        have := pu.map (·.2)
        rw [hts, Int.toNat_natCast] at this
        exact this
end
end Fo

end FoW4
section FoW5
set_option Elab.async false
set_option linter.all false
set_option maxRecDepth 100000
set_option maxHeartbeats 4000000
namespace Fo
open PySem PySem.Spec PyProof.Rows L2 FoS PySem.W
theorem sorted_uniq {l m : List Int} (p : l.Perm m) (hl : l.Pairwise (· ≤ ·)) (hm : m.Pairwise (· ≤ ·)) : l = m :=
  List.Perm.eq_of_pairwise (fun a b _ _ h1 h2 => Int.le_antisymm h1 h2) hl hm p
theorem ms_pair (l : List Int) : (l.mergeSort fun a b => decide (a ≤ b)).Pairwise (· ≤ ·) := by
  have hs := List.pairwise_mergeSort (le := fun x y : Int => decide (x ≤ y)) (by intro x y z h1 h2; simp only [decide_eq_true_eq] at *; omega) (by intro x y; simp only [Bool.or_eq_true, decide_eq_true_eq]; omega) l
  exact hs.imp fun h => by simpa using h
section
variable {P : Program} {w : World} {K : PySem.W.Frag} {mg : Str → Option Value} {base : Heap} {T : TT}
abbrev sGaths : Stmt := topS 17
theorem scGaths : FnScope ["web", "one"] ["web"] (defScope sGaths) := ⟨rfl, rfl, rfl, by decide +kernel, rfl, by decide +kernel, by decide +kernel⟩
theorem lots_lot : ∀ n, ∀ ns ∈ lotsF n, Lot n ns
  | 0, ns, h => by
    have : ns = [] := by simpa [lotsF] using h
    rw [this]
    exact ⟨fun x hx => (nomatch hx), List.Pairwise.nil⟩
  | n + 1, ns, h => by
    rw [lots_succ, List.mem_append, List.mem_map] at h
    rcases h with h | ⟨m, h, rfl⟩
    · have := lots_lot n ns h
      exact ⟨fun x hx => by have := this.rg x hx; omega, this.asc⟩
    · have l := lots_lot n m h
      refine ⟨fun x hx => ?_, ?_⟩
      · rcases List.mem_append.mp hx with hx | hx
        · have := l.rg x hx
          omega
        · rw [List.mem_singleton.mp hx]
          omega
      · refine List.pairwise_append.mpr ⟨l.asc, List.pairwise_singleton _ _, fun a ha b hb => ?_⟩
        rw [List.mem_singleton.mp hb]
        exact (l.rg a ha).2
theorem ok_gaths {f fL fG : Addr} {fd fdL fdG : FuncData} (F : FnP K "all_gatherings" sGaths f fd) (FL : FnP K "all_lots" sLots fL fdL) (mL : mg "all_lots" = some (.ref fL)) (GL : FnOk P w K mg base CX0 1 fL fdL ["web"] spLots)
    (FG : FnP K "is_gathering" sIsG fG fdG) (mG : mg "is_gathering" = some (.ref fG)) (GG : FnOk P w K mg base CX0 4 fG fdG ["web", "value"] (spIsG T)) : FnOk P w K mg base CX0 5 f fd ["web"] (spGaths T) := by
  have bL : Binds K fdL ["web"] [] := FL.bindsN fun _ _ _ _ _ _ us hl => match us, hl with | [_], _ => rfl
  have bG : Binds K fdG ["web", "value"] [] := FG.bindsN fun _ _ _ _ _ _ us hl => match us, hl with | [_, _], _ => rfl
  refine okN F scGaths (fun vs H Q E h => ?_) (fun cdv A outer s H vs Q E hr h => ?_)
  · obtain ⟨_, _, rfl, _⟩ := h
    rfl
  · obtain ⟨a, W, rfl, hW, hn, hT, q⟩ := h
    refine ⟨_, pss_one (ps_ret (pe_lc (own := [("one", 1)]) (g := gName 1) rfl scGaths.nd (pi_list (pe_call GL (hr.mono (by decide)) (by rfl) mL FL.kp bL .nil pass0 (pa_cons (pv 0) pa_nil)))
          (blkOk_by (N := ["web", "one"]) (sc := defScope sGaths) (by decide +kernel)) (fun _ _ _ _ _ => pg_name (i := 1) scGaths.nd rfl (Or.inl rfl))
          (fun _ _ _ _ _ => pts_one (pt_val (pe_call GG hr (by rfl) mG FG.kp bG .nil pass0 (pa_cons (pv 0) (pa_cons (pv 1) pa_nil)))))
          (fun _ _ _ _ _ => pv 1))), ?_⟩
    refine ⟨_, rfl, a, W, rfl, hW, hn, fun H1 p ts e1 ⟨l1, t1⟩ hts => ⟨p, rfl, ⟨_, SqL.of l1⟩, fun D hD => ?_⟩⟩
    have hTs : ∀ t ∈ ts, Lot W.n t.2 := fun t ht => lots_lot _ _ (hts.mem_iff.mp (List.mem_map_of_mem ht))
    have hlen : ts.length ≤ 32 := by
      have := hts.length_eq
      rw [List.length_map, lots_len] at this
      rw [this]
      exact pow5 hn
    have hW1 := hW.same e1
    have hT1 := hT.same e1
    refine lc_list (K := K) (a := p) (xs := ts.map fun t => V.ref t.1) (fun j H3 => ∃ us, Ev T H1 H3 ∧ TIs H3 D us ∧ us.length ≤ j ∧ us.map (·.2) = ((ts.take j).map (·.2)).filter (isG W)) ⟨[], Ev.new (Ev.refl _) hD, ⟨upd_same, fun t ht => nomatch ht⟩, Nat.le_refl _, rfl⟩
        (fun j H3 _ ⟨_, e3, _⟩ => SqL.of (e3.lst l1)) ?_ ?_
    · rintro j x H3 hj ⟨us, e3, ⟨l3, t3⟩, hul, hus⟩
      rw [List.getElem?_map] at hj
      obtain ⟨t, ht, rfl⟩ := Option.map_eq_some_iff.mp hj
      have hjl := (List.getElem?_eq_some_iff.mp ht).1
      have hm := List.mem_of_getElem? ht
      have hti := t1 t hm
      have htk : ((ts.take (j + 1)).map (·.2)).filter (isG W) = ((ts.take j).map (·.2)).filter (isG W) ++ (if isG W t.2 = true then [t.2] else []) := by
        rw [List.take_succ, ht, List.map_append, List.filter_append]
        simp only [Option.toList_some, List.map_cons, List.map_nil, List.filter_cons, List.filter_nil]
      refine ⟨rfl, _, rfl, _, rfl, a, W, t.1, t.2, rfl, hW1.ev e3, hn, e3.tup hti, hTs t hm, e3.2 hT1, fun H4 e4 => ⟨_, rfl, ?_⟩⟩
      have l4 := e4.lst l3
      refine ite2 (fun hg => ⟨_, rfl, us.map fun t => V.ref t.1, l4, by rw [List.length_map, sizeLine_eq]; omega, us ++ [t], Ev.put (e3.trans e4) hD l4 (.inl ⟨_, rfl⟩), ⟨by rw [upd_same, List.map_append]; rfl, fun u hu => ?_⟩, by rw [List.length_append, List.length_singleton]; omega, ?_⟩) (fun hg => ⟨us, e3.trans e4, ⟨l4, fun u hu => e4.tup (t3 u hu)⟩, by omega, ?_⟩)
      · rcases List.mem_append.mp hu with hu | hu
        · exact TI.updL (e4.tup (t3 u hu)) l4
        · rw [List.mem_singleton.mp hu]
          exact TI.updL ((e3.trans e4).tup hti) l4
      · rw [htk, if_pos hg, List.map_append, hus]
        rfl
      · rw [htk, if_neg hg, hus, List.append_nil]
    · rintro H3 ⟨us, e3, t3, hul, hus⟩
      rw [List.length_map, List.take_length] at hus
      refine q _ D us ((Ev.of_same e1).trans e3) t3 ?_
      rw [hus]
      exact hts.filter _
abbrev sCame : Stmt := topS 18
theorem scCame : FnScope ["web", "gathering", "person", "rest", "one"] ["web", "gathering", "person"] (defScope sCame) := ⟨rfl, rfl, rfl, by decide +kernel, rfl, by decide +kernel, by decide +kernel⟩
theorem ok_came {f fF : Addr} {fd fdF : FuncData} (F : FnP K "came" sCame f fd) (FF : FnP K "are_foes" sFoes fF fdF) (mF : mg "are_foes" = some (.ref fF)) (B : Bt mg) : FnOk P w K mg base CX0 2 f fd ["web", "gathering", "person"] spCame := by
  have GF : FnOk P w K mg base CX0 1 fF fdF ["web", "one", "other"] spFoes := ok_foes FF B
  have bF : Binds K fdF ["web", "one", "other"] [] := FF.bindsN fun _ _ _ _ _ _ us hl => match us, hl with | [_, _, _], _ => rfl
  refine okN F scCame (fun vs H Q E h => ?_) (fun cdv A outer s H vs Q E hr h => ?_)
  · obtain ⟨_, _, _, _, _, rfl, _⟩ := h
    rfl
  · obtain ⟨a, W, g, ns, x, rfl, hW, hg, hlen, q⟩ := h
    refine ⟨_, pss_cons (ps_setLc (i := 3) (own := [("one", 4)]) (g := gName 4) rfl scCame.nd rfl rfl (sw_true rfl rfl rfl (by decide +kernel)) (pi_tup (pv 1))
          (blkOk_by (N := ["web", "gathering", "person", "rest", "one"]) (sc := defScope sCame) (by decide +kernel)) (fun _ _ _ _ _ => pg_name (i := 4) scCame.nd rfl (Or.inl rfl))
          (fun _ _ _ _ _ => pts_one (pw_and (pt_cmpR op_ne (pv 4) (pv 2) (nomark _)) (pw_and1 (pt_not (pt_val (pe_call GF hr (by rfl) mF FF.kp bF .nil pass0 (pa_cons (pv 0) (pa_cons (pv 4) (pa_cons (pv 2) pa_nil)))))))).pt)
          (fun _ _ _ _ _ => pv 4))
      (pss_one (ps_ret (pe_callTy call_tuple_of (by rfl) B.tuple (by decide +kernel) (pa_cons (pe_callB cr_sorted (by rfl) B.sorted (by decide +kernel) (pa_cons (pe_lst (StX.pa_star (pv 3) (pa_cons (pv 2) pa_nil))) pa_nil)) pa_nil)))), ?_⟩
    refine ⟨_, rfl, g, rfl, ⟨_, SqT.of hg⟩, fun D hD => ?_⟩
    refine lc_tup (K := K) (a := g) (xs := ns.map V.int) (fun j H3 => Same H H3 ∧ H3 D = some (.lst (((ns.take j).filter fun y => decide (y ≠ x) && !foe W y x).map V.int))) ⟨Same.new (Same.refl _) hD, upd_same⟩
        (fun j H3 _ ⟨e3, _⟩ => SqT.of (e3 _ _ hg)) ?_ ?_
    · rintro j y H3 hj ⟨e3, l3⟩
      rw [List.getElem?_map] at hj
      obtain ⟨t, ht, rfl⟩ := Option.map_eq_some_iff.mp hj
      have hjl := (List.getElem?_eq_some_iff.mp ht).1
      have htk : ((ns.take (j + 1)).filter fun y => decide (y ≠ x) && !foe W y x) = ((ns.take j).filter fun y => decide (y ≠ x) && !foe W y x) ++ (if (decide (t ≠ x) && !foe W t x) = true then [t] else []) := by
        rw [List.take_succ, ht, List.filter_append]
        simp only [Option.toList_some, List.filter_cons, List.filter_nil]
      have hsz : (((ns.take j).filter fun y => decide (y ≠ x) && !foe W y x).map V.int).length < sizeLine := by
        rw [List.length_map, sizeLine_eq]
        have := List.length_filter_le (fun y => decide (y ≠ x) && !foe W y x) (ns.take j)
        rw [List.length_take] at this
        omega
      refine ⟨rfl, _, rfl, _, rfl, rfl, _, rfl, ?_⟩
      by_cases hx : t = x
      · have e0 : (!decide (V.int t = V.int x)) = false := by simp [hx]
        rw [e0]
        refine iteF (iteF ⟨e3, ?_⟩)
        rw [htk, if_neg (by simp [hx]), List.append_nil]
        exact l3
      · have e0 : (!decide (V.int t = V.int x)) = true := by simp [hx]
        rw [e0]
        refine iteT ⟨_, rfl, _, rfl, _, rfl, a, W, t, x, rfl, hW.same e3, fun H4 e4 => ⟨_, rfl, ?_⟩⟩
        cases hf : foe W t x with
        | true =>
          refine iteF ⟨e3.trans e4, ?_⟩
          rw [htk, if_neg (by simp [hf]), List.append_nil]
          exact e4 _ _ l3
        | false =>
          refine iteT ⟨_, rfl, _, e4 _ _ l3, hsz, Same.own (e3.trans e4) hD, ?_⟩
          rw [upd_same, htk, if_pos (by simp [hf, hx]), List.map_append]
          rfl
    · rintro H3 ⟨e3, l3⟩
      rw [List.length_map, List.take_length] at l3
      have hfl := List.length_filter_le (fun y => decide (y ≠ x) && !foe W y x) ns
      refine ⟨_, rfl, _, _, rfl, .inr (SqL.of l3), _, rfl, ?_, fun l2 n2 => ⟨l2, (ns.filter fun y => decide (y ≠ x) && !foe W y x) ++ [x], rfl, SqL.of (by rw [upd_same, List.map_append]; rfl), ?_, fun ns' p3 pm srt n3 => ⟨p3, _, rfl, .inl ⟨SqL.of upd_same, fun t nt => ?_⟩⟩⟩⟩
      · rw [List.length_append, List.length_map]
        exact size_big (by show _ + 1 ≤ 1000000; omega)
      · rw [List.length_append, List.length_singleton]
        omega
      · have e : ns' = cameF W ns x := sorted_uniq (pm.trans (List.mergeSort_perm _ _).symm) srt (ms_pair _)
        rw [e] at nt ⊢
        exact q _ t (Same.new (Same.new (Same.new e3 n2) n3) nt) upd_same
end
end Fo

end FoW5
section FoW6
set_option Elab.async false
set_option linter.all false
set_option maxRecDepth 100000
set_option maxHeartbeats 4000000
namespace Fo
open PySem PySem.Spec PyProof.Rows L2 FoS PySem.W
theorem came_perm (W : Web) (g : List Int) (p : Int) : (cameF W g p).Perm ((g.filter fun x => decide (x ≠ p) && !foe W x p) ++ [p]) := List.mergeSort_perm _ _
theorem mem_came {W : Web} {g : List Int} {p x : Int} : x ∈ cameF W g p ↔ (x ∈ g ∧ x ≠ p ∧ foe W x p = false) ∨ x = p := by
  rw [(came_perm W g p).mem_iff, List.mem_append, List.mem_filter, List.mem_singleton]
  simp
theorem came_lot {n : Nat} {W : Web} {g : List Int} {p : Int} (h : Lot n g) (h0 : 0 ≤ p) (h1 : p < (n : Int)) : Lot n (cameF W g p) := by
  refine ⟨fun x hx => ?_, ?_⟩
  · rcases mem_came.mp hx with ⟨hx, _⟩ | rfl
    · exact h.rg x hx
    · exact ⟨h0, h1⟩
  · have nd : (cameF W g p).Nodup := by
      refine (came_perm W g p).nodup_iff.mpr ?_
      refine List.nodup_append.mpr ⟨((h.asc.imp fun h => Int.ne_of_lt h) : g.Nodup).filter _, by simp, fun a ha b hb => ?_⟩
      rw [List.mem_singleton.mp hb]
      have := (List.mem_filter.mp ha).2
      simp at this
      exact this.1
    have le := ms_pair ((g.filter fun x => decide (x ≠ p) && !foe W x p) ++ [p])
    exact (List.pairwise_iff_getElem.mpr fun i j hi hj hij => by
      have h1 := List.pairwise_iff_getElem.mp le i j hi hj hij
      have h2 := List.pairwise_iff_getElem.mp (show (cameF W g p).Pairwise (· ≠ ·) from nd) i j hi hj hij
      show (cameF W g p)[i] < (cameF W g p)[j]
      have h1' : (cameF W g p)[i] ≤ (cameF W g p)[j] := h1
      omega)
theorem run_lot {n : Nat} {W : Web} : ∀ {row g : List Int}, Lot n g → In n row → Lot n (run W g row)
  | [], g, h, _ => h
  | p :: row, g, h, hr => show Lot n (run W (cameF W g p) row) from run_lot (came_lot h (hr p List.mem_cons_self).1 (hr p List.mem_cons_self).2) fun x hx => hr x (List.mem_cons_of_mem _ hx)
theorem run_snoc (W : Web) (g row : List Int) (p : Int) : run W g (row ++ [p]) = cameF W (run W g row) p := by
  unfold run
  rw [List.foldl_append]
  rfl
section
variable {P : Program} {w : World} {K : PySem.W.Frag} {mg : Str → Option Value} {base : Heap} {T : TT}
abbrev sIsRow : Stmt := topS 19
theorem scIsRow : FnScope ["web", "value", "one"] ["web", "value"] (defScope sIsRow) := ⟨rfl, rfl, rfl, by decide +kernel, rfl, by decide +kernel, by decide +kernel⟩
theorem ok_isRow {f fI c Pt : Addr} {fd fdI : FuncData} (F : FnP K "is_row" sIsRow f fd) (FI : FnP K "is_in" sIsIn fI fdI) (mI : mg "is_in" = some (.ref fI)) (O : Own base mg fd c Pt) (hP : Pt ∈ T.G) (B : Bt mg) : FnOk P w K mg base CX0 3 f fd ["web", "value"] (spIsRow T) := by
  have GI : FnOk P w K mg base CX0 1 fI fdI ["value", "least", "most"] spIsIn := ok_isIn FI B
  have bI : Binds K fdI ["value", "least", "most"] [] := FI.bindsN fun _ _ _ _ _ _ us hl => match us, hl with | [_, _, _], _ => rfl
  refine okC F O scIsRow (fun vs H Q E h => ?_) (fun A outer s H vs Q E hr h => ?_)
  · obtain ⟨_, _, _, _, rfl, _⟩ := h
    rfl
  · obtain ⟨a, W, t, ns, rfl, hW, ht, hin, hl, hT, q⟩ := h
    obtain ⟨t30, h30⟩ := B.row
    refine ⟨_, pss_one (ps_ret (pe_and (pe_callB call_isi (by rfl) B.isi (by decide +kernel) (pa_cons (pv 1) (pa_cons (pe_bltn (v := .ty "tuple") (by rfl) B.tuple (by decide +kernel) rfl) pa_nil)))
      (pe_and (pe_cmpR op_le (pe_callB call_len_seq (by rfl) B.len PySem.boot_len (pa_cons (pv 1) pa_nil)) (pe_glob (v := .int 30) (by rfl) h30 ⟨_, rfl⟩) (nomark _))
      (pe_one (Gx.pe_allG hr (by rfl) B.all (by decide +kernel) rfl O.gx rfl (Gx.gs_by (by decide +kernel)) scIsRow.nd (blkOk_by (own := [("one", 2)]) (N := ["web", "value", "one"]) (sc := defScope sIsRow) (by decide +kernel))
          (pi_tup (pv 1)) (fun _ _ _ _ _ _ _ => pg_name (i := 2) scIsRow.nd rfl (Or.inl rfl))
          (fun _ _ _ _ _ _ _ => pe_call GI (gx_room hr _) (by rfl) mI FI.kp bI .nil pass0 (pa_cons (pv 2) (pa_cons pe_int (pa_cons (pe_op op_sub (pe_ix (ixT_in (K := K) rfl) (pv 0) pe_int (fun _ _ => rfl)) pe_int) pa_nil))))))))), ?_⟩
    obtain ⟨b, ps, h1, h2, h3, h4⟩ := hW
    refine ⟨_, rfl, _, _, .type "tuple", .type "tuple", true, rfl, .ty _, .base (.tup ht), kit_ty (by decide +kernel), _, rfl, iteT ?_⟩
    refine ⟨_, rfl, _, _, rfl, .inr (SqT.of ht), _, _, rfl, rfl, _, rfl, ?_⟩
    have e30 : decide (((ns.map V.int).length : Int) ≤ 30) = true := decide_eq_true (by rw [List.length_map]; omega)
    show if decide (((ns.map V.int).length : Int) ≤ 30) = true then _ else _
    rw [e30]
    refine iteT ⟨_, rfl, t, rfl, ⟨_, SqT.of ht⟩, hT.1 Pt hP, ns.length, fun _ => .bl true, fun H3 T3 => ?_, fun _ => true, rfl, fun H3 T3 => ?_⟩
    · have e3 : Ev T H H3 := Ev.tabbed hP T3 (hT.1 Pt hP)
      have ht3 := e3.tup ht
      refine ⟨⟨_, SqT.of ht3, by rw [List.length_map]; omega⟩, fun i hi => ⟨_, V.int ns[i], SqT.of ht3, by rw [List.getElem?_map, List.getElem?_eq_getElem hi]; rfl⟩, fun i x H' hi hy => ?_⟩
      obtain ⟨rfl, hx⟩ := hy
      have ex := hx _ (SqT.of ht3)
      rw [List.getElem?_map, List.getElem?_eq_getElem hi] at ex
      have ex := Option.some.inj ex
      subst ex
      have hrg := hin ns[i] (List.getElem_mem _)
      refine ⟨rfl, rfl, _, rfl, _, rfl, _, _, _, _, rfl, rfl, SqT.of (e3.tup h1), rfl, _, _, rfl, rfl, _, _, _, rfl, rfl, ?_⟩
      rw [decide_eq_true (by omega)]
    · have e3 : Ev T H H3 := Ev.tabbed hP T3 (hT.1 Pt hP)
      have ea : (List.range ns.length).all (fun _ => true) = true := by simp
      rw [ea]
      exact q _ e3
abbrev sNR : Stmt := topS 20
theorem scNR : FnScope ["web", "row"] ["web", "row"] (defScope sNR) := ⟨rfl, rfl, rfl, by decide +kernel, rfl, by decide +kernel, by decide +kernel⟩
theorem ok_needRow {f fR : Addr} {fd fdR : FuncData} (F : FnP K "need_row" sNR f fd) (FR : FnP K "is_row" sIsRow fR fdR) (mR : mg "is_row" = some (.ref fR)) (GR : FnOk P w K mg base CX0 3 fR fdR ["web", "value"] (spIsRow T)) :
    FnOk P w K mg base CX0 4 f fd ["web", "row"] (spNeedRow T) := by
  have bR : Binds K fdR ["web", "value"] [] := FR.bindsN fun _ _ _ _ _ _ us hl => match us, hl with | [_, _], _ => rfl
  refine okN F scNR (fun vs H Q E h => ?_) (fun cdv A outer s H vs Q E hr h => ?_)
  · obtain ⟨_, _, _, _, rfl, _⟩ := h
    rfl
  · obtain ⟨a, W, t, ns, rfl, hW, ht, hin, hl, hT, q⟩ := h
    refine ⟨_, pss_one (ps_if (pt_not (pt_val (pe_call GR hr (by rfl) mR FR.kp bR .nil pass0 (pa_cons (pv 0) (pa_cons (pv 1) pa_nil))))) pss_never pss_nil), ?_⟩
    exact ⟨_, rfl, _, rfl, a, W, t, ns, rfl, hW, ht, hin, hl, hT, fun H2 e2 => ⟨_, rfl, iteF (q _ e2)⟩⟩
abbrev sTrace : Stmt := topS 21
theorem scTrace : FnScope ["web", "gathering", "row", "found", "person"] ["web", "gathering", "row"] (defScope sTrace) := ⟨rfl, rfl, rfl, by decide +kernel, rfl, by decide +kernel, by decide +kernel⟩
theorem ok_trace {f fC : Addr} {fd fdC : FuncData} (F : FnP K "trace" sTrace f fd) (FC : FnP K "came" sCame fC fdC) (mC : mg "came" = some (.ref fC)) (GC : FnOk P w K mg base CX0 2 fC fdC ["web", "gathering", "person"] spCame) :
    FnOk P w K mg base CX0 3 f fd ["web", "gathering", "row"] spTrace := by
  have bC : Binds K fdC ["web", "gathering", "person"] [] := FC.bindsN fun _ _ _ _ _ _ us hl => match us, hl with | [_, _, _], _ => rfl
  refine okN F scTrace (fun vs H Q E h => ?_) (fun cdv A outer s H vs Q E hr h => ?_)
  · obtain ⟨_, _, _, _, _, _, rfl, _⟩ := h
    rfl
  · obtain ⟨a, W, g, ns, r, row, rfl, hW, hn, hg, lot, hrow, hin, hl, q⟩ := h
    refine ⟨_, pss_cons (ps_set (i := 3) scTrace.nd rfl (.inl rfl) (pe_lst (pa_cons (pv 1) pa_nil)))
      (pss_cons (ps_for PassesOwn.never rfl (pi_tup (pv 2)) (pg_name (i := 4) scTrace.nd rfl (Or.inl rfl))
        (pss_one (ps_expr (pe_bm PySem.F.plainAttrs_list PySem.F.slot_list_append PySem.F.type_list_append mt_append (pv 3)
          (pa_cons (pe_call GC hr (by rfl) mC FC.kp bC .nil pass0 (pa_cons (pv 0) (pa_cons (pe_ix ix_list (pv 3) (pe_un un_neg pe_int) (fun _ _ => rfl)) (pa_cons (pv 4) pa_nil)))) pa_nil)))))
      (pss_one (ps_ret (pv 3)))), ?_⟩
    refine ⟨_, rfl, (by show 1 ≤ sizeLine; decide), fun l nl => ?_⟩
    refine ⟨_, rfl, r, rfl, ⟨_, SqT.of (Same.new (Same.refl _) nl _ _ hrow)⟩, for_tup (K := K) (a := r) (xs := row.map V.int) (fun i σ H2 => ∃ xs t ov, σ = [some (.ref a), some (.ref g), some (.ref r), some (.ref l), ov] ∧ Same H H2 ∧ H2 l = some (.lst (xs ++ [.ref t])) ∧ xs.length = i ∧ TI H2 t (run W ns (row.take i)) ∧ i ≤ 30)
      ⟨[], g, none, rfl, Same.new (Same.refl _) nl, upd_same, rfl, (Same.new (Same.refl _) nl _ _ hg), by omega⟩ (fun i σ H2 _ ⟨_, _, _, _, e, _⟩ => SqT.of (e _ _ hrow)) ?_ ?_⟩
    · rintro i x σ H2 hi ⟨xs, t, ov, rfl, e2, l2, hx, ht, hi30⟩
      rw [List.getElem?_map] at hi
      obtain ⟨p, hp, rfl⟩ := Option.map_eq_some_iff.mp hi
      have hil := (List.getElem?_eq_some_iff.mp hp).1
      have lot2 : Lot W.n (run W ns (row.take i)) := run_lot lot fun y hy => hin y (List.mem_of_mem_take hy)
      have hll := lot_len lot2
      refine ⟨_, rfl, .inl ⟨rfl, _, SqL.of l2⟩, _, rfl, _, rfl, _, rfl, _, _, _, _, rfl, rfl, SqL.of l2, atI_last _ _, _, rfl, a, W, t, _, p, rfl, hW.same e2, ht, by omega, fun H3 u e3 hu => ?_⟩
      refine ⟨l, xs ++ [.ref t], .ref u, rfl, rfl, e3 _ _ l2, ?_, ?_⟩
      · rw [List.length_append, List.length_singleton, sizeLine_eq]
        omega
      · refine ⟨xs ++ [.ref t], u, _, rfl, Same.own (e2.trans e3) nl, upd_same, by rw [List.length_append, hx]; rfl, ?_, by omega⟩
        have := TI.updL (o := .lst (xs ++ [.ref t] ++ [.ref u])) hu (e3 _ _ l2)
        rw [List.take_succ, hp]
        show TI _ u (run W ns (row.take i ++ [p]))
        rw [run_snoc]
        exact this
    · rintro σ H2 ⟨xs, t, ov, rfl, e2, l2, hx, ht, hi30⟩
      rw [List.length_map, List.take_length] at ht
      rw [List.length_map] at hx
      exact ⟨_, rfl, q _ l xs t e2 l2 (by omega) ht⟩
abbrev sDone : Stmt := topS 22
theorem scDone : FnScope ["web", "gathering", "row"] ["web", "gathering", "row"] (defScope sDone) := ⟨rfl, rfl, rfl, by decide +kernel, rfl, by decide +kernel, by decide +kernel⟩
theorem ok_done {f fG fR fT : Addr} {fd fdG fdR fdT : FuncData} (F : FnP K "done" sDone f fd) (FG : FnP K "need_gathering" sNG fG fdG) (mG : mg "need_gathering" = some (.ref fG)) (GG : FnOk P w K mg base CX0 5 fG fdG ["web", "gathering"] (spNeedG T))
    (FR : FnP K "need_row" sNR fR fdR) (mR : mg "need_row" = some (.ref fR)) (GR : FnOk P w K mg base CX0 4 fR fdR ["web", "row"] (spNeedRow T))
    (FT : FnP K "trace" sTrace fT fdT) (mT : mg "trace" = some (.ref fT)) (GT : FnOk P w K mg base CX0 3 fT fdT ["web", "gathering", "row"] spTrace) :
    FnOk P w K mg base CX0 6 f fd ["web", "gathering", "row"] (spDone T) := by
  have bG : Binds K fdG ["web", "gathering"] [] := FG.bindsN fun _ _ _ _ _ _ us hl => match us, hl with | [_, _], _ => rfl
  have bR : Binds K fdR ["web", "row"] [] := FR.bindsN fun _ _ _ _ _ _ us hl => match us, hl with | [_, _], _ => rfl
  have bT : Binds K fdT ["web", "gathering", "row"] [] := FT.bindsN fun _ _ _ _ _ _ us hl => match us, hl with | [_, _, _], _ => rfl
  refine okN F scDone (fun vs H Q E h => ?_) (fun cdv A outer s H vs Q E hr h => ?_)
  · obtain ⟨_, _, _, _, _, _, rfl, _⟩ := h
    rfl
  · obtain ⟨a, W, g, ns, r, row, rfl, hW, ok, hg, lot, iG, hrow, hin, hl, hT, q⟩ := h
    refine ⟨_, pss_cons (ps_expr (pe_call GG hr (by rfl) mG FG.kp bG .nil pass0 (pa_cons (pv 0) (pa_cons (pv 1) pa_nil))))
      (pss_cons (ps_expr (pe_call GR (hr.mono (by decide)) (by rfl) mR FR.kp bR .nil pass0 (pa_cons (pv 0) (pa_cons (pv 2) pa_nil))))
      (pss_one (ps_ret (pe_ix ix_list (pe_call GT (hr.mono (by decide)) (by rfl) mT FT.kp bT .nil pass0 (pa_cons (pv 0) (pa_cons (pv 1) (pa_cons (pv 2) pa_nil)))) (pe_un un_neg pe_int) (fun _ _ => rfl))))), ?_⟩
    refine ⟨_, rfl, _, rfl, a, W, g, ns, rfl, hW, ok, hg, lot, iG, hT, fun H1 e1 => ?_⟩
    refine ⟨_, rfl, _, rfl, a, W, r, row, rfl, hW.ev e1, e1.tup hrow, hin, hl, e1.2 hT, fun H2 e2 => ?_⟩
    have e12 := e1.trans e2
    refine ⟨_, rfl, _, rfl, _, rfl, a, W, g, ns, r, row, rfl, hW.ev e12, ok.hi, e12.tup hg, lot, e12.tup hrow, hin, hl, fun H3 l xs t e3 l3 hx ht => ?_⟩
    exact ⟨_, rfl, l, _, _, _, rfl, rfl, SqL.of l3, atI_last _ _, q _ t (e12.same e3) ht⟩
end
end Fo

end FoW6
section FoW7
set_option Elab.async false
set_option linter.all false
set_option maxRecDepth 100000
set_option maxHeartbeats 4000000
namespace Fo
open PySem PySem.Spec PyProof.Rows L2 FoS PySem.W
theorem presum_list : ∀ (l : List Int) (k : Nat), k ≤ l.length → preSum (fun i => l.getD i 0) k = (l.take k).sum
  | l, 0, _ => by simp [preSum]
  | l, k + 1, h => by
    have e : preSum (fun i => l.getD i 0) (k + 1) = preSum (fun i => l.getD i 0) k + l.getD k 0 := rfl
    rw [e, presum_list l k (by omega), List.take_succ, List.sum_append, List.getD_eq_getElem?_getD, List.getElem?_eq_getElem (by omega)]
    simp
theorem sum_bd : ∀ (l : List Int), (∀ x ∈ l, 0 ≤ x ∧ x ≤ 1000) → 0 ≤ l.sum ∧ l.sum ≤ 1000 * l.length
  | [], _ => by simp
  | x :: l, h => by
    have h1 := h x List.mem_cons_self
    have h2 := sum_bd l fun y hy => h y (List.mem_cons_of_mem _ hy)
    rw [List.sum_cons, List.length_cons]
    omega
theorem at_rg {cs : List Int} (h : ∀ x ∈ cs, 0 ≤ x ∧ x ≤ 1000) (p : Int) : 0 ≤ at_ cs p ∧ at_ cs p ≤ 1000 := by
  unfold at_
  rw [List.getD_eq_getElem?_getD]
  cases e : cs[p.toNat]? with
  | none => simp
  | some x => exact h x (List.mem_of_getElem? e)
section
variable {P : Program} {w : World} {K : PySem.W.Frag} {mg : Str → Option Value} {base : Heap} {T : TT}
/-- the reading of sum(cs[person] for person in ns) -/
theorem sum_read {c g Pt : Addr} {cs ns : List Int} {H : Hp} {Q : VK} {σ : L2.St} (hP : Pt ∈ T.G) (h0 : σ[0]? = some (some (V.ref c))) (h2 : (wipe σ [2])[0]? = some (some (V.ref c))) (hl : 2 < σ.length) (hc : TI H c cs) (hr : ∀ x ∈ cs, 0 ≤ x ∧ x ≤ 1000) (hg : TI H g ns) (hi : In cs.length ns) (hn : ns.length ≤ 40) (hT : Tb T H) (q : ∀ H', Ev T H H' → Q (.int (sumAt cs ns)) H')
    (h1 : σ[1]? = some (some (V.ref g))) :
    Gx.tSumG Pt (iTup K (tVar 1)) (gName 2) (tOp (rIxT K) (tVar 0) (tVar 2)) [2] σ H Q := by
  refine ⟨_, h1, g, rfl, ⟨_, SqT.of hg⟩, hT.1 Pt hP, ns.length, fun i => .int ((ns.map (at_ cs)).getD i 0), fun H3 T3 => ?_, _, rfl, fun j hj => ?_, fun H3 T3 => ?_⟩
  · have e3 : Ev T H H3 := Ev.tabbed hP T3 (hT.1 Pt hP)
    have hg3 := e3.tup hg
    refine ⟨⟨_, SqT.of hg3, by rw [List.length_map]; omega⟩, fun i hi => ⟨_, V.int ns[i], SqT.of hg3, by rw [List.getElem?_map, List.getElem?_eq_getElem hi]; rfl⟩, fun i x H' hi' hy => ?_⟩
    obtain ⟨rfl, hx⟩ := hy
    have ex := hx _ (SqT.of hg3)
    rw [List.getElem?_map, List.getElem?_eq_getElem hi'] at ex
    have ex := Option.some.inj ex
    subst ex
    have hrg := hi ns[i] (List.getElem_mem _)
    have ep : ns[i] = ((ns[i].toNat : Nat) : Int) := by omega
    have hlt : ns[i].toNat < cs.length := by omega
    have e5 : (wipe σ [2]).length = σ.length := wipe_length _ _
    have es : wipe ((wipe σ [2]).set 2 (some (V.int ns[i]))) [2] = wipe σ [2] := by
      show ((σ.set 2 none).set 2 _).set 2 none = σ.set 2 none
      rw [List.set_set, List.set_set]
    have g0 : ((wipe σ [2]).set 2 (some (V.int ns[i])))[0]? = some (some (V.ref c)) := by
      rw [List.getElem?_set_ne (by decide)]
      exact h2
    have g2 : ((wipe σ [2]).set 2 (some (V.int ns[i])))[2]? = some (some (V.int ns[i])) := by
      rw [List.getElem?_set_self (by omega)]
    refine ⟨rfl, es, _, g0, _, g2, c, _, _, V.int cs[ns[i].toNat], rfl, rfl, SqT.of (e3.tup hc), ?_, rfl, ?_⟩
    · have hat := atI_nat (xs := cs.map V.int) (j := ns[i].toNat) (v := V.int cs[ns[i].toNat]) (by simp [List.getElem?_eq_getElem hlt])
      rw [← ep] at hat
      exact hat
    · rw [List.getD_eq_getElem?_getD, List.getElem?_map, List.getElem?_eq_getElem hi']
      show V.int cs[ns[i].toNat] = V.int (at_ cs ns[i])
      unfold at_
      rw [List.getD_eq_getElem?_getD, List.getElem?_eq_getElem hlt]
      rfl
  · have hbd : ∀ x ∈ ns.map (at_ cs), 0 ≤ x ∧ x ≤ 1000 := fun x hx => by
      obtain ⟨p, _, rfl⟩ := List.mem_map.mp hx
      exact at_rg hr p
    have hl : (ns.map (at_ cs)).length = ns.length := List.length_map _
    rw [presum_list _ _ (by omega)]
    have h1 := sum_bd ((ns.map (at_ cs)).take (j + 1)) fun x hx => hbd x (List.mem_of_mem_take hx)
    rw [List.length_take] at h1
    have h2 : 0 ≤ (ns.map (at_ cs)).getD j 0 ∧ (ns.map (at_ cs)).getD j 0 ≤ 1000 := by
      rw [List.getD_eq_getElem?_getD, List.getElem?_eq_getElem (by omega)]
      exact hbd _ (List.getElem_mem _)
    unfold InLong
    omega
  · have e3 : Ev T H H3 := Ev.tabbed hP T3 (hT.1 Pt hP)
    have hl : (ns.map (at_ cs)).length = ns.length := List.length_map _
    rw [presum_list _ _ (by omega), List.take_of_length_le (by omega)]
    exact q _ e3
abbrev sCost : Stmt := topS 25
theorem scCost : FnScope ["costs", "lot", "person"] ["costs", "lot"] (defScope sCost) := ⟨rfl, rfl, rfl, by decide +kernel, rfl, by decide +kernel, by decide +kernel⟩
theorem ok_cost {f c Pt : Addr} {fd : FuncData} (F : FnP K "cost_of" sCost f fd) (O : Own base mg fd c Pt) (hP : Pt ∈ T.G) (B : Bt mg) : FnOk P w K mg base CX0 1 f fd ["costs", "lot"] (spSum T) := by
  refine okC F O scCost (fun vs H Q E h => ?_) (fun A outer s H vs Q E hr h => ?_)
  · obtain ⟨_, _, _, _, rfl, _⟩ := h
    rfl
  · obtain ⟨c0, cs, g, ns, rfl, hc, hrg, hg, hi, hn, hT, q⟩ := h
    refine ⟨_, pss_one (ps_ret (Gx.pe_sumG hr (by rfl) B.sum rfl O.gx rfl (Gx.gs_by (by decide +kernel)) scCost.nd (blkOk_by (own := [("person", 2)]) (N := ["costs", "lot", "person"]) (sc := defScope sCost) (by decide +kernel))
          (pi_tup (pv 1)) (fun _ _ _ _ _ _ _ => pg_name (i := 2) scCost.nd rfl (Or.inl rfl)) (fun _ _ _ _ _ _ _ => pe_ix (ixT_in (K := K) rfl) (pv 0) (pv 2) (fun _ _ => rfl)))), ?_⟩
    exact sum_read hP rfl rfl (by show 2 < 3; decide) hc hrg hg hi hn hT q rfl
abbrev sGain : Stmt := topS 29
theorem scGain : FnScope ["gains", "gathering", "person"] ["gains", "gathering"] (defScope sGain) := ⟨rfl, rfl, rfl, by decide +kernel, rfl, by decide +kernel, by decide +kernel⟩
theorem ok_gain {f c Pt : Addr} {fd : FuncData} (F : FnP K "gain_of" sGain f fd) (O : Own base mg fd c Pt) (hP : Pt ∈ T.G) (B : Bt mg) : FnOk P w K mg base CX0 1 f fd ["gains", "gathering"] (spSum T) := by
  refine okC F O scGain (fun vs H Q E h => ?_) (fun A outer s H vs Q E hr h => ?_)
  · obtain ⟨_, _, _, _, rfl, _⟩ := h
    rfl
  · obtain ⟨c0, cs, g, ns, rfl, hc, hrg, hg, hi, hn, hT, q⟩ := h
    refine ⟨_, pss_one (ps_ret (Gx.pe_sumG hr (by rfl) B.sum rfl O.gx rfl (Gx.gs_by (by decide +kernel)) scGain.nd (blkOk_by (own := [("person", 2)]) (N := ["gains", "gathering", "person"]) (sc := defScope sGain) (by decide +kernel))
          (pi_tup (pv 1)) (fun _ _ _ _ _ _ _ => pg_name (i := 2) scGain.nd rfl (Or.inl rfl)) (fun _ _ _ _ _ _ _ => pe_ix (ixT_in (K := K) rfl) (pv 0) (pv 2) (fun _ _ => rfl)))), ?_⟩
    exact sum_read hP rfl rfl (by show 2 < 3; decide) hc hrg hg hi hn hT q rfl
/-- all(is_in(one, 0, 1000) for one in cs) -/
theorem need_read {K : Frag} {T : TT} {c Pt : Addr} {cs : List Int} {H : Hp} {Q : VK} {σ : L2.St} (hP : Pt ∈ T.G) (h1 : σ[1]? = some (some (V.ref c))) (hl : 2 < σ.length) (hc : TI H c cs) (hr : ∀ x ∈ cs, 0 ≤ x ∧ x ≤ 1000) (hT : Tb T H) (q : ∀ H', Ev T H H' → Q (.bl true) H') :
    Gx.tAllG Pt (iTup K (tVar 1)) (gName 2) (tCall spIsIn [] E0 (tCons (tVar 2) (tCons (tC (.int 0)) (tCons (tC (.int 1000)) tNil)))) [2] σ H Q := by
  refine ⟨_, h1, c, rfl, ⟨_, SqT.of hc⟩, hT.1 Pt hP, cs.length, fun _ => .bl true, fun H3 T3 => ?_, fun _ => true, rfl, fun H3 T3 => ?_⟩
  · have e3 : Ev T H H3 := Ev.tabbed hP T3 (hT.1 Pt hP)
    have hg3 := e3.tup hc
    refine ⟨⟨_, SqT.of hg3, by rw [List.length_map]; omega⟩, fun i hi => ⟨_, V.int cs[i], SqT.of hg3, by rw [List.getElem?_map, List.getElem?_eq_getElem hi]; rfl⟩, fun i x H' hi' hy => ?_⟩
    obtain ⟨rfl, hx⟩ := hy
    have ex := hx _ (SqT.of hg3)
    rw [List.getElem?_map, List.getElem?_eq_getElem hi'] at ex
    have ex := Option.some.inj ex
    subst ex
    have hrg := hr cs[i] (List.getElem_mem _)
    have e5 : (wipe σ [2]).length = σ.length := wipe_length _ _
    have es : wipe ((wipe σ [2]).set 2 (some (V.int cs[i]))) [2] = wipe σ [2] := by
      show ((σ.set 2 none).set 2 _).set 2 none = σ.set 2 none
      rw [List.set_set, List.set_set]
    have g2 : ((wipe σ [2]).set 2 (some (V.int cs[i])))[2]? = some (some (V.int cs[i])) := by
      rw [List.getElem?_set_self (by omega)]
    refine ⟨rfl, es, _, g2, _, _, _, rfl, rfl, ?_⟩
    rw [decide_eq_true (by omega)]
  · have ea : (List.range cs.length).all (fun _ => true) = true := by simp
    rw [ea]
    exact q _ (Ev.tabbed hP T3 (hT.1 Pt hP))
abbrev sNGn : Stmt := topS 28
theorem scNGn : FnScope ["web", "gains", "one"] ["web", "gains"] (defScope sNGn) := ⟨rfl, rfl, rfl, by decide +kernel, rfl, by decide +kernel, by decide +kernel⟩
theorem ok_needGains {f fI c Pt : Addr} {fd fdI : FuncData} (F : FnP K "need_gains" sNGn f fd) (FI : FnP K "is_in" sIsIn fI fdI) (mI : mg "is_in" = some (.ref fI)) (O : Own base mg fd c Pt) (hP : Pt ∈ T.G) (B : Bt mg) : FnOk P w K mg base CX0 3 f fd ["web", "gains"] (spNeedN T) := by
  have GI : FnOk P w K mg base CX0 1 fI fdI ["value", "least", "most"] spIsIn := ok_isIn FI B
  have bI : Binds K fdI ["value", "least", "most"] [] := FI.bindsN fun _ _ _ _ _ _ us hl => match us, hl with | [_, _, _], _ => rfl
  refine okC F O scNGn (fun vs H Q E h => ?_) (fun A outer s H vs Q E hr h => ?_)
  · obtain ⟨_, _, _, _, rfl, _⟩ := h
    rfl
  · obtain ⟨a, W, c0, cs, rfl, hW, hc, nu, hT, q⟩ := h
    obtain ⟨tk, hk⟩ := B.gain
    refine ⟨_, pss_one (ps_if (pw_or (pt_not (pt_val (pe_callB call_isi (by rfl) B.isi (by decide +kernel) (pa_cons (pv 1) (pa_cons (pe_bltn (v := .ty "tuple") (by rfl) B.tuple (by decide +kernel) rfl) pa_nil)))))
        (pw_or (pt_cmpR op_ne (pe_callB call_len_seq (by rfl) B.len PySem.boot_len (pa_cons (pv 1) pa_nil)) (pe_ix ix_tup (pv 0) pe_int (fun _ _ => rfl)) (nomark _))
        (pw_or1 (pt_not (pt_val (Gx.pe_allG hr (by rfl) B.all (by decide +kernel) rfl O.gx rfl (Gx.gs_by (by decide +kernel)) scNGn.nd (blkOk_by (own := [("one", 2)]) (N := ["web", "gains", "one"]) (sc := defScope sNGn) (by decide +kernel))
          (pi_tup (pv 1)) (fun _ _ _ _ _ _ _ => pg_name (i := 2) scNGn.nd rfl (Or.inl rfl))
          (fun _ _ _ _ _ _ _ => pe_call GI (gx_room hr _) (by rfl) mI FI.kp bI .nil pass0 (pa_cons (pv 2) (pa_cons pe_int (pa_cons (pe_glob (v := .int 1000) (by rfl) hk ⟨_, rfl⟩) pa_nil)))))))))).pt pss_never pss_nil), ?_⟩
    obtain ⟨b, ps, h1, h2, h3, h4⟩ := hW
    refine ⟨_, rfl, _, _, .type "tuple", .type "tuple", true, rfl, .ty _, .base (.tup hc), kit_ty (by decide +kernel), _, rfl, iteF ?_⟩
    refine ⟨_, rfl, _, _, rfl, .inr (SqT.of hc), _, rfl, _, _, _, _, rfl, rfl, SqT.of h1, rfl, rfl, _, rfl, iteNS (by rw [List.length_map, nu.len]) ?_⟩
    unfold tNot tB
    exact need_read hP rfl (by show 2 < 3; decide) hc nu.rg hT fun H' e => ⟨_, rfl, iteF (q _ e)⟩
abbrev sNRC : Stmt := topS 33
theorem scNRC : FnScope ["web", "costs", "one"] ["web", "costs"] (defScope sNRC) := ⟨rfl, rfl, rfl, by decide +kernel, rfl, by decide +kernel, by decide +kernel⟩
theorem ok_needCosts {f fI c Pt : Addr} {fd fdI : FuncData} (F : FnP K "need_row_costs" sNRC f fd) (FI : FnP K "is_in" sIsIn fI fdI) (mI : mg "is_in" = some (.ref fI)) (O : Own base mg fd c Pt) (hP : Pt ∈ T.G) (B : Bt mg) : FnOk P w K mg base CX0 3 f fd ["web", "costs"] (spNeedN T) := by
  have GI : FnOk P w K mg base CX0 1 fI fdI ["value", "least", "most"] spIsIn := ok_isIn FI B
  have bI : Binds K fdI ["value", "least", "most"] [] := FI.bindsN fun _ _ _ _ _ _ us hl => match us, hl with | [_, _, _], _ => rfl
  refine okC F O scNRC (fun vs H Q E h => ?_) (fun A outer s H vs Q E hr h => ?_)
  · obtain ⟨_, _, _, _, rfl, _⟩ := h
    rfl
  · obtain ⟨a, W, c0, cs, rfl, hW, hc, nu, hT, q⟩ := h
    obtain ⟨tk, hk⟩ := B.cost
    refine ⟨_, pss_one (ps_if (pw_or (pt_not (pt_val (pe_callB call_isi (by rfl) B.isi (by decide +kernel) (pa_cons (pv 1) (pa_cons (pe_bltn (v := .ty "tuple") (by rfl) B.tuple (by decide +kernel) rfl) pa_nil)))))
        (pw_or (pt_cmpR op_ne (pe_callB call_len_seq (by rfl) B.len PySem.boot_len (pa_cons (pv 1) pa_nil)) (pe_ix ix_tup (pv 0) pe_int (fun _ _ => rfl)) (nomark _))
        (pw_or1 (pt_not (pt_val (Gx.pe_allG hr (by rfl) B.all (by decide +kernel) rfl O.gx rfl (Gx.gs_by (by decide +kernel)) scNRC.nd (blkOk_by (own := [("one", 2)]) (N := ["web", "costs", "one"]) (sc := defScope sNRC) (by decide +kernel))
          (pi_tup (pv 1)) (fun _ _ _ _ _ _ _ => pg_name (i := 2) scNRC.nd rfl (Or.inl rfl))
          (fun _ _ _ _ _ _ _ => pe_call GI (gx_room hr _) (by rfl) mI FI.kp bI .nil pass0 (pa_cons (pv 2) (pa_cons pe_int (pa_cons (pe_glob (v := .int 1000) (by rfl) hk ⟨_, rfl⟩) pa_nil)))))))))).pt pss_never pss_nil), ?_⟩
    obtain ⟨b, ps, h1, h2, h3, h4⟩ := hW
    refine ⟨_, rfl, _, _, .type "tuple", .type "tuple", true, rfl, .ty _, .base (.tup hc), kit_ty (by decide +kernel), _, rfl, iteF ?_⟩
    refine ⟨_, rfl, _, _, rfl, .inr (SqT.of hc), _, rfl, _, _, _, _, rfl, rfl, SqT.of h1, rfl, rfl, _, rfl, iteNS (by rw [List.length_map, nu.len]) ?_⟩
    unfold tNot tB
    exact need_read hP rfl (by show 2 < 3; decide) hc nu.rg hT fun H' e => ⟨_, rfl, iteF (q _ e)⟩
end
end Fo

end FoW7
section FoW8
set_option Elab.async false
set_option linter.all false
set_option maxRecDepth 100000
set_option maxHeartbeats 4000000
namespace Fo
open PySem PySem.Spec PyProof.Rows L2 FoS PySem.W
def fOf (H : Hp) (p : Addr) : Int := match H p with
  | some (.tup (.int z :: _)) => z
  | _ => 0
def iOf : V → Int
  | .int i => i
  | _ => 0
def kOf (H : Hp) (p : Addr) : List Int := match H p with
  | some (.tup [_, .ref t]) => (match H t with | some (.tup xs) => xs.map iOf | _ => [])
  | _ => []
theorem fOf_at {H : Hp} {p t : Addr} {z : Int} (h : H p = some (.tup [.int z, .ref t])) : fOf H p = z := by
  unfold fOf
  rw [h]
theorem kOf_at {H : Hp} {p t : Addr} {z : Int} {ns : List Int} (h : H p = some (.tup [.int z, .ref t])) (h2 : TI H t ns) : kOf H p = ns := by
  unfold kOf
  rw [h]
  show (match H t with | some (.tup xs) => xs.map iOf | _ => []) = ns
  rw [show H t = some (.tup (ns.map V.int)) from h2]
  show (ns.map V.int).map iOf = ns
  rw [List.map_map]
  exact List.map_id _
theorem nil_lots : ∀ n, [] ∈ lotsF n
  | 0 => by simp [lotsF]
  | n + 1 => by
    rw [lots_succ]
    exact List.mem_append_left _ (nil_lots n)
theorem nil_gath (W : Web) : [] ∈ gaths W := List.mem_filter.mpr ⟨nil_lots _, by simp [isG]⟩
section
variable {P : Program} {w : World} {K : PySem.W.Frag} {mg : Str → Option Value} {base : Heap} {T : TT}
abbrev sBest : Stmt := topS 30
theorem scBest : FnScope ["web", "gains", "one"] ["web", "gains"] (defScope sBest) := ⟨rfl, rfl, rfl, by decide +kernel, rfl, by decide +kernel, by decide +kernel⟩
theorem ok_best {f fG fS : Addr} {fd fdG fdS : FuncData} (F : FnP K "best_of" sBest f fd) (FG : FnP K "all_gatherings" sGaths fG fdG) (mG : mg "all_gatherings" = some (.ref fG)) (GG : FnOk P w K mg base CX0 5 fG fdG ["web"] (spGaths T))
    (FS : FnP K "gain_of" sGain fS fdS) (mS : mg "gain_of" = some (.ref fS)) (GS : FnOk P w K mg base CX0 1 fS fdS ["gains", "gathering"] (spSum T)) (B : Bt mg) : FnOk P w K mg base CX0 6 f fd ["web", "gains"] (spBest T) := by
  have bG : Binds K fdG ["web"] [] := FG.bindsN fun _ _ _ _ _ _ us hl => match us, hl with | [_], _ => rfl
  have bS : Binds K fdS ["gains", "gathering"] [] := FS.bindsN fun _ _ _ _ _ _ us hl => match us, hl with | [_, _], _ => rfl
  refine okN F scBest (fun vs H Q E h => ?_) (fun cdv A outer s H vs Q E hr h => ?_)
  · obtain ⟨_, _, _, _, rfl, _⟩ := h
    rfl
  · obtain ⟨a, W, c, gs, rfl, hW, ok, hc, nu, hT, q⟩ := h
    refine ⟨_, pss_one (ps_ret (pe_callB (cr_maxP rfl hr.units) (by rfl) B.max (by decide +kernel) (pa_cons (pe_lc (own := [("one", 2)]) (g := gName 2) (tt := tYes) rfl scBest.nd
          (pi_list (pe_call GG hr (by rfl) mG FG.kp bG .nil pass0 (pa_cons (pv 0) pa_nil)))
          (blkOk_by (N := ["web", "gains", "one"]) (sc := defScope sBest) (by decide +kernel)) (fun _ _ _ _ _ => pg_name (i := 2) scBest.nd rfl (Or.inl rfl)) (fun _ _ _ _ _ => pts_nil)
          (fun _ _ _ _ _ => pe_tup (pa_cons (pe_call GS (hr.mono (by decide)) (by rfl) mS FS.kp bS .nil pass0 (pa_cons (pv 1) (pa_cons (pv 2) pa_nil))) (pa_cons (pv 2) pa_nil)))) pa_nil))), ?_⟩
    refine ⟨_, rfl, a, W, rfl, hW, ok.hi, hT, fun H1 p ts e1 ⟨l1, t1⟩ hts => ⟨p, rfl, ⟨_, SqL.of l1⟩, fun D hD => ?_⟩⟩
    have hTs : ∀ t ∈ ts, Lot W.n t.2 ∧ t.2 ∈ gaths W := fun t ht => by
      have h1 := hts.mem_iff.mp (List.mem_map_of_mem (f := fun t : Addr × List Int => t.2) ht)
      exact ⟨lots_lot _ _ (List.mem_filter.mp h1).1, h1⟩
    have hlen : ts.length ≤ 32 := by
      have h1 := hts.length_eq
      have h2 := List.length_filter_le (isG W) (lotsF W.n)
      rw [lots_len] at h2
      rw [List.length_map] at h1
      have := pow5 ok.hi
      unfold gaths at h1
      omega
    have hT1 := e1.2 hT
    have hc1 := e1.tup hc
    refine lc_list (K := K) (a := p) (xs := ts.map fun t => V.ref t.1) (fun j H3 => ∃ us : List (Addr × Addr × List Int), Ev T H1 H3 ∧ H3 D = some (.lst (us.map fun u => V.ref u.1)) ∧ (∀ u ∈ us, H3 u.1 = some (.tup [.int (sumAt gs u.2.2), .ref u.2.1]) ∧ TI H3 u.2.1 u.2.2) ∧ us.map (·.2.2) = (ts.take j).map (·.2))
        ⟨[], Ev.new (Ev.refl _) hD, upd_same, (fun t ht => nomatch ht), rfl⟩ (fun j H3 _ ⟨_, e3, _⟩ => SqL.of (e3.lst l1)) ?_ ?_
    · rintro j x H3 hj ⟨us, e3, l3, t3, hus⟩
      rw [List.getElem?_map] at hj
      obtain ⟨t, ht, rfl⟩ := Option.map_eq_some_iff.mp hj
      have hjl := (List.getElem?_eq_some_iff.mp ht).1
      have hm := List.mem_of_getElem? ht
      have hti := t1 t hm
      have hul : us.length ≤ 32 := by
        have := congrArg List.length hus
        rw [List.length_map, List.length_map, List.length_take] at this
        omega
      have hl := lot_len (hTs t hm).1
      have := ok.hi
      refine ⟨rfl, _, rfl, _, rfl, c, gs, t.1, t.2, rfl, e3.tup hc1, nu.rg, e3.tup hti, (by rw [nu.len]; exact (hTs t hm).1.rg), by omega, e3.2 hT1, fun H4 e4 => ?_⟩
      have l4 := e4.lst l3
      refine ⟨_, rfl, (by show 2 ≤ sizeLine; decide), fun r nr => ⟨us.map fun u => V.ref u.1, ?_, ?_, us ++ [(r, t.1, t.2)], ?_, ?_, fun u hu => ?_, ?_⟩⟩
      · rw [upd_ne (ne_of_none l4 nr)]
        exact l4
      · rw [List.length_map, sizeLine_eq]
        omega
      · exact Ev.put (Ev.new (e3.trans e4) nr) hD (by rw [upd_ne (ne_of_none l4 nr)]; exact l4) (.inl ⟨_, rfl⟩)
      · rw [upd_same, List.map_append]
        rfl
      · have l5 : upd H4 r (.tup [.int (sumAt gs t.2), .ref t.1]) D = some (.lst (us.map fun u => V.ref u.1)) := by
          rw [upd_ne (ne_of_none l4 nr)]
          exact l4
        have keep : ∀ (b : Addr) (xs : List V), H4 b = some (.tup xs) → upd (upd H4 r (.tup [.int (sumAt gs t.2), .ref t.1])) D (.lst (us.map (fun u => V.ref u.1) ++ [.ref r])) b = some (.tup xs) := fun b xs e => by
          have hb : upd H4 r (.tup [.int (sumAt gs t.2), .ref t.1]) b = some (.tup xs) := by
            rw [upd_ne (ne_of_none e nr)]
            exact e
          have n2 : b ≠ D := ne_of hb l5 (fun z => nomatch z)
          rw [upd_ne n2]
          exact hb
        rcases List.mem_append.mp hu with hu | hu
        · exact ⟨keep _ _ (e4.tup (t3 u hu).1), keep _ _ (e4.tup (t3 u hu).2)⟩
        · rw [List.mem_singleton.mp hu]
          refine ⟨?_, keep _ _ ((e3.trans e4).tup hti)⟩
          show upd _ D _ r = _
          rw [upd_ne (fun z => by rw [z] at nr; rw [l4] at nr; cases nr), upd_same]
      · rw [List.map_append, hus, List.take_succ, ht, List.map_append]
        rfl
    · rintro H3 ⟨us, e3, l3, t3, hus⟩
      rw [List.length_map, List.take_length] at hus
      have hpm : (us.map (·.2.2)).Perm (gaths W) := by rw [hus]; exact hts
      have hne : us ≠ [] := fun z => by
        have := hpm.mem_iff.mpr (nil_gath W)
        rw [z] at this
        cases this
      refine ⟨D, us.map (·.1), fOf H3, kOf H3, rfl, SqL.of (by rw [l3, List.map_map]; rfl), by simpa using hne, fun p hp => ?_, fun m hm hmax => ?_⟩
      · obtain ⟨u, hu, rfl⟩ := List.mem_map.mp hp
        obtain ⟨g1, g2⟩ := t3 u hu
        exact ⟨u.2.1, by rw [fOf_at g1]; exact g1, by rw [kOf_at g1 g2]; exact g2⟩
      · obtain ⟨u, hu, rfl⟩ := List.mem_map.mp hm
        obtain ⟨g1, g2⟩ := t3 u hu
        refine q H3 u.1 (sumAt gs u.2.2) u.2.2 (e1.trans e3) ⟨u.2.1, g1, g2⟩ (hpm.mem_iff.mp (List.mem_map_of_mem (f := fun u : Addr × Addr × List Int => u.2.2) hu)) rfl fun ms hms => ?_
        obtain ⟨v, hv, rfl⟩ := List.mem_map.mp (hpm.mem_iff.mpr hms)
        have := hmax v.1 (List.mem_map_of_mem hv)
        rw [fOf_at (t3 v hv).1, fOf_at g1] at this
        exact this
abbrev sBG : Stmt := topS 31
theorem scBG : FnScope ["web", "gains"] ["web", "gains"] (defScope sBG) := ⟨rfl, rfl, rfl, by decide +kernel, rfl, by decide +kernel, by decide +kernel⟩
theorem ok_bestG {f fW fN fB : Addr} {fd fdW fdN fdB : FuncData} (F : FnP K "best_gathering" sBG f fd) (FW : FnP K "need_web" sNW fW fdW) (mW : mg "need_web" = some (.ref fW)) (GW : FnOk P w K mg base CX0 2 fW fdW ["web"] (spNeedWeb T))
    (FN : FnP K "need_gains" sNGn fN fdN) (mN : mg "need_gains" = some (.ref fN)) (GN : FnOk P w K mg base CX0 3 fN fdN ["web", "gains"] (spNeedN T))
    (FB : FnP K "best_of" sBest fB fdB) (mB : mg "best_of" = some (.ref fB)) (GB : FnOk P w K mg base CX0 6 fB fdB ["web", "gains"] (spBest T)) : FnOk P w K mg base CX0 7 f fd ["web", "gains"] (spBest T) := by
  have bW : Binds K fdW ["web"] [] := FW.bindsN fun _ _ _ _ _ _ us hl => match us, hl with | [_], _ => rfl
  have bN : Binds K fdN ["web", "gains"] [] := FN.bindsN fun _ _ _ _ _ _ us hl => match us, hl with | [_, _], _ => rfl
  have bB : Binds K fdB ["web", "gains"] [] := FB.bindsN fun _ _ _ _ _ _ us hl => match us, hl with | [_, _], _ => rfl
  refine okN F scBG (fun vs H Q E h => ?_) (fun cdv A outer s H vs Q E hr h => ?_)
  · obtain ⟨_, _, _, _, rfl, _⟩ := h
    rfl
  · obtain ⟨a, W, c, gs, rfl, hW, ok, hc, nu, hT, q⟩ := h
    refine ⟨_, pss_cons (ps_expr (pe_call GW (hr.mono (by decide)) (by rfl) mW FW.kp bW .nil pass0 (pa_cons (pv 0) pa_nil)))
      (pss_cons (ps_expr (pe_call GN (hr.mono (by decide)) (by rfl) mN FN.kp bN .nil pass0 (pa_cons (pv 0) (pa_cons (pv 1) pa_nil))))
      (pss_one (ps_ret (pe_call GB hr (by rfl) mB FB.kp bB .nil pass0 (pa_cons (pv 0) (pa_cons (pv 1) pa_nil)))))), ?_⟩
    refine ⟨_, rfl, a, W, rfl, hW, ok, hT, fun H1 e1 => ?_⟩
    refine ⟨_, rfl, _, rfl, a, W, c, gs, rfl, hW.ev e1, e1.tup hc, nu, e1.2 hT, fun H2 e2 => ?_⟩
    have e := e1.trans e2
    exact ⟨_, rfl, _, rfl, a, W, c, gs, rfl, hW.ev e, ok, e.tup hc, nu, e.2 hT, fun H3 m z ns e3 hp h1 h2 h3 => q H3 m z ns (e.trans e3) hp h1 h2 h3⟩
end
end Fo

end FoW8
section FoM1
set_option Elab.async false
set_option linter.all false
set_option maxHeartbeats 1000000
/-! The plain law of the tables of rows. -/
namespace Fo
/-! ### lots -/
theorem lot_mem : ∀ {n : Nat} {ns : List Int}, Lot n ns → ns ∈ lotsF n
  | 0, ns, h => by
    cases ns with
    | nil => simp [lotsF]
    | cons x r =>
      have := h.rg x List.mem_cons_self
      omega
  | n + 1, ns, h => by
    rw [lots_succ, List.mem_append, List.mem_map]
    rcases List.eq_nil_or_concat ns with e | ⟨ms, x, e⟩
    · rw [e]
      exact .inl (nil_of n)
    · have e' : ns = ms ++ [x] := by rw [e, List.concat_eq_append]
      subst e'
      have hp := List.pairwise_append.mp h.asc
      have hx := h.rg x (by simp)
      have lt : ∀ y ∈ ms, y < x := fun y hy => hp.2.2 y hy x (by simp)
      by_cases hn : x = (n : Int)
      · refine .inr ⟨ms, lot_mem ⟨fun y hy => ?_, hp.1⟩, by rw [hn]⟩
        have h1 := h.rg y (by simp [hy])
        have := lt y hy
        omega
      · refine .inl (lot_mem ⟨fun y hy => ?_, h.asc⟩)
        have h1 := h.rg y hy
        rcases List.mem_append.mp hy with q | q
        · have := lt y q
          omega
        · rw [List.mem_singleton.mp q]
          omega
where nil_of : ∀ n, [] ∈ lotsF n
  | 0 => by simp [lotsF]
  | n + 1 => by
    rw [lots_succ]
    exact List.mem_append_left _ (nil_of n)
theorem nodup_le {α : Type} [DecidableEq α] : ∀ {l m : List α}, l.Nodup → (∀ x ∈ l, x ∈ m) → l.length ≤ m.length
  | [], m, _, _ => Nat.zero_le _
  | x :: l, m, nd, h => by
    obtain ⟨h1, h2⟩ := List.nodup_cons.mp nd
    have hx := h x List.mem_cons_self
    have := nodup_le (m := m.erase x) h2 fun y hy => (List.mem_erase_of_ne (fun e => h1 (by rw [← e]; exact hy))).mpr (h y (List.mem_cons_of_mem _ hy))
    rw [List.length_erase_of_mem hx] at this
    have : 0 < m.length := List.length_pos_of_mem hx
    rw [List.length_cons]
    omega
/-! ### gatherings -/
theorem isG_iff {W : Web} {ns : List Int} : isG W ns = true ↔ ∀ e ∈ W.es, ¬ (e.1 ∈ ns ∧ e.2 ∈ ns) := by
  unfold isG
  simp
theorem came_G {W : Web} (ok : W.ok) {g : List Int} {p : Int} (h : isG W g = true) : isG W (cameF W g p) = true := by
  rw [isG_iff] at h ⊢
  rintro ⟨a, b⟩ he ⟨h1, h2⟩
  have hab := (ok.es _ he).2.1
  have hab : a < b := hab
  have h1 : a ∈ cameF W g p := h1
  have h2 : b ∈ cameF W g p := h2
  rw [mem_came] at h1 h2
  rcases h1 with ⟨g1, _, f1⟩ | e1 <;> rcases h2 with ⟨g2, _, f2⟩ | e2
  · exact h _ he ⟨g1, g2⟩
  · subst e2
    have : foe W a b = true := by
      unfold foe
      rw [Int.min_eq_left (by omega), Int.max_eq_right (by omega)]
      exact decide_eq_true he
    rw [this] at f1
    cases f1
  · subst e1
    have : foe W b a = true := by
      unfold foe
      rw [Int.min_eq_right (by omega), Int.max_eq_left (by omega)]
      exact decide_eq_true he
    rw [this] at f2
    cases f2
  · omega
theorem run_G {W : Web} (ok : W.ok) : ∀ {row g : List Int}, isG W g = true → isG W (run W g row) = true
  | [], g, h => h
  | p :: row, g, h => show isG W (run W (cameF W g p) row) = true from run_G ok (came_G ok h)
/-! ### sums -/
theorem sumAt_snoc (cs row : List Int) (p : Int) : sumAt cs (row ++ [p]) = sumAt cs row + at_ cs p := by
  unfold sumAt
  rw [List.map_append, List.sum_append]
  simp
theorem sumAt_nn {cs : List Int} (h : ∀ x ∈ cs, 0 ≤ x ∧ x ≤ 1000) (row : List Int) : 0 ≤ sumAt cs row ∧ sumAt cs row ≤ 1000 * row.length := by
  have := sum_bd' (row.map (at_ cs)) fun x hx => by
    obtain ⟨p, _, rfl⟩ := List.mem_map.mp hx
    exact at_rg' h p
  rw [List.length_map] at this
  exact this
where
  sum_bd' : ∀ (l : List Int), (∀ x ∈ l, 0 ≤ x ∧ x ≤ 1000) → 0 ≤ l.sum ∧ l.sum ≤ 1000 * l.length
    | [], _ => by simp
    | x :: l, h => by
      have h1 := h x List.mem_cons_self
      have h2 := sum_bd' l fun y hy => h y (List.mem_cons_of_mem _ hy)
      rw [List.sum_cons, List.length_cons]
      omega
  at_rg' {cs : List Int} (h : ∀ x ∈ cs, 0 ≤ x ∧ x ≤ 1000) (p : Int) : 0 ≤ at_ cs p ∧ at_ cs p ≤ 1000 := by
    unfold at_
    rw [List.getD_eq_getElem?_getD]
    cases e : cs[p.toNat]? with
    | none => simp
    | some x => exact h x (List.mem_of_getElem? e)
theorem at_nn {cs : List Int} (h : ∀ x ∈ cs, 0 ≤ x ∧ x ≤ 1000) (p : Int) : 0 ≤ at_ cs p ∧ at_ cs p ≤ 1000 := by
  have := sumAt_nn h [p]
  simp [sumAt] at this
  exact this
theorem sumAt_take {cs : List Int} (h : ∀ x ∈ cs, 0 ≤ x ∧ x ≤ 1000) (row : List Int) (k : Nat) : sumAt cs (row.take k) ≤ sumAt cs row := by
  have e : sumAt cs row = sumAt cs (row.take k) + sumAt cs (row.drop k) := by
    unfold sumAt
    rw [← List.sum_append, ← List.map_append, List.take_append_drop]
  have := (sumAt_nn h (row.drop k)).1
  omega
/-! ### tables -/
def setE (es : List Ent) (e : Ent) : List Ent := if es.any (fun q => decide (q.key = e.key)) = true then es.map (fun q => if q.key = e.key then e else q) else es ++ [e]
structure Tab (W : Web) (s cs : List Int) (es : List Ent) : Prop where
  nd : (es.map (·.key)).Nodup
  st : ⟨s, 0, []⟩ ∈ es
  lead : ∀ e ∈ es, run W s e.row = e.key ∧ e.cost = sumAt cs e.row ∧ In W.n e.row
  pre : ∀ e ∈ es, ∀ k, k ≤ e.row.length → ∃ e' ∈ es, e'.key = run W s (e.row.take k) ∧ e'.cost ≤ sumAt cs (e.row.take k)
  simp : ∀ e ∈ es, ∀ i j, i < j → j ≤ e.row.length → run W s (e.row.take i) ≠ run W s (e.row.take j)
variable {W : Web} {s cs : List Int} {es : List Ent}
theorem Tab.uniq (t : Tab W s cs es) {e e' : Ent} (h : e ∈ es) (h' : e' ∈ es) (k : e.key = e'.key) : e = e' := by
  obtain ⟨i, hi, rfl⟩ := List.mem_iff_getElem.mp h
  obtain ⟨j, hj, rfl⟩ := List.mem_iff_getElem.mp h'
  have nd := List.pairwise_iff_getElem.mp (show (es.map (·.key)).Pairwise (· ≠ ·) from t.nd)
  by_cases e : i = j
  · subst e
    rfl
  · exfalso
    rcases Nat.lt_or_gt_of_ne e with q | q
    · exact nd i j (by simpa using hi) (by simpa using hj) q (by simpa using k)
    · exact nd j i (by simpa using hj) (by simpa using hi) q (by simpa using k.symm)
theorem mem_setE {e q : Ent} : q ∈ setE es e ↔ q = e ∨ (q ∈ es ∧ q.key ≠ e.key) := by
  unfold setE
  by_cases h : es.any (fun q => decide (q.key = e.key)) = true
  · rw [if_pos h, List.mem_map]
    constructor
    · rintro ⟨x, hx, rfl⟩
      by_cases hk : x.key = e.key
      · rw [if_pos hk]
        exact .inl rfl
      · rw [if_neg hk]
        exact .inr ⟨hx, hk⟩
    · rintro (rfl | ⟨h1, h2⟩)
      · obtain ⟨x, hx, hk⟩ := List.any_eq_true.mp h
        exact ⟨x, hx, if_pos (by simpa using hk)⟩
      · exact ⟨q, h1, if_neg h2⟩
  · rw [if_neg h, List.mem_append, List.mem_singleton]
    constructor
    · rintro (h1 | rfl)
      · refine .inr ⟨h1, fun hk => h (List.any_eq_true.mpr ⟨q, h1, by simpa using hk⟩)⟩
      · exact .inl rfl
    · rintro (rfl | ⟨h1, _⟩)
      · exact .inr rfl
      · exact .inl h1
theorem keys_setE (e : Ent) : (setE es e).map (·.key) = if es.any (fun q => decide (q.key = e.key)) = true then es.map (·.key) else es.map (·.key) ++ [e.key] := by
  unfold setE
  split
  · rw [List.map_map]
    refine List.map_congr_left fun q _ => ?_
    show (if q.key = e.key then e else q).key = q.key
    split
    · rename_i h
      exact h.symm
    · rfl
  · rw [List.map_append]
    rfl
/-- a better row to there -/
theorem Tab.step (t : Tab W s cs es) (hc : ∀ x ∈ cs, 0 ≤ x ∧ x ≤ 1000) {h : Ent} (hm : h ∈ es) {p : Int} (p0 : 0 ≤ p) (p1 : p < (W.n : Int))
    (b : ∀ e ∈ es, e.key = cameF W h.key p → h.cost + at_ cs p < e.cost) : Tab W s cs (setE es ⟨cameF W h.key p, h.cost + at_ cs p, h.row ++ [p]⟩) := by
  obtain ⟨l1, l2, l3⟩ := t.lead h hm
  have hcost : 0 ≤ h.cost := by rw [l2]; exact (sumAt_nn hc _).1
  have hat := at_nn hc p
  have hk : run W s (h.row ++ [p]) = cameF W h.key p := by rw [run_snoc, l1]
  -- what stood, stands at no greater cost
  have old : ∀ e ∈ es, ∃ e' ∈ setE es ⟨cameF W h.key p, h.cost + at_ cs p, h.row ++ [p]⟩, e'.key = e.key ∧ e'.cost ≤ e.cost := fun e he => by
    by_cases k : e.key = cameF W h.key p
    · exact ⟨_, mem_setE.mpr (.inl rfl), k.symm, Int.le_of_lt (b e he k)⟩
    · exact ⟨e, mem_setE.mpr (.inr ⟨he, k⟩), rfl, Int.le_refl _⟩
  have far : ∀ i, i ≤ h.row.length → run W s (h.row.take i) ≠ cameF W h.key p := fun i hi k => by
    obtain ⟨e', he', k1, k2⟩ := t.pre h hm i hi
    have := b e' he' (k1.trans k)
    have := sumAt_take hc h.row i
    omega
  refine ⟨?_, ?_, fun e he => ?_, fun e he k hk' => ?_, fun e he i j hij hj => ?_⟩
  · rw [keys_setE]
    split
    · exact t.nd
    · rename_i hn
      refine List.nodup_append.mpr ⟨t.nd, by simp, fun a ha b' hb e => ?_⟩
      obtain ⟨q, hq, rfl⟩ := List.mem_map.mp ha
      rw [List.mem_singleton.mp hb] at e
      exact hn (List.any_eq_true.mpr ⟨q, hq, by simpa using e⟩)
  · refine mem_setE.mpr (.inr ⟨t.st, fun k => ?_⟩)
    have := b _ t.st k
    have : h.cost + at_ cs p < 0 := this
    omega
  · rcases mem_setE.mp he with rfl | ⟨he, _⟩
    · refine ⟨hk, ?_, fun x hx => ?_⟩
      · show h.cost + at_ cs p = _
        rw [sumAt_snoc, l2]
      · rcases List.mem_append.mp hx with hx | hx
        · exact l3 x hx
        · rw [List.mem_singleton.mp hx]
          exact ⟨p0, p1⟩
    · exact t.lead e he
  · rcases mem_setE.mp he with rfl | ⟨he, _⟩
    · have hk' : k ≤ (h.row ++ [p]).length := hk'
      rw [List.length_append, List.length_singleton] at hk'
      by_cases e : k ≤ h.row.length
      · have et : (h.row ++ [p]).take k = h.row.take k := List.take_append_of_le_length e
        show ∃ e' : Ent, e' ∈ setE es ⟨cameF W h.key p, h.cost + at_ cs p, h.row ++ [p]⟩ ∧ e'.key = run W s ((h.row ++ [p]).take k) ∧ e'.cost ≤ sumAt cs ((h.row ++ [p]).take k)
        rw [et]
        obtain ⟨e', he', k1, k2⟩ := t.pre h hm k e
        obtain ⟨e'', he'', k3, k4⟩ := old e' he'
        exact ⟨e'', he'', k3.trans k1, Int.le_trans k4 k2⟩
      · refine ⟨_, mem_setE.mpr (.inl rfl), ?_, ?_⟩
        · show cameF W h.key p = run W s ((h.row ++ [p]).take k)
          rw [List.take_of_length_le (by simp; omega), hk]
        · show h.cost + at_ cs p ≤ sumAt cs ((h.row ++ [p]).take k)
          rw [List.take_of_length_le (by simp; omega), sumAt_snoc, l2]
          exact Int.le_refl _
    · obtain ⟨e', he', k1, k2⟩ := t.pre e he k hk'
      obtain ⟨e'', he'', k3, k4⟩ := old e' he'
      exact ⟨e'', he'', k3.trans k1, Int.le_trans k4 k2⟩
  · rcases mem_setE.mp he with rfl | ⟨he, _⟩
    · have hj : j ≤ (h.row ++ [p]).length := hj
      rw [List.length_append, List.length_singleton] at hj
      have ei : (h.row ++ [p]).take i = h.row.take i := List.take_append_of_le_length (by omega)
      show run W s ((h.row ++ [p]).take i) ≠ run W s ((h.row ++ [p]).take j)
      rw [ei]
      by_cases e : j ≤ h.row.length
      · rw [show (h.row ++ [p]).take j = h.row.take j from List.take_append_of_le_length e]
        exact t.simp h hm i j hij e
      · rw [List.take_of_length_le (l := h.row ++ [p]) (by simp; omega), hk]
        exact far i (by omega)
    · exact t.simp e he i j hij hj
theorem Tab.new (W : Web) (s cs : List Int) : Tab W s cs [⟨s, 0, []⟩] := by
  refine ⟨by simp, by simp, fun e he => ?_, fun e he k hk => ?_, fun e he i j hij hj => ?_⟩
  · rw [List.mem_singleton.mp he]
    exact ⟨rfl, rfl, fun x hx => nomatch hx⟩
  · rw [List.mem_singleton.mp he]
    exact ⟨⟨s, 0, []⟩, by simp, by simp [run], by simp [sumAt]⟩
  · rw [List.mem_singleton.mp he] at hj
    have : j ≤ 0 := hj
    omega
/-! ### how many, how long -/
theorem Tab.lotE (t : Tab W s cs es) (hs : Lot W.n s) {e : Ent} (he : e ∈ es) : Lot W.n e.key := by
  obtain ⟨l1, _, l3⟩ := t.lead e he
  rw [← l1]
  exact run_lot hs l3
theorem Tab.few (t : Tab W s cs es) (ok : W.ok) (hs : Lot W.n s) : es.length ≤ 32 := by
  have := nodup_le (m := lotsF W.n) t.nd fun x hx => by
    obtain ⟨e, he, rfl⟩ := List.mem_map.mp hx
    exact lot_mem (t.lotE hs he)
  rw [List.length_map, lots_len] at this
  have := pow5 ok.hi
  omega
theorem take_succ_run (W : Web) (s row : List Int) {k : Nat} (h : k < row.length) : run W s (row.take (k + 1)) = cameF W (run W s (row.take k)) row[k] := by
  rw [List.take_succ, List.getElem?_eq_getElem h]
  exact run_snoc W s _ _
theorem asc_eq {l m : List Int} (hl : l.Pairwise (· < ·)) (hm : m.Pairwise (· < ·)) (h : ∀ x, x ∈ l ↔ x ∈ m) : l = m := by
  have nl : l.Nodup := hl.imp fun h => Int.ne_of_lt h
  have nm : m.Nodup := hm.imp fun h => Int.ne_of_lt h
  have p : l.Perm m := (List.perm_ext_iff_of_nodup nl nm).mpr fun x => h x
  exact sorted_uniq p (hl.imp fun h => Int.le_of_lt h) (hm.imp fun h => Int.le_of_lt h)
def full (n : Nat) : List Int := (List.range n).map fun (k : Nat) => (k : Int)
theorem mem_full {n : Nat} {x : Int} : x ∈ full n ↔ 0 ≤ x ∧ x < (n : Int) := by
  unfold full
  rw [List.mem_map]
  constructor
  · rintro ⟨k, hk, rfl⟩
    have := List.mem_range.mp hk
    omega
  · rintro ⟨h1, h2⟩
    exact ⟨x.toNat, List.mem_range.mpr (by omega), by omega⟩
theorem full_lot {n : Nat} : Lot n (full n) := by
  refine ⟨fun x hx => mem_full.mp hx, ?_⟩
  unfold full
  refine List.pairwise_map.mpr ?_
  exact List.pairwise_lt_range.imp fun h => by omega
theorem came_free {W : Web} (he : W.es = []) {g : List Int} {p : Int} {n : Nat} (hg : Lot n g) (p0 : 0 ≤ p) (p1 : p < (n : Int)) (ne : g ≠ cameF W g p) : g.length < (cameF W g p).length := by
  have hf : ∀ x, foe W x p = false := fun x => by
    unfold foe
    rw [he]
    simp
  have hl := came_lot (W := W) hg p0 p1
  by_cases hp : p ∈ g
  · exfalso
    refine ne (asc_eq hg.asc hl.asc fun x => ?_)
    rw [mem_came]
    constructor
    · intro h
      by_cases e : x = p
      · exact .inr e
      · exact .inl ⟨h, e, hf x⟩
    · rintro (⟨h, _⟩ | rfl)
      · exact h
      · exact hp
  · have hl := (came_perm W g p).length_eq
    have e : (g.filter fun x => decide (x ≠ p) && !foe W x p) = g := by
      refine List.filter_eq_self.mpr fun x hx => ?_
      have : x ≠ p := fun e => hp (e ▸ hx)
      simp [this, hf]
    rw [e, List.length_append, List.length_singleton] at hl
    omega
theorem nodes_len {W : Web} {s row : List Int} (hs : Lot W.n s) (hr : In W.n row) (he : W.es = []) (simp : ∀ i j, i < j → j ≤ row.length → run W s (row.take i) ≠ run W s (row.take j)) : ∀ k, k ≤ row.length → k ≤ (run W s (row.take k)).length
  | 0, _ => Nat.zero_le _
  | k + 1, h => by
    have ih := nodes_len hs hr he simp k (by omega)
    have hk : k < row.length := h
    have hin := hr row[k] (List.getElem_mem _)
    have hl : Lot W.n (run W s (row.take k)) := run_lot hs fun x hx => hr x (List.mem_of_mem_take hx)
    have := came_free he hl hin.1 hin.2 (by rw [← take_succ_run W s row hk]; exact simp k (k + 1) (by omega) h)
    rw [take_succ_run W s row hk]
    omega
theorem row_len {W : Web} {s row : List Int} (ok : W.ok) (hs : Lot W.n s) (hg : isG W s = true) (hr : In W.n row) (simp : ∀ i j, i < j → j ≤ row.length → run W s (row.take i) ≠ run W s (row.take j)) : row.length ≤ 30 := by
  have h5 := ok.hi
  by_cases he : W.es = []
  · have h1 := nodes_len hs hr he simp row.length (Nat.le_refl _)
    have h2 := lot_len (run_lot (W := W) hs fun x hx => hr x (List.mem_of_mem_take (i := row.length) hx))
    omega
  · -- the nodes behind the start are not empty and not all
    let nodes := (List.range row.length).map fun i => run W s (row.take (i + 1))
    have nd : nodes.Nodup := by
      refine List.pairwise_iff_getElem.mpr fun i j hi hj hij => ?_
      simp only [nodes, List.length_map, List.length_range] at hi hj
      simp only [nodes, List.getElem_map, List.getElem_range]
      exact simp (i + 1) (j + 1) (by omega) (by omega)
    have hall : ∀ g ∈ nodes, Lot W.n g ∧ isG W g = true ∧ g ≠ [] := fun g hg' => by
      obtain ⟨i, hi, rfl⟩ := List.mem_map.mp hg'
      have hi := List.mem_range.mp hi
      refine ⟨run_lot hs fun x hx => hr x (List.mem_of_mem_take hx), run_G ok hg, fun z => ?_⟩
      rw [take_succ_run W s row hi] at z
      have : row[i] ∈ cameF W (run W s (row.take i)) row[i] := mem_came.mpr (.inr rfl)
      rw [z] at this
      cases this
    obtain ⟨⟨a, b⟩, hab⟩ : ∃ e, e ∈ W.es := List.exists_mem_of_ne_nil _ he
    have hfull : full W.n ∉ nodes := fun z => by
      have := isG_iff.mp (hall _ z).2.1 _ hab
      obtain ⟨h1, h2, h3⟩ := ok.es _ hab
      exact this ⟨mem_full.mpr ⟨h1, by have h2 : a < b := h2; have h3 : b < (W.n : Int) := h3; show a < (W.n : Int); omega⟩, mem_full.mpr ⟨by have h1 : 0 ≤ a := h1; have h2 : a < b := h2; show 0 ≤ b; omega, h3⟩⟩
    have hlen : ([] :: full W.n :: nodes).length ≤ (lotsF W.n).length := by
      refine nodup_le ?_ fun x hx => ?_
      · refine List.nodup_cons.mpr ⟨fun z => ?_, List.nodup_cons.mpr ⟨hfull, nd⟩⟩
        rcases List.mem_cons.mp z with z | z
        · have h0 : (0 : Int) ∈ full W.n := mem_full.mpr ⟨Int.le_refl _, by have := ok.lo; omega⟩
          rw [← z] at h0
          cases h0
        · exact (hall _ z).2.2 rfl
      · rcases List.mem_cons.mp hx with rfl | hx
        · exact lot_mem ⟨(fun x hx => nomatch hx), List.Pairwise.nil⟩
        · rcases List.mem_cons.mp hx with rfl | hx
          · exact lot_mem full_lot
          · exact lot_mem (hall _ hx).1
    have := pow5 h5
    rw [lots_len] at hlen
    simp only [nodes, List.length_cons, List.length_map, List.length_range] at hlen
    omega
theorem Tab.len (t : Tab W s cs es) (ok : W.ok) (hs : Lot W.n s) (hg : isG W s = true) {e : Ent} (he : e ∈ es) : e.row.length ≤ 30 :=
  row_len ok hs hg (t.lead e he).2.2 (t.simp e he)
/-! ### closed -/
def Cl (W : Web) (cs : List Int) (es : List Ent) (e : Ent) : Prop := ∀ p : Int, 0 ≤ p → p < (W.n : Int) → ∃ e' ∈ es, e'.key = cameF W e.key p ∧ e'.cost ≤ e.cost + at_ cs p
theorem Tab.done (t : Tab W s cs es) (ok : W.ok) (hs : Lot W.n s) (hg : isG W s = true) (c : ∀ e ∈ es, Cl W cs es e) : Done W s cs es :=
  ⟨t.nd, t.st, fun e he => by obtain ⟨a, b, c⟩ := t.lead e he; exact ⟨a, b, c, t.len ok hs hg he⟩, c⟩
theorem Done.least (d : Done W s cs es) : ∀ (row : List Int), In W.n row → ∃ e ∈ es, e.key = run W s row ∧ e.cost ≤ sumAt cs row := by
  intro row
  induction hl : row.length generalizing row with
  | zero =>
    intro _
    have : row = [] := List.eq_nil_of_length_eq_zero hl
    subst this
    exact ⟨_, d.st, rfl, Int.le_refl _⟩
  | succ n ih =>
    intro hr
    rcases List.eq_nil_or_concat row with e | ⟨r, x, e⟩
    · rw [e] at hl
      cases hl
    · rw [List.concat_eq_append] at e
      subst e
      rw [List.length_append, List.length_singleton] at hl
      obtain ⟨e, he, k, c⟩ := ih r (by omega) fun y hy => hr y (by simp [hy])
      have hx := hr x (by simp)
      obtain ⟨e', he', k', c'⟩ := d.closed e he x hx.1 hx.2
      refine ⟨e', he', ?_, ?_⟩
      · rw [k', k, run_snoc]
      · rw [sumAt_snoc]
        omega
theorem Done.uniq (d : Done W s cs es) {e e' : Ent} (h : e ∈ es) (h' : e' ∈ es) (k : e.key = e'.key) : e = e' := by
  obtain ⟨i, hi, rfl⟩ := List.mem_iff_getElem.mp h
  obtain ⟨j, hj, rfl⟩ := List.mem_iff_getElem.mp h'
  have nd := List.pairwise_iff_getElem.mp (show (es.map (·.key)).Pairwise (· ≠ ·) from d.nd)
  by_cases e : i = j
  · subst e
    rfl
  · exfalso
    rcases Nat.lt_or_gt_of_ne e with q | q
    · exact nd i j (by simpa using hi) (by simpa using hj) q (by simpa using k)
    · exact nd j i (by simpa using hj) (by simpa using hi) q (by simpa using k.symm)
/-- the cost of a key is one, in all tables -/
theorem Done.cost_le {es' : List Ent} (d : Done W s cs es) (d' : Done W s cs es') {e e' : Ent} (h : e ∈ es) (h' : e' ∈ es') (k : e.key = e'.key) : e.cost ≤ e'.cost := by
  obtain ⟨a, b, c, _⟩ := d'.lead e' h'
  obtain ⟨x, hx, k1, c1⟩ := d.least e'.row c
  have : x = e := d.uniq hx h (by rw [k1, a, k])
  rw [← this, b]
  exact c1
theorem Done.cost_eq {es' : List Ent} (d : Done W s cs es) (d' : Done W s cs es') {e e' : Ent} (h : e ∈ es) (h' : e' ∈ es') (k : e.key = e'.key) : e.cost = e'.cost :=
  Int.le_antisymm (d.cost_le d' h h' k) (d'.cost_le d h' h k.symm)
theorem Done.has {es' : List Ent} (d : Done W s cs es) (d' : Done W s cs es') {e : Ent} (h : e ∈ es) : ∃ e' ∈ es', e'.key = e.key ∧ e'.cost = e.cost := by
  obtain ⟨a, b, c, _⟩ := d.lead e h
  obtain ⟨x, hx, k1, c1⟩ := d'.least e.row c
  exact ⟨x, hx, k1.trans a, d'.cost_eq d hx h (k1.trans a)⟩
end Fo

end FoM1
section FoM2
set_option Elab.async false
set_option linter.all false
set_option maxHeartbeats 1000000
/-! What shrinks. -/
namespace Fo
def costs (es : List Ent) : Int := (es.map (·.cost)).sum
def mM (es : List Ent) : Nat := (33 - es.length) * 1000000 + (costs es).toNat
theorem sum_le_of (f g : Ent → Int) : ∀ es : List Ent, (∀ e ∈ es, f e ≤ g e) → (es.map f).sum ≤ (es.map g).sum
  | [], _ => by simp
  | e :: es, h => by
    have h1 := h e List.mem_cons_self
    have h2 := sum_le_of f g es fun x hx => h x (List.mem_cons_of_mem _ hx)
    simp only [List.map_cons, List.sum_cons]
    omega
theorem sum_lt_of (f g : Ent → Int) : ∀ es : List Ent, (∀ e ∈ es, f e ≤ g e) → (∃ e ∈ es, f e < g e) → (es.map f).sum < (es.map g).sum
  | [], _, h => by
    obtain ⟨e, he, _⟩ := h
    cases he
  | e :: es, h, hx => by
    have h1 := h e List.mem_cons_self
    have h2 := sum_le_of f g es fun x hx => h x (List.mem_cons_of_mem _ hx)
    simp only [List.map_cons, List.sum_cons]
    obtain ⟨x, hm, hl⟩ := hx
    rcases List.mem_cons.mp hm with rfl | hm
    · omega
    · have := sum_lt_of f g es (fun x hx => h x (List.mem_cons_of_mem _ hx)) ⟨x, hm, hl⟩
      omega
variable {W : Web} {s cs : List Int} {es : List Ent}
theorem costs_rg (h : ∀ e ∈ es, 0 ≤ e.cost ∧ e.cost ≤ 30000) : 0 ≤ costs es ∧ costs es ≤ 30000 * es.length := by
  unfold costs
  induction es with
  | nil => simp
  | cons e es ih =>
    have h1 := h e List.mem_cons_self
    have h2 := ih fun x hx => h x (List.mem_cons_of_mem _ hx)
    simp only [List.map_cons, List.sum_cons, List.length_cons]
    omega
theorem Tab.cost_rg (t : Tab W s cs es) (ok : W.ok) (hs : Lot W.n s) (hg : isG W s = true) (hc : ∀ x ∈ cs, 0 ≤ x ∧ x ≤ 1000) : ∀ e ∈ es, 0 ≤ e.cost ∧ e.cost ≤ 30000 := fun e he => by
  have h1 := t.len ok hs hg he
  have h2 := sumAt_nn hc e.row
  rw [(t.lead e he).2.1]
  omega
theorem mM_step {e : Ent} (t : Tab W s cs es) (t' : Tab W s cs (setE es e)) (ok : W.ok) (hs : Lot W.n s) (hg : isG W s = true) (hc : ∀ x ∈ cs, 0 ≤ x ∧ x ≤ 1000)
    (b : ∀ q ∈ es, q.key = e.key → e.cost < q.cost) : mM (setE es e) < mM es := by
  have r1 := t.cost_rg ok hs hg hc
  have r2 := t'.cost_rg ok hs hg hc
  have l1 := t.few ok hs
  have l2 := t'.few ok hs
  have c1 := costs_rg r1
  have c2 := costs_rg r2
  unfold mM
  unfold setE at *
  by_cases h : es.any (fun q => decide (q.key = e.key)) = true
  · rw [if_pos h] at *
    obtain ⟨x, hx, hk⟩ := List.any_eq_true.mp h
    have hk : x.key = e.key := by simpa using hk
    have e1 : costs (es.map fun q => if q.key = e.key then e else q) = (es.map fun q => (if q.key = e.key then e else q).cost).sum := by
      unfold costs
      rw [List.map_map]
      rfl
    have : costs (es.map fun q => if q.key = e.key then e else q) < costs es := by
      rw [e1]
      refine sum_lt_of _ _ es (fun q hq => ?_) ⟨x, hx, ?_⟩
      · by_cases hk : q.key = e.key
        · rw [if_pos hk]
          exact Int.le_of_lt (b q hq hk)
        · rw [if_neg hk]
          exact Int.le_refl _
      · rw [if_pos hk]
        exact b x hx hk
    rw [List.length_map]
    omega
  · rw [if_neg h] at *
    have hl : (es ++ [e]).length = es.length + 1 := by simp
    have hcs : costs (es ++ [e]) = costs es + e.cost := by
      unfold costs
      rw [List.map_append, List.sum_append]
      simp
    have hce := r2 e (by simp)
    rw [hl, hcs] at *
    have : (33 - es.length) * 1000000 = (33 - (es.length + 1)) * 1000000 + 1000000 := by omega
    omega
end Fo

end FoM2
section FoF
set_option Elab.async false
set_option linter.all false
set_option maxRecDepth 100000
set_option maxHeartbeats 1000000
/-! The tables as they lie in the heap. -/
namespace Fo
open PySem PySem.Spec PyProof.Rows L2 FoS PySem.W
abbrev kK (ns : List Int) : List Key := ns.map Sum.inl
theorem kK_inj {a b : List Int} (h : kK a = kK b) : a = b := by
  induction a generalizing b with
  | nil =>
    cases b with
    | nil => rfl
    | cons y b => cases h
  | cons x a ih =>
    cases b with
    | nil => cases h
    | cons y b =>
      have h1 : (Sum.inl x : Key) = Sum.inl y := (List.cons.inj h).1
      have h2 := ih (List.cons.inj h).2
      cases h1
      rw [h2]
theorem kK_kV (ns : List Int) : (kK ns).map kV = ns.map V.int := by
  rw [List.map_map]
  rfl
theorem TI.k {H : Hp} {t : Addr} {ns : List Int} (h : TI H t ns) : H t = some (.tup ((kK ns).map kV)) := by
  rw [kK_kV]
  exact h
/-- a table's entries: key, and the value at the address v -/
def enc (v : FE → Addr) (q : FE) : List Key × V := (kK q.e.key, V.ref (v q))
def setQ (qs : List FE) (q : FE) : List FE := if qs.any (fun x => decide (x.e.key = q.e.key)) = true then qs.map (fun x => if x.e.key = q.e.key then q else x) else qs ++ [q]
theorem any_enc (v : FE → Addr) (k : List Int) : ∀ qs : List FE, (qs.map (enc v)).any (fun kv => decide (kv.1 = kK k)) = qs.any (fun x => decide (x.e.key = k))
  | [] => rfl
  | q :: qs => by
    rw [List.map_cons, List.any_cons, List.any_cons, any_enc v k qs]
    congr 1
    exact decide_eq_decide.mpr ⟨kK_inj, fun h => by show kK q.e.key = kK k; rw [h]⟩
theorem putK_enc (v : FE → Addr) (qs : List FE) (q : FE) : putK (qs.map (enc v)) (kK q.e.key) (V.ref (v q)) = (setQ qs q).map (enc v) := by
  unfold putK setQ
  rw [any_enc]
  split
  · rw [List.map_map, List.map_map]
    refine List.map_congr_left fun x _ => ?_
    show (if kK x.e.key = kK q.e.key then (kK x.e.key, V.ref (v q)) else enc v x) = enc v (if x.e.key = q.e.key then q else x)
    by_cases h : x.e.key = q.e.key
    · rw [if_pos h, if_pos (by rw [h]), h]
      rfl
    · rw [if_neg h, if_neg (fun z => h (kK_inj z))]
  · rw [List.map_append]
    rfl
theorem setQ_e (qs : List FE) (q : FE) : (setQ qs q).map (·.e) = setE (qs.map (·.e)) q.e := by
  unfold setQ setE
  rw [List.any_map]
  have : ((fun x : Ent => decide (x.key = q.e.key)) ∘ fun x : FE => x.e) = fun x : FE => decide (x.e.key = q.e.key) := rfl
  rw [this]
  split
  · rw [List.map_map, List.map_map]
    refine List.map_congr_left fun x _ => ?_
    show (if x.e.key = q.e.key then q else x).e = if x.e.key = q.e.key then q.e else x.e
    split <;> rfl
  · rw [List.map_append]
    rfl
theorem mem_setQ {qs : List FE} {q x : FE} (h : x ∈ setQ qs q) : x = q ∨ x ∈ qs := by
  unfold setQ at h
  split at h
  · obtain ⟨y, hy, rfl⟩ := List.mem_map.mp h
    split
    · exact .inl rfl
    · exact .inr hy
  · rcases List.mem_append.mp h with h | h
    · exact .inr h
    · exact .inl (List.mem_singleton.mp h)
theorem valV_none {v : FE → Addr} {qs : List FE} {k : List Int} : (valV (qs.map (enc v)) (kK k)).isSome = qs.any (fun x => decide (x.e.key = k)) := by
  rw [← valV_any, any_enc]
theorem valV_at {v : FE → Addr} : ∀ {qs : List FE} {q : FE}, (qs.map fun q => q.e.key).Nodup → q ∈ qs → valV (qs.map (enc v)) (kK q.e.key) = some (V.ref (v q))
  | x :: qs, q, nd, h => by
    obtain ⟨h1, h2⟩ := List.nodup_cons.mp nd
    unfold valV
    rw [List.map_cons, List.find?_cons]
    rcases List.mem_cons.mp h with rfl | h
    · simp [enc]
    · have hne : ¬ (enc v x).1 = kK q.e.key := fun z => h1 (by
        have : x.e.key = q.e.key := kK_inj z
        show x.e.key ∈ _
        rw [this]
        exact List.mem_map_of_mem h)
      rw [decide_eq_false hne]
      exact valV_at h2 h
/-- the keys' tuples, in the dict's order -/
theorem keys_mem {v : FE → Addr} {H : Hp} : ∀ {qs : List FE} {bs : List Addr}, IsKeys H (qs.map (enc v)) bs → (∀ b ∈ bs, ∃ q ∈ qs, TI H b q.e.key) ∧ ∀ q ∈ qs, ∃ b ∈ bs, TI H b q.e.key
  | [], _, .nil => ⟨fun b hb => (nomatch hb), fun q hq => (nomatch hq)⟩
  | q :: qs, b :: bs, .cons h r => by
    obtain ⟨i1, i2⟩ := keys_mem (qs := qs) r
    have hq : TI H b q.e.key := by
      have h' : H b = some (.tup ((kK q.e.key).map kV)) := h
      rw [kK_kV] at h'
      exact h'
    refine ⟨fun c hb => ?_, fun x hx => ?_⟩
    · rcases List.mem_cons.mp hb with rfl | hb
      · exact ⟨q, List.mem_cons_self, hq⟩
      · obtain ⟨x, hx, e⟩ := i1 c hb
        exact ⟨x, List.mem_cons_of_mem _ hx, e⟩
    · rcases List.mem_cons.mp hx with rfl | hx
      · exact ⟨_, List.mem_cons_self, hq⟩
      · obtain ⟨b, hb, e⟩ := i2 x hx
        exact ⟨b, List.mem_cons_of_mem _ hb, e⟩
/-- a table of costs and rows -/
structure FAt (H : Hp) (d : Addr) (qs : List FE) : Prop where
  d : H d = some (.dT (qs.map (enc (·.p))))
  at_ : ∀ q ∈ qs, H q.p = some (.tup [.int q.e.cost, .ref q.r]) ∧ TI H q.r q.e.row
theorem FAt.found {H : Hp} {d : Addr} {qs : List FE} (f : FAt H d qs) : FoundAt H d (qs.map (·.e)) := ⟨qs, rfl, f.d, f.at_⟩
/-- all but d stays -/
def KB (d : Addr) (H H' : Hp) : Prop := ∀ b o, b ≠ d → H b = some o → H' b = some o
theorem KB.refl (d : Addr) (H : Hp) : KB d H H := fun _ _ _ h => h
theorem KB.trans {d : Addr} {H H1 H2 : Hp} (a : KB d H H1) (b : KB d H1 H2) : KB d H H2 := fun c o n h => b c o n (a c o n h)
theorem KB.of {d : Addr} {H H' : Hp} (e : Same H H') : KB d H H' := fun b o _ h => e b o h
theorem KB.upd {d : Addr} {H H' : Hp} {o : HO} (e : KB d H H') : KB d H (upd H' d o) := fun b u n h => by
  rw [upd_ne n]
  exact e b u n h
theorem KB.new {d a : Addr} {H H' : Hp} {o : HO} (e : KB d H H') (h : H' a = none) : KB d H (L2.upd H' a o) := fun b u n q => by
  have q' := e b u n q
  rw [upd_ne (ne_of_none q' h)]
  exact q'
theorem KB.tup {d b : Addr} {H H' : Hp} {xs : List V} {kvs : List (List Key × V)} (e : KB d H H') (hd : H d = some (.dT kvs)) (h : H b = some (.tup xs)) : H' b = some (.tup xs) := e b _ (ne_of h hd fun z => nomatch z) h
theorem KB.lst {d b : Addr} {H H' : Hp} {xs : List V} {kvs : List (List Key × V)} (e : KB d H H') (hd : H d = some (.dT kvs)) (h : H b = some (.lst xs)) : H' b = some (.lst xs) := e b _ (ne_of h hd fun z => nomatch z) h
theorem KB.web {d a : Addr} {H H' : Hp} {W : Web} {kvs : List (List Key × V)} (e : KB d H H') (hd : H d = some (.dT kvs)) (h : WebAt H a W) : WebAt H' a W := by
  obtain ⟨b, ps, h1, h2, h3, h4⟩ := h
  exact ⟨b, ps, e.tup hd h1, e.tup hd h2, fun p hp => e.tup hd (h3 p hp), h4⟩
theorem FAt.same {H H' : Hp} {d : Addr} {qs : List FE} (f : FAt H d qs) (e : Same H H') : FAt H' d qs := ⟨e _ _ f.d, fun q hq => ⟨e _ _ (f.at_ q hq).1, e _ _ (f.at_ q hq).2⟩⟩
/-- found[there] = (cost, row) -/
theorem FAt.put {H : Hp} {d : Addr} {qs : List FE} (f : FAt H d qs) {q : FE} (h1 : H q.p = some (.tup [.int q.e.cost, .ref q.r])) (h2 : TI H q.r q.e.row) : FAt (upd H d (.dT ((setQ qs q).map (enc (·.p))))) d (setQ qs q) := by
  refine ⟨upd_same, fun x hx => ?_⟩
  have kp : ∀ {b : Addr} {xs : List V}, H b = some (.tup xs) → upd H d (.dT ((setQ qs q).map (enc (·.p)))) b = some (.tup xs) := fun {b xs} e => by
    rw [upd_ne (ne_of e f.d fun z => nomatch z)]
    exact e
  rcases mem_setQ hx with rfl | hx
  · exact ⟨kp h1, kp h2⟩
  · exact ⟨kp (f.at_ x hx).1, kp (f.at_ x hx).2⟩
/-- what the table at d still has to go, read from the heap -/
def vOf (H : Hp) : V → Int
  | .ref p => fOf H p
  | _ => 0
def muF (H : Hp) (d : Addr) : Nat := match H d with
  | some (.dT kvs) => (33 - kvs.length) * 1000000 + ((kvs.map fun (kv : List Key × V) => vOf H kv.2).sum).toNat
  | _ => 0
theorem muF_at {H : Hp} {d : Addr} {qs : List FE} (f : FAt H d qs) : muF H d = mM (qs.map (·.e)) := by
  unfold muF
  rw [f.d]
  show (33 - (qs.map (enc (·.p))).length) * 1000000 + (((qs.map (enc (·.p))).map fun (kv : List Key × V) => vOf H kv.2).sum).toNat = _
  unfold mM costs
  rw [List.length_map, List.length_map, List.map_map, List.map_map]
  congr 3
  refine List.map_congr_left fun q hq => ?_
  show fOf H q.p = q.e.cost
  exact fOf_at (f.at_ q hq).1
end Fo

end FoF
section FoW9
set_option Elab.async false
set_option linter.all false
set_option maxRecDepth 100000
set_option maxHeartbeats 4000000
namespace Fo
open PySem PySem.Spec PyProof.Rows L2 FoS PySem.W
theorem map_int_inj : ∀ {a b : List Int}, a.map V.int = b.map V.int → a = b
  | [], [], _ => rfl
  | [], _ :: _, h => by cases h
  | _ :: _, [], h => by cases h
  | x :: a, y :: b, h => by
    have h1 : V.int x = V.int y := (List.cons.inj h).1
    cases h1
    rw [map_int_inj (List.cons.inj h).2]
/-- found[there] = (cost + costs[person], (*row, person)); is_better = True -/
theorem upd_read {K : PySem.W.Frag} {D : Ends} {H : Hp} {a g c d b r t : Addr} {b' : Bool} {co p : Int} {cs row key : List Int} {qs : List FE} (hc : TI H c cs) (hp : 0 ≤ p ∧ p < (cs.length : Int)) (hr : TI H r row) (ht : TI H t key) (f : FAt H d qs) (hq : qs.length ≤ 32) (hl : row.length ≤ 30)
    (q : ∀ H' (x : FE), x.e = ⟨key, co + at_ cs p, row ++ [p]⟩ → KB d H H' → FAt H' d (setQ qs x) → D.nx [some (.ref a), some (.ref g), some (.ref c), some (.ref d), some (.bl true), some (.ref b), some (.int co), some (.ref r), some (.int p), some (.ref t)] H') :
    tSeq (sDPut (tVar 3) (tVar 9) (tTup (tCons (tOp (rI0 fun i j => .int (i + j)) (tVar 6) (tOp (rIxT K) (tVar 2) (tVar 8))) (tCons (tTup (StX.tStar K (tVar 7) (tCons (tVar 8) tNil))) tNil)))) (tAsg (tC (.bl true)) (gName 4)) D
      [some (.ref a), some (.ref g), some (.ref c), some (.ref d), some (.bl b'), some (.ref b), some (.int co), some (.ref r), some (.int p), some (.ref t)] H := by
  have hat := atI_nat (xs := cs.map V.int) (j := p.toNat) (v := V.int (at_ cs p)) (by
    unfold at_
    rw [List.getElem?_map, List.getD_eq_getElem?_getD, List.getElem?_eq_getElem (by omega)]
    rfl)
  have ep : ((p.toNat : Nat) : Int) = p := by omega
  rw [ep] at hat
  refine ⟨_, rfl, _, rfl, _, rfl, _, _, _, _, rfl, rfl, SqT.of hc, hat, _, _, rfl, rfl, _, rfl, _, _, rfl, .inl (SqT.of hr), _, rfl, ?_, fun r' n1 => ⟨(by show 2 ≤ sizeLine; decide), fun p' n2 => ?_⟩⟩
  · rw [List.length_append, List.length_map]
    exact size_big (by show row.length + 1 ≤ 1000000; omega)
  have e1 : Same H (upd H r' (.tup (row.map V.int ++ [V.int p]))) := Same.new (Same.refl _) n1
  have e2 := Same.new (a := p') (o := .tup [.int (co + at_ cs p), .ref r']) e1 n2
  have f2 := f.same e2
  have hrow : TI (upd (upd H r' (.tup (row.map V.int ++ [V.int p]))) p' (.tup [.int (co + at_ cs p), .ref r'])) r' (row ++ [p]) := by
    show upd _ p' _ r' = _
    rw [upd_ne (ne_of_none upd_same n2), upd_same, List.map_append]
    rfl
  refine ⟨_, rfl, _, rfl, d, _, rfl, DPut.t f2.d (TI.k (e2 _ _ ht)) (by rw [List.length_map, sizeLine_eq]; omega), ?_⟩
  have ek := putK_enc (·.p) qs ⟨⟨key, co + at_ cs p, row ++ [p]⟩, p', r'⟩
  have ek' : putK (qs.map (enc (·.p))) (kK key) (V.ref p') = (setQ qs ⟨⟨key, co + at_ cs p, row ++ [p]⟩, p', r'⟩).map (enc (·.p)) := ek
  show D.nx _ (upd _ d (.dT (putK (qs.map (enc (·.p))) (kK key) (V.ref p'))))
  rw [ek']
  exact q _ ⟨⟨key, co + at_ cs p, row ++ [p]⟩, p', r'⟩ rfl (KB.upd (KB.of e2)) (f2.put upd_same hrow)
section
variable {P : Program} {w : World} {K : PySem.W.Frag} {mg : Str → Option Value} {base : Heap} {T : TT}
abbrev sRows : Stmt := topS 34
abbrev nRows : List Str := ["web", "start", "costs", "found", "is_better", "here", "cost", "row", "person", "there"]
theorem scRows : FnScope nRows ["web", "start", "costs"] (defScope sRows) := ⟨rfl, rfl, rfl, by decide +kernel, rfl, by decide +kernel, by decide +kernel⟩
theorem ok_rows {f fC : Addr} {fd fdC : FuncData} (F : FnP K "cheapest_rows" sRows f fd) (FC : FnP K "came" sCame fC fdC) (mC : mg "came" = some (.ref fC)) (GC : FnOk P w K mg base CX0 2 fC fdC ["web", "gathering", "person"] spCame) (B : Bt mg) :
    FnOk P w K mg base CX0 3 f fd ["web", "start", "costs"] (spRows T) := by
  have bC : Binds K fdC ["web", "gathering", "person"] [] := FC.bindsN fun _ _ _ _ _ _ us hl => match us, hl with | [_, _, _], _ => rfl
  refine okN F scRows (fun vs H Q E h => ?_) (fun cdv A outer s0 H vs Q E hr h => ?_)
  · obtain ⟨_, _, _, _, _, _, rfl, _⟩ := h
    rfl
  · obtain ⟨a, g, c, W, s, cs, rfl, pre, q⟩ := h
    have hu := hu_of hr
    have hu2 : (A.deeper (envOfC "cheapest_rows" (defScope sRows) s0.heap.objs.size f cdv)).in1.in1.units < cLine := by have := hr.un; show _ + 1 + 1 < _; omega
    refine ⟨_, pss_cons (ps_par (i := 3) (j := 4) rfl scRows.nd rfl rfl (by decide) rfl rfl (pa_cons (pe_dispT hu (pv 1) (pe_tup (pa_cons pe_int (pa_cons (pe_tup pa_nil) pa_nil)))) (pa_cons pe_bl pa_nil)) (by rfl))
      (pss_cons (ps_while PassesOwn.never (pt_val (pv 4))
        (pss_cons (ps_set (i := 4) scRows.nd rfl (.inl rfl) pe_bl)
        (pss_one (ps_for PassesOwn.never rfl (pi_list (pe_callB (cr_sortDT rfl hu2) (by rfl) B.sorted (by decide +kernel) (pa_cons (pv 3) pa_nil))) (pg_name (i := 5) scRows.nd rfl (Or.inl rfl))
          (pss_cons (ps_asg (pe_dget hu (pv 3) (pv 5) (fun _ _ => rfl)) (pg_tup rfl (pgs_cons (pg_name (i := 6) scRows.nd rfl (Or.inl rfl)) (pgs_cons (pg_name (i := 7) scRows.nd rfl (Or.inl rfl)) pgs_nil))))
          (pss_one (ps_for PassesOwn.never rfl (pi_range1 (by rfl) B.range (pa_cons (pe_ix ix_tup (pv 0) pe_int (fun _ _ => rfl)) pa_nil)) (pg_name (i := 8) scRows.nd rfl (Or.inl rfl))
            (pss_cons (ps_set (i := 9) scRows.nd rfl (.inl rfl) (pe_call GC hr (by rfl) mC FC.kp bC .nil pass0 (pa_cons (pv 0) (pa_cons (pv 5) (pa_cons (pv 8) pa_nil)))))
            (pss_one (ps_if (pw_or (pt_cmp (pc_dnotin hu (pv 9) (pv 3))) (pw_or1 (pt_cmpR op_lt (pe_op op_add (pv 6) (pe_ix ix_tup (pv 2) (pv 8) (fun _ _ => rfl))) (pe_ix ix_tup (pe_dget hu (pv 3) (pv 9) (fun _ _ => rfl)) pe_int (fun _ _ => rfl)) (nomark _)))).pt
              (pss_cons (ps_dput hu (pv 3) (pv 9) (pe_tup (pa_cons (pe_op op_add (pv 6) (pe_ix ix_tup (pv 2) (pv 8) (fun _ _ => rfl))) (pa_cons (pe_tup (StX.pa_star (pv 7) (pa_cons (pv 8) pa_nil))) pa_nil))) rfl)
              (pss_one (ps_set (i := 4) scRows.nd rfl (.inl rfl) pe_bl)))
              pss_nil))))))))))
      (pss_one (ps_ret (pv 3)))), ?_⟩
    have hd0 : ∀ {d : Addr} {H1 H2 : Hp}, H d = none → Same H H1 → KB d H1 H2 → Same H H2 := fun nd e k b o h => k b o (ne_of_none h nd) (e b o h)
    intro d nd
    refine ⟨_, rfl, (by show 0 ≤ sizeLine; decide), fun r0 n0 => ⟨(by show 2 ≤ sizeLine; decide), fun p0 m0 => ?_⟩⟩
    have e0 : Same H (upd H d (.dT [])) := Same.new (Same.refl _) nd
    have e1 := Same.new (a := r0) (o := .tup []) e0 n0
    have e2 := Same.new (a := p0) (o := .tup [.int 0, .ref r0]) e1 m0
    have hD2 : upd (upd (upd H d (.dT [])) r0 (.tup [])) p0 (.tup [.int 0, .ref r0]) d = some (.dT []) := by
      have h1 : upd (upd H d (.dT [])) r0 (.tup []) d = some (.dT []) := by
        rw [upd_ne (ne_of_none upd_same n0), upd_same]
      rw [upd_ne (ne_of_none h1 m0)]
      exact h1
    have hp0 : upd (upd (upd H d (.dT [])) r0 (.tup [])) p0 (.tup [.int 0, .ref r0]) p0 = some (.tup [.int 0, .ref r0]) := upd_same
    have hr0 : upd (upd (upd H d (.dT [])) r0 (.tup [])) p0 (.tup [.int 0, .ref r0]) r0 = some (.tup []) := by
      rw [upd_ne (ne_of_none upd_same m0), upd_same]
    refine ⟨hD2, g, kK s, rfl, TI.k (e2 _ _ pre.st), _, _, rfl, ?_⟩
    have ee : Same H (upd (upd (upd (upd H d (.dT [])) r0 (.tup [])) p0 (.tup [.int 0, .ref r0])) d (.dT [(kK s, .ref p0)])) := Same.own e2 nd
    have ff : FAt (upd (upd (upd (upd H d (.dT [])) r0 (.tup [])) p0 (.tup [.int 0, .ref r0])) d (.dT [(kK s, .ref p0)])) d [⟨⟨s, 0, []⟩, p0, r0⟩] := by
      refine ⟨upd_same, fun x hx => ?_⟩
      rw [List.mem_singleton.mp hx]
      refine ⟨?_, ?_⟩
      · rw [upd_ne (ne_of hp0 hD2 fun z => nomatch z)]
        exact hp0
      · show upd _ d _ r0 = _
        rw [upd_ne (ne_of hr0 hD2 fun z => nomatch z)]
        exact hr0
    refine while_by (fun σ H1 => ∃ qs b o5 o6 o7 o8 o9, σ = [some (.ref a), some (.ref g), some (.ref c), some (.ref d), some (.bl b), o5, o6, o7, o8, o9] ∧ Same H H1 ∧ FAt H1 d qs ∧ Tab W s cs (qs.map (·.e)) ∧ (b = false → ∀ e ∈ qs.map (·.e), Cl W cs (qs.map (·.e)) e))
      (fun σ H1 => 2 * muF H1 d + (match σ[4]? with | some (some (.bl true)) => 1 | _ => 0)) ⟨_, true, none, none, none, none, none, rfl, ee, ff, Tab.new W s cs, fun z => nomatch z⟩ ?_ (fun σ H1 Q1 Q2 hq ⟨v, h1, b, h2, h3⟩ => ⟨v, h1, b, h2, hq _ _ h3⟩)
    rintro σ H1 ⟨qs, b, o5, o6, o7, o8, o9, rfl, e1, f1, t1, c1⟩
    refine ⟨_, rfl, b, rfl, ?_⟩
    cases b with
    | false => exact iteF ⟨_, rfl, q H1 d _ (Ev.of_same e1) f1.found (t1.done pre.ok pre.lot pre.ga (c1 rfl))⟩
    | true =>
      refine iteT ?_
      have hlen := t1.few pre.ok pre.lot
      rw [List.length_map] at hlen
      refine ⟨_, rfl, d, _, rfl, .inl f1.d, fun p hp => ?_, fun bs bs' l hk pm nl => ⟨l, rfl, ⟨_, SqL.of upd_same⟩, ?_⟩⟩
      · obtain ⟨x, hx, rfl⟩ := List.mem_map.mp hp
        exact ⟨x.e.key, rfl⟩
      obtain ⟨km1, km2⟩ := keys_mem hk
      have el : Same H1 (upd H1 l (.lst (bs'.map V.ref))) := Same.new (Same.refl _) nl
      have hl2 : upd H1 l (.lst (bs'.map V.ref)) l = some (.lst (bs'.map V.ref)) := upd_same
      generalize upd H1 l (.lst (bs'.map V.ref)) = H2 at el hl2 ⊢
      have f2 := f1.same el
      have hT2 : ∀ b ∈ bs', ∃ x ∈ qs, TI H2 b x.e.key := fun b hb => by
        obtain ⟨x, hx, e⟩ := km1 b (pm.mem_iff.mp hb)
        exact ⟨x, hx, el _ _ e⟩
      refine for_list (K := K) (a := l) (xs := bs'.map V.ref) (fun i σ H3 => ∃ qs' b' o5 o6 o7 o8 o9, σ = [some (.ref a), some (.ref g), some (.ref c), some (.ref d), some (.bl b'), o5, o6, o7, o8, o9] ∧ Same H H3 ∧ KB d H2 H3 ∧ FAt H3 d qs' ∧ Tab W s cs (qs'.map (·.e)) ∧
        (∀ x ∈ qs, ∃ y ∈ qs', y.e.key = x.e.key) ∧ ((b' = false ∧ qs' = qs ∧ ∀ j b ns, j < i → bs'[j]? = some b → TI H2 b ns → ∃ x ∈ qs, x.e.key = ns ∧ Cl W cs (qs.map (·.e)) x.e) ∨ (b' = true ∧ mM (qs'.map (·.e)) < mM (qs.map (·.e)))))
        ⟨qs, false, o5, o6, o7, o8, o9, rfl, e1.trans el, KB.refl _ _, f2, t1, fun x hx => ⟨x, hx, rfl⟩, .inl ⟨rfl, rfl, fun j b ns hj => absurd hj (Nat.not_lt_zero _)⟩⟩ (fun i σ H3 _ ⟨_, _, _, _, _, _, _, _, _, kb, _⟩ => SqL.of (kb.lst f2.d hl2)) ?_ ?_
      · rintro i x σ H3 hi ⟨qs', b', o5, o6, o7, o8, o9, rfl, e3, kb, f3, t3, hold, hst⟩
        rw [List.getElem?_map] at hi
        obtain ⟨b, hb, rfl⟩ := Option.map_eq_some_iff.mp hi
        obtain ⟨x0, hx0, hbk⟩ := hT2 b (List.mem_of_getElem? hb)
        obtain ⟨h, hh, hkey⟩ := hold x0 hx0
        have hb3 : TI H3 b h.e.key := by
          rw [hkey]
          exact kb.tup f2.d hbk
        have nd3 : (qs'.map fun q => q.e.key).Nodup := by
          have := t3.nd
          rw [List.map_map] at this
          exact this
        have hget : DGet H3 d (.ref b) (some (.ref h.p)) := by
          rw [← valV_at (v := (·.p)) nd3 hh]
          exact DGet.t f3.d (TI.k hb3)
        obtain ⟨hp3, hr3⟩ := f3.at_ h hh
        refine ⟨_, rfl, _, rfl, d, _, rfl, hget, _, _, rfl, SqT.of hp3, rfl, _, _, rfl, _, _, rfl, rfl, ?_⟩
        obtain ⟨bb, ps, w1, w2, w3, w4⟩ := id pre.web
        have hn := pre.ok.hi
        refine ⟨_, rfl, _, _, _, _, rfl, rfl, SqT.of (e3 _ _ w1), rfl, _, rfl, by omega, by omega, ?_⟩
        refine for_range (lo := 0) (n := (W.n : Int).toNat) (fun k σ H4 => ∃ qs'' b'' o8 o9, σ = [some (.ref a), some (.ref g), some (.ref c), some (.ref d), some (.bl b''), some (.ref b), some (.int h.e.cost), some (.ref h.r), o8, o9] ∧ Same H H4 ∧ KB d H2 H4 ∧ FAt H4 d qs'' ∧ Tab W s cs (qs''.map (·.e)) ∧
          (∀ x ∈ qs, ∃ y ∈ qs'', y.e.key = x.e.key) ∧ h.e ∈ qs''.map (·.e) ∧ TI H4 b h.e.key ∧ TI H4 h.r h.e.row ∧ ((b'' = false ∧ qs'' = qs ∧ (∀ j b ns, j < i → bs'[j]? = some b → TI H2 b ns → ∃ x ∈ qs, x.e.key = ns ∧ Cl W cs (qs.map (·.e)) x.e) ∧
            (∀ p : Int, 0 ≤ p → p < (k : Int) → ∃ e' ∈ qs.map (·.e), e'.key = cameF W h.e.key p ∧ e'.cost ≤ h.e.cost + at_ cs p)) ∨ (b'' = true ∧ mM (qs''.map (·.e)) < mM (qs.map (·.e)))))
          ⟨qs', b', o8, o9, rfl, e3, kb, f3, t3, hold, List.mem_map_of_mem hh, hb3, hr3, ?_⟩ ?_ ?_
        · rcases hst with ⟨z1, z2, z3⟩ | z
          · exact .inl ⟨z1, z2, z3, fun p h0 h1 => by omega⟩
          · exact .inr z
        · rintro k σ H4 hk ⟨qs'', b'', o8, o9, rfl, e4, kb4, f4, t4, hold4, hm4, hb4, hr4, hst4⟩
          have hkn : 0 ≤ (0 : Int) + (k : Int) ∧ (0 : Int) + (k : Int) < (W.n : Int) := by omega
          generalize hpk : (0 : Int) + (k : Int) = p at hkn ⊢
          have hlot := t4.lotE pre.lot hm4
          have hlotl := lot_len hlot
          refine ⟨_, rfl, _, rfl, _, rfl, a, W, b, h.e.key, p, rfl, pre.web.same e4, hb4, by omega, fun H5 t e5 ht => ?_⟩
          have e45 := e4.trans e5
          have f5 := f4.same e5
          have kb5 := kb4.trans (KB.of e5)
          have hlen4 := t4.few pre.ok pre.lot
          rw [List.length_map] at hlen4
          have hrl := t4.len pre.ok pre.lot pre.ga hm4
          have hpc : 0 ≤ p ∧ p < (cs.length : Int) := by rw [pre.nu.len]; exact hkn
          have hat := atI_nat (xs := cs.map V.int) (j := p.toNat) (v := V.int (at_ cs p)) (by
            unfold at_
            rw [List.getElem?_map, List.getD_eq_getElem?_getD, List.getElem?_eq_getElem (by omega)]
            rfl)
          have ep : ((p.toNat : Nat) : Int) = p := by omega
          rw [ep] at hat
          have nd4 : (qs''.map fun q => q.e.key).Nodup := by
            have := t4.nd
            rw [List.map_map] at this
            exact this
          -- the better row is written
          have upd : (∀ e ∈ qs''.map (·.e), e.key = cameF W h.e.key p → h.e.cost + at_ cs p < e.cost) → ∀ (H' : Hp) (x : FE), x.e = ⟨cameF W h.e.key p, h.e.cost + at_ cs p, h.e.row ++ [p]⟩ → KB d H5 H' → FAt H' d (setQ qs'' x) →
              ∃ qs'' b'' o8 o9, [some (V.ref a), some (.ref g), some (.ref c), some (.ref d), some (.bl true), some (.ref b), some (.int h.e.cost), some (.ref h.r), some (.int p), some (.ref t)] = [some (.ref a), some (.ref g), some (.ref c), some (.ref d), some (.bl b''), some (.ref b), some (.int h.e.cost), some (.ref h.r), o8, o9] ∧ Same H H' ∧ KB d H2 H' ∧ FAt H' d qs'' ∧ Tab W s cs (qs''.map (·.e)) ∧
          (∀ x ∈ qs, ∃ y ∈ qs'', y.e.key = x.e.key) ∧ h.e ∈ qs''.map (·.e) ∧ TI H' b h.e.key ∧ TI H' h.r h.e.row ∧ ((b'' = false ∧ qs'' = qs ∧ (∀ j b ns, j < i → bs'[j]? = some b → TI H2 b ns → ∃ x ∈ qs, x.e.key = ns ∧ Cl W cs (qs.map (·.e)) x.e) ∧
            (∀ p : Int, 0 ≤ p → p < ((k + 1 : Nat) : Int) → ∃ e' ∈ qs.map (·.e), e'.key = cameF W h.e.key p ∧ e'.cost ≤ h.e.cost + at_ cs p)) ∨ (b'' = true ∧ mM (qs''.map (·.e)) < mM (qs.map (·.e)))) := by
            intro bet H' x hx kb' f'
            have t' := t4.step pre.nu.rg hm4 hkn.1 hkn.2 bet
            rw [← hx, ← setQ_e] at t'
            have hne : h.e.key ≠ x.e.key := fun z => by
              have := bet h.e hm4 (z.trans (congrArg Ent.key hx))
              have := (at_nn pre.nu.rg p).1
              omega
            have lt := mM_step (e := x.e) t4 (by rw [← setQ_e]; exact t') pre.ok pre.lot pre.ga pre.nu.rg (by rw [hx]; exact bet)
            rw [← setQ_e] at lt
            refine ⟨setQ qs'' x, true, _, _, rfl, hd0 nd e45 kb', kb5.trans kb', f', t', fun y hy => ?_, ?_, kb'.tup f5.d (e5 _ _ hb4), kb'.tup f5.d (e5 _ _ hr4), .inr ⟨rfl, ?_⟩⟩
            · obtain ⟨z, hz, ez⟩ := hold4 y hy
              have hz' : z.e ∈ qs''.map (·.e) := List.mem_map_of_mem hz
              by_cases hk : z.e.key = x.e.key
              · have hm : x.e ∈ (setQ qs'' x).map (·.e) := by
                  rw [setQ_e]
                  exact mem_setE.mpr (.inl rfl)
                obtain ⟨u, hu, eu⟩ := List.mem_map.mp hm
                exact ⟨u, hu, by rw [eu, ← hk, ez]⟩
              · have hm : z.e ∈ (setQ qs'' x).map (·.e) := by
                  rw [setQ_e]
                  exact mem_setE.mpr (.inr ⟨hz', hk⟩)
                obtain ⟨u, hu, eu⟩ := List.mem_map.mp hm
                exact ⟨u, hu, by rw [eu, ez]⟩
            · rw [setQ_e]
              exact mem_setE.mpr (.inr ⟨hm4, hne⟩)
            · rcases hst4 with ⟨_, z, _⟩ | ⟨_, z⟩
              · rw [← z]
                exact lt
              · exact Nat.lt_trans lt z
          refine ⟨_, rfl, _, rfl, d, _, rfl, DGet.t f5.d (TI.k ht), _, rfl, ?_⟩
          rw [valV_none]
          cases hany : qs''.any (fun x => decide (x.e.key = cameF W h.e.key p)) with
          | false =>
            refine iteT (iteT (upd_read (K := K) (e45 _ _ pre.tc) hpc (e5 _ _ hr4) ht f5 hlen4 hrl (upd fun e he hk => ?_)))
            exfalso
            obtain ⟨x, hx, rfl⟩ := List.mem_map.mp he
            have := List.any_eq_false.mp hany x hx
            simp [hk] at this
          | true =>
            refine iteF ?_
            obtain ⟨x1, hx1, hk1⟩ := List.any_eq_true.mp hany
            have hk1 : x1.e.key = cameF W h.e.key p := by simpa using hk1
            have hx1' : x1.e ∈ qs''.map (·.e) := List.mem_map_of_mem hx1
            have hget1 : DGet H5 d (.ref t) (some (.ref x1.p)) := by
              rw [← valV_at (v := (·.p)) nd4 hx1, hk1]
              exact DGet.t f5.d (TI.k ht)
            refine ⟨_, rfl, _, rfl, _, rfl, _, _, _, _, rfl, rfl, SqT.of (e45 _ _ pre.tc), hat, _, _, rfl, rfl, _, rfl, _, rfl, d, _, rfl, hget1, _, _, _, _, rfl, rfl, SqT.of (f5.at_ x1 hx1).1, rfl, _, _, rfl, rfl, _, rfl, ?_⟩
            refine ite2 (fun hlt => ?_) (fun hlt => ?_)
            · have hlt : h.e.cost + at_ cs p < x1.e.cost := by simpa using hlt
              refine upd_read (K := K) (e45 _ _ pre.tc) hpc (e5 _ _ hr4) ht f5 hlen4 hrl (upd fun e he hk => ?_)
              have := t4.uniq he hx1' (hk.trans hk1.symm)
              rw [this]
              exact hlt
            · have hlt : ¬ h.e.cost + at_ cs p < x1.e.cost := by simpa using hlt
              refine ⟨qs'', b'', _, _, rfl, e45, kb5, f5, t4, hold4, hm4, e5 _ _ hb4, e5 _ _ hr4, ?_⟩
              rcases hst4 with ⟨z1, z2, z3, z4⟩ | z
              · refine .inl ⟨z1, z2, z3, fun p' h0 h1 => ?_⟩
                by_cases hpp : p' < (k : Int)
                · exact z4 p' h0 hpp
                · have : p' = p := by omega
                  subst this
                  rw [z2] at hx1'
                  exact ⟨x1.e, hx1', hk1, by omega⟩
              · exact .inr z
        · rintro σ H4 ⟨qs'', b'', o8, o9, rfl, e4, kb4, f4, t4, hold4, hm4, hb4, hr4, hst4⟩
          refine ⟨qs'', b'', _, _, _, _, _, rfl, e4, kb4, f4, t4, hold4, ?_⟩
          rcases hst4 with ⟨z1, z2, z3, z4⟩ | z
          · refine .inl ⟨z1, z2, fun j b2 ns hj hjb hns => ?_⟩
            by_cases hji : j < i
            · exact z3 j b2 ns hji hjb hns
            · have : j = i := by omega
              subst this
              rw [hb] at hjb
              have eb := Option.some.inj hjb
              subst eb
              have hns2 : ns = x0.e.key := by
                have hns : H2 b = some (.tup (ns.map V.int)) := hns
                have hbk : H2 b = some (.tup (x0.e.key.map V.int)) := hbk
                rw [hbk] at hns
                have e := Option.some.inj hns
                have e := HO.tup.inj e
                exact (map_int_inj e).symm
              rw [z2] at hm4
              obtain ⟨y, hy, ey⟩ := List.mem_map.mp hm4
              refine ⟨y, hy, by rw [ey, hkey, hns2], fun p h0 h1 => ?_⟩
              rw [ey]
              exact z4 p h0 (by omega)
          · exact .inr z
      · rintro σ H3 ⟨qs', b', o5, o6, o7, o8, o9, rfl, e3, kb, f3, t3, hold, hst⟩
        rcases hst with ⟨z1, z2, z3⟩ | ⟨z1, z2⟩
        · subst z1 z2
          refine ⟨⟨qs', false, _, _, _, _, _, rfl, e3, f3, t3, fun _ e he => ?_⟩, ?_⟩
          · obtain ⟨y, hy, rfl⟩ := List.mem_map.mp he
            obtain ⟨b, hb, hbt⟩ := km2 y hy
            obtain ⟨j, hj, rfl⟩ := List.mem_iff_getElem.mp (pm.mem_iff.mpr hb)
            obtain ⟨x, hx, hk, hc⟩ := z3 j _ y.e.key (by rw [List.length_map]; exact hj) (List.getElem?_eq_getElem hj) (el _ _ hbt)
            have := t1.uniq (List.mem_map_of_mem hx) he hk
            rw [← this]
            exact hc
          · show 2 * muF H3 d + 0 < 2 * muF H1 d + 1
            rw [muF_at f3, muF_at f1]
            omega
        · subst z1
          refine ⟨⟨qs', true, _, _, _, _, _, rfl, e3, f3, t3, fun z => nomatch z⟩, ?_⟩
          show 2 * muF H3 d + 1 < 2 * muF H1 d + 1
          rw [muF_at f3, muF_at f1]
          omega
end
end Fo

end FoW9
section FoW10
set_option Elab.async false
set_option linter.all false
set_option maxRecDepth 100000
set_option maxHeartbeats 4000000
namespace Fo
open PySem PySem.Spec PyProof.Rows L2 FoS PySem.W
/-- a table of rows -/
structure FAtR (H : Hp) (d : Addr) (qs : List FE) : Prop where
  d : H d = some (.dT (qs.map (enc (·.r))))
  at_ : ∀ q ∈ qs, TI H q.r q.e.row
theorem FAtR.found {H : Hp} {d : Addr} {qs : List FE} (f : FAtR H d qs) : FoundR H d (qs.map (·.e)) := ⟨qs, rfl, f.d, f.at_⟩
theorem FAtR.ev {T : TT} {H H' : Hp} {d : Addr} {qs : List FE} (f : FAtR H d qs) (e : Ev T H H') : FAtR H' d qs := ⟨e.dT f.d, fun q hq => e.tup (f.at_ q hq)⟩
/-- all but d and m stays -/
def KM (d m : Addr) (H H' : Hp) : Prop := ∀ b o, b ≠ d → b ≠ m → H b = some o → H' b = some o
theorem KM.refl (d m : Addr) (H : Hp) : KM d m H H := fun _ _ _ _ h => h
theorem KM.trans {d m : Addr} {H H1 H2 : Hp} (a : KM d m H H1) (b : KM d m H1 H2) : KM d m H H2 := fun c o n n2 h => b c o n n2 (a c o n n2 h)
theorem KM.of {d m : Addr} {H H' : Hp} (e : Same H H') : KM d m H H' := fun b o _ _ h => e b o h
theorem KM.tup {d m b : Addr} {H H' : Hp} {xs ys : List V} {kvs : List (List Key × V)} (e : KM d m H H') (hd : H d = some (.dT kvs)) (hm : H m = some (.lst ys)) (h : H b = some (.tup xs)) : H' b = some (.tup xs) := e b _ (ne_of h hd fun z => nomatch z) (ne_of h hm fun z => nomatch z) h
theorem KM.web {d m a : Addr} {H H' : Hp} {W : Web} {ys : List V} {kvs : List (List Key × V)} (e : KM d m H H') (hd : H d = some (.dT kvs)) (hm : H m = some (.lst ys)) (h : WebAt H a W) : WebAt H' a W := by
  obtain ⟨b, ps, h1, h2, h3, h4⟩ := h
  exact ⟨b, ps, e.tup hd hm h1, e.tup hd hm h2, fun p hp => e.tup hd hm (h3 p hp), h4⟩
theorem ones_at {n : Nat} {p : Int} (h0 : 0 ≤ p) (h1 : p < (n : Int)) : at_ (ones n) p = 1 := by
  unfold at_ ones
  rw [List.getD_eq_getElem?_getD, List.getElem?_replicate, if_pos (by omega)]
  rfl
theorem ones_sum {n : Nat} : ∀ {row : List Int}, In n row → sumAt (ones n) row = row.length
  | [], _ => rfl
  | p :: row, h => by
    have hp := h p List.mem_cons_self
    have ih := ones_sum (row := row) fun x hx => h x (List.mem_cons_of_mem _ hx)
    unfold sumAt at ih ⊢
    rw [List.map_cons, List.sum_cons, ih, ones_at hp.1 hp.2, List.length_cons]
    omega
theorem ones_rg {n : Nat} : ∀ x ∈ ones n, 0 ≤ x ∧ x ≤ 1000 := fun x hx => by
  rw [(List.mem_replicate.mp hx).2]
  omega
theorem setQ_new {qs : List FE} {q : FE} (h : qs.any (fun x => decide (x.e.key = q.e.key)) = false) : setQ qs q = qs ++ [q] := by
  unfold setQ
  rw [h]
  rfl
theorem Cl.app {W : Web} {cs : List Int} {es fs : List Ent} {e : Ent} (c : Cl W cs es e) : Cl W cs (es ++ fs) e := fun p h0 h1 => by
  obtain ⟨e', he, k⟩ := c p h0 h1
  exact ⟨e', List.mem_append_left _ he, k⟩
open Classical in
noncomputable def keyAt (H : Hp) (qs : List FE) (t : Addr) : List Int := if h : ∃ q, q ∈ qs ∧ TI H t q.e.key then h.choose.e.row else []
theorem TI_inj {H : Hp} {t : Addr} {a b : List Int} (h : TI H t a) (h2 : TI H t b) : a = b := by
  have h : H t = some (.tup (a.map V.int)) := h
  have h2 : H t = some (.tup (b.map V.int)) := h2
  rw [h] at h2
  exact map_int_inj (HO.tup.inj (Option.some.inj h2))
def lenD (H : Hp) (d : Addr) : Nat := match H d with
  | some (.dT kvs) => 33 - kvs.length
  | _ => 0
def emp (H : Hp) (l : Addr) : Nat := match H l with
  | some (.lst []) => 0
  | _ => 1
theorem lenD_at {H : Hp} {d : Addr} {qs : List FE} (f : FAtR H d qs) : lenD H d = 33 - qs.length := by
  unfold lenD
  rw [f.d]
  show 33 - (qs.map (enc (·.r))).length = _
  rw [List.length_map]
theorem emp_le (H : Hp) (l : Addr) : emp H l ≤ 1 := by
  unfold emp
  split <;> omega
def muR (H : Hp) (d : Addr) (v : Option (Option V)) : Nat := 2 * lenD H d + (match v with
  | some (some (.ref l)) => emp H l
  | _ => 1)
section
variable {P : Program} {w : World} {K : PySem.W.Frag} {mg : Str → Option Value} {base : Heap} {T : TT}
abbrev sRF : Stmt := topS 43
abbrev nRF : List Str := ["web", "start", "rows", "more", "here", "person", "there", "found"]
theorem scRF : FnScope nRF ["web", "start"] (defScope sRF) := ⟨rfl, rfl, rfl, by decide +kernel, rfl, by decide +kernel, by decide +kernel⟩
theorem ok_rowsFrom {f fC c Pt : Addr} {fd fdC : FuncData} (F : FnP K "rows_from" sRF f fd) (FC : FnP K "came" sCame fC fdC) (mC : mg "came" = some (.ref fC)) (GC : FnOk P w K mg base CX0 2 fC fdC ["web", "gathering", "person"] spCame) (O : Own base mg fd c T.L) (hq : T.q = ("rows_from.<locals>.<lambda>" : Str)) (B : Bt mg) :
    FnOk P w K mg base CX0 3 f fd ["web", "start"] (spRowsFrom T) := by
  have bC : Binds K fdC ["web", "gathering", "person"] [] := FC.bindsN fun _ _ _ _ _ _ us hl => match us, hl with | [_, _, _], _ => rfl
  refine okC F O scRF (fun vs H Q E h => ?_) (fun A outer s0 H vs Q E hr h => ?_)
  · obtain ⟨_, _, _, _, rfl, _⟩ := h
    rfl
  · obtain ⟨a, g, W, s, rfl, hW, ok, hg, lot, hG, hT, q⟩ := h
    have hu := hu_of hr
    refine ⟨_, pss_cons (ps_asg (pe_tup (pa_cons (pe_dispT hu (pv 1) (pe_tup pa_nil)) (pa_cons (pe_lst (pa_cons (pv 1) pa_nil)) pa_nil))) (pg_tup rfl (pgs_cons (pg_name (i := 7) scRF.nd rfl (Or.inr rfl)) (pgs_cons (pg_name (i := 2) scRF.nd rfl (Or.inl rfl)) pgs_nil))))
      (pss_cons (ps_while PassesOwn.never (pt_truth (pv 2) (by intro _; rfl))
        (pss_cons (ps_set (i := 3) scRF.nd rfl (.inl rfl) (pe_lst pa_nil))
        (pss_cons (ps_for PassesOwn.never rfl (pi_list (pe_sortL (i := 7) (by rfl) B.sorted O.tb rfl hr rfl rfl (pa_cons (pv 2) pa_nil) ⟨rfl, rfl, rfl⟩ (by decide +kernel) rfl rfl (show ∀ y ∈ ([(("one" : Str), NameKind.local), ("found", NameKind.free)] : List (Str × NameKind)), y.2 = .free → (defScope sRF).names.lookup y.1 = some .cell from by decide +kernel) (fun _ _ _ _ _ _ => rfl) rfl)) (pg_name (i := 4) scRF.nd rfl (Or.inl rfl))
          (pss_one (ps_for PassesOwn.never rfl (pi_range1 (by rfl) B.range (pa_cons (pe_ix ix_tup (pv 0) pe_int (fun _ _ => rfl)) pa_nil)) (pg_name (i := 5) scRF.nd rfl (Or.inl rfl))
            (pss_cons (ps_set (i := 6) scRF.nd rfl (.inl rfl) (pe_call GC hr (by rfl) mC FC.kp bC .nil pass0 (pa_cons (pv 0) (pa_cons (pv 4) (pa_cons (pv 5) pa_nil)))))
            (pss_one (ps_if (pt_cmp (pc_dnotin hu (pv 6) (pv 7)))
              (pss_cons (ps_dput hu (pv 7) (pv 6) (pe_tup (StX.pa_star (pe_dget hu (pv 7) (pv 4) (fun _ _ => rfl)) (pa_cons (pv 5) pa_nil))) rfl)
              (pss_one (ps_expr (pe_bm PySem.F.plainAttrs_list PySem.F.slot_list_append PySem.F.type_list_append mt_append (pv 3) (pa_cons (pv 6) pa_nil)))))
              pss_nil))))))
        (pss_one (ps_set (i := 2) scRF.nd rfl (.inl rfl) (pv 3))))))
      (pss_one (ps_ret (pv 7)))), ?_⟩
    obtain ⟨bb, ps, w1, w2, w3, w4⟩ := id hW
    have hn := ok.hi
    intro d nd
    refine ⟨_, rfl, (by show 0 ≤ sizeLine; decide), fun r0 n0 => ?_⟩
    have e0 : Same H (upd H d (.dT [])) := Same.new (Same.refl _) nd
    have e1 := Same.new (a := r0) (o := .tup []) e0 n0
    have hd1 : upd (upd H d (.dT [])) r0 (.tup []) d = some (.dT []) := by
      rw [upd_ne (ne_of_none upd_same n0), upd_same]
    have hr1 : upd (upd H d (.dT [])) r0 (.tup []) r0 = some (.tup []) := upd_same
    generalize upd (upd H d (.dT [])) r0 (.tup []) = H1 at e1 hd1 hr1 ⊢
    refine ⟨hd1, g, kK s, rfl, TI.k (e1 _ _ hg), _, rfl, (by show 1 ≤ sizeLine; decide), fun l0 m0 => ⟨(by show 2 ≤ sizeLine; decide), fun p0 k0 => ⟨p0, _, rfl, SqT.of upd_same, rfl, _, _, rfl, _, _, rfl, rfl, ?_⟩⟩⟩
    have e2 : Same H (upd H1 d (.dT [(kK s, .ref r0)])) := Same.own e1 nd
    have f2 : FAtR (upd H1 d (.dT [(kK s, .ref r0)])) d [⟨⟨s, 0, []⟩, r0, r0⟩] := by
      refine ⟨upd_same, fun x hx => ?_⟩
      rw [List.mem_singleton.mp hx]
      show upd _ d _ r0 = _
      rw [upd_ne (ne_of hr1 hd1 fun z => nomatch z)]
      exact hr1
    generalize upd H1 d (.dT [(kK s, .ref r0)]) = H2 at e2 f2 m0 k0 ⊢
    have e3 : Same H2 (upd H2 l0 (.lst [.ref g])) := Same.new (Same.refl _) m0
    have e4 := Same.new (a := p0) (o := .tup [.ref d, .ref l0]) e3 k0
    have hl4 : upd (upd H2 l0 (.lst [.ref g])) p0 (.tup [.ref d, .ref l0]) l0 = some (.lst [.ref g]) := by
      rw [upd_ne (ne_of_none upd_same k0), upd_same]
    generalize upd (upd H2 l0 (.lst [.ref g])) p0 (.tup [.ref d, .ref l0]) = H4 at e4 hl4 ⊢
    have f4 := f2.ev (T := T) (.of_same e4)
    have eH : Ev T H H4 := .of_same (e2.trans e4)
    dsimp only
    refine while_by (fun σ H5 => ∃ qs rl ts L o3 o4 o5 o6, σ = [some (.ref a), some (.ref g), some (.ref rl), o3, o4, o5, o6, some (.ref d)] ∧ Ev T H H5 ∧ FAtR H5 d qs ∧ Tab W s (ones W.n) (qs.map (·.e)) ∧ H5 rl = some (.lst (ts.map V.ref)) ∧
        (∀ t ∈ ts, ∃ q ∈ qs, TI H5 t q.e.key ∧ q.e.row.length = L) ∧ (∀ q ∈ qs, q.e.row.length ≤ L) ∧ (∀ q ∈ qs, q.e.row.length < L → Cl W (ones W.n) (qs.map (·.e)) q.e) ∧ (∀ q ∈ qs, q.e.row.length = L → ∃ t ∈ ts, TI H5 t q.e.key) ∧ (L = 0 → ts.length = 1))
      (fun σ H5 => muR H5 d σ[2]?) ⟨_, l0, [g], 0, none, none, none, none, rfl, eH, f4, Tab.new W s _, hl4, fun t ht => ?_, fun q hq => ?_, fun q hq h => absurd h (Nat.not_lt_zero _), fun q hq _ => ?_, fun _ => rfl⟩ ?_ (fun σ H1 Q1 Q2 hq ⟨v, h1, b, h2, h3⟩ => ⟨v, h1, b, h2, hq _ _ h3⟩)
    · rw [List.mem_singleton.mp ht]
      exact ⟨_, List.mem_singleton.mpr rfl, eH.tup hg, rfl⟩
    · rw [List.mem_singleton.mp hq]
      exact Nat.le_refl _
    · rw [List.mem_singleton.mp hq]
      exact ⟨g, List.mem_singleton.mpr rfl, eH.tup hg⟩
    rintro σ H5 ⟨qs, rl, ts, L, o3, o4, o5, o6, rfl, e5, f5, t5, l5, ht5, hL5, hc5, hk5, h05⟩
    refine ⟨_, rfl, !(ts.map V.ref).isEmpty, .inl ⟨_, SqL.of l5, rfl⟩, ?_⟩
    have hlen := t5.few ok lot
    rw [List.length_map] at hlen
    cases ts with
    | nil =>
      refine iteF ⟨_, rfl, q H5 d _ e5 f5.found (t5.done ok lot hG fun e he => ?_)⟩
      obtain ⟨x, hx, rfl⟩ := List.mem_map.mp he
      rcases Nat.lt_or_ge x.e.row.length L with h | h
      · exact hc5 x hx h
      · obtain ⟨t, ht, _⟩ := hk5 x hx (Nat.le_antisymm (hL5 x hx) h)
        cases ht
    | cons t0 ts0 =>
      generalize hts : t0 :: ts0 = ts at l5 ht5 hk5 h05 ⊢
      have hemp : emp H5 rl = 1 := by
        unfold emp
        rw [l5, ← hts]
        rfl
      have hne : (!(ts.map V.ref).isEmpty) = true := by
        rw [← hts]
        rfl
      show if (!(ts.map V.ref).isEmpty) = true then _ else _
      rw [hne]
      refine iteT ?_
      -- more = []
      refine ⟨(by show 0 ≤ sizeLine; decide), fun m nm => ?_⟩
      have nmH : H m = none := e5.free nm
      have em : Same H5 (upd H5 m (.lst [])) := Same.new (Same.refl _) nm
      have hm6 : upd H5 m (.lst []) m = some (.lst []) := upd_same
      generalize upd H5 m (.lst []) = H6 at em hm6 ⊢
      have e6 := e5.same em
      have f6 := f5.ev (T := T) (.of_same em)
      have nd6 : (qs.map fun q => q.e.key).Nodup := by
        have := t5.nd
        rw [List.map_map] at this
        exact this
      have hq2 : T.q = ("rows_from" ++ ".<locals>." ++ "<lambda>" : Str) := hq.trans (by decide +kernel)
      have ht6 : ∀ t ∈ ts, ∃ q ∈ qs, TI H6 t q.e.key ∧ q.e.row.length = L := fun t ht => by
        obtain ⟨x, hx, k1, k2⟩ := ht5 t ht
        exact ⟨x, hx, em _ _ k1, k2⟩
      have hkey : ∀ t ∈ ts, ∃ q ∈ qs, TI H6 t q.e.key ∧ keyAt H6 qs t = q.e.row ∧ q.e.row.length = L := fun t ht => by
        obtain ⟨x, hx, k1, k2⟩ := ht6 t ht
        have hex : ∃ q, q ∈ qs ∧ TI H6 t q.e.key := ⟨x, hx, k1⟩
        obtain ⟨c1, c2⟩ := hex.choose_spec
        refine ⟨x, hx, k1, ?_, k2⟩
        unfold keyAt
        rw [dif_pos hex]
        have := t5.uniq (List.mem_map_of_mem c1) (List.mem_map_of_mem hx) (TI_inj c2 k1)
        rw [this]
      refine ⟨_, rfl, rl, ts, d, _, keyAt H6 qs, rfl, em _ _ l5, rfl, f6.d, (by have hh := (e6.2 hT).2; rw [hq2] at hh; exact hh), fun t ht => ?_, ?_, fun H7 ts' p lk tb pm np => ?_⟩
      · obtain ⟨x, hx, k1, k2, k3⟩ := hkey t ht
        exact ⟨x.e.key, x.r, k1, valV_at (v := (·.r)) nd6 hx, by rw [k2]; exact f6.at_ x hx⟩
      · by_cases h0 : L = 0
        · exact .inr (h05 h0)
        · refine .inl fun t ht z => ?_
          obtain ⟨x, hx, k1, k2, k3⟩ := hkey t ht
          rw [k2] at z
          rw [z] at k3
          exact h0 k3.symm
      · have e67 : Ev T H6 H7 := Ev.lkept lk (e6.2 hT) (by rw [hq2]; exact tb)
        have hm7 := e67.lst hm6
        have e7 : Ev T H (upd H7 p (.lst (ts'.map V.ref))) := (e6.trans e67).new np
        have f7 := (f6.ev e67).ev (Ev.new (T := T) (o := .lst (ts'.map V.ref)) (Ev.refl _) np)
        have hp7 : upd H7 p (.lst (ts'.map V.ref)) p = some (.lst (ts'.map V.ref)) := upd_same
        have hm8 : upd H7 p (.lst (ts'.map V.ref)) m = some (.lst []) := by
          rw [upd_ne (ne_of_none hm7 np)]
          exact hm7
        have hpm : p ≠ m := (ne_of_none hm7 np).symm
        have ht8 : ∀ t ∈ ts, ∃ q ∈ qs, TI (upd H7 p (.lst (ts'.map V.ref))) t q.e.key ∧ q.e.row.length = L := fun t ht => by
          obtain ⟨x, hx, k1, k2⟩ := ht6 t ht
          exact ⟨x, hx, (Ev.new (o := .lst (ts'.map V.ref)) e67 np).tup k1, k2⟩
        have hk8 : ∀ q ∈ qs, q.e.row.length = L → ∃ t ∈ ts', TI (upd H7 p (.lst (ts'.map V.ref))) t q.e.key := fun x hx hl => by
          obtain ⟨t, ht, k⟩ := hk5 x hx hl
          exact ⟨t, pm.mem_iff.mpr ht, (Ev.new (o := .lst (ts'.map V.ref)) e67 np).tup (em _ _ k)⟩
        generalize upd H7 p (.lst (ts'.map V.ref)) = H8 at e7 f7 hp7 hm8 ht8 hk8 ⊢
        refine ⟨p, rfl, ⟨_, SqL.of hp7⟩, ?_⟩
        refine for_list (K := K) (a := p) (xs := ts'.map V.ref) (fun i σ H3 => ∃ qs' ms o4 o5 o6, σ = [some (.ref a), some (.ref g), some (.ref rl), some (.ref m), o4, o5, o6, some (.ref d)] ∧ Ev T H H3 ∧ KM d m H8 H3 ∧ FAtR H3 d qs' ∧ Tab W s (ones W.n) (qs'.map (·.e)) ∧ H3 m = some (.lst (ms.map V.ref)) ∧
            (∀ t ∈ ms, ∃ q ∈ qs', TI H3 t q.e.key ∧ q.e.row.length = L + 1) ∧ (∀ q ∈ qs', q ∈ qs ∨ q.e.row.length = L + 1) ∧ (∀ q ∈ qs, q ∈ qs') ∧ (∀ q ∈ qs', q.e.row.length = L + 1 → ∃ t ∈ ms, TI H3 t q.e.key) ∧
            (∀ q ∈ qs, q.e.row.length < L → Cl W (ones W.n) (qs'.map (·.e)) q.e) ∧ (∀ j t, j < i → ts'[j]? = some t → ∀ q ∈ qs, TI H8 t q.e.key → Cl W (ones W.n) (qs'.map (·.e)) q.e) ∧ qs'.length = qs.length + ms.length)
          ⟨qs, [], _, _, _, rfl, e7, KM.refl _ _ _, f7, t5, hm8, (fun t ht => nomatch ht), (fun q hq => .inl hq), (fun q hq => hq), (fun q hq h => absurd (hL5 q hq) (by omega)), hc5, (fun j t h => absurd h (Nat.not_lt_zero _)), rfl⟩
          (fun i σ H3 _ ⟨_, _, _, _, _, _, _, km, _⟩ => SqL.of (km p _ (ne_of hp7 f7.d fun z => nomatch z) hpm hp7)) ?_ ?_
        · rintro i x σ H3 hi ⟨qs', ms, o4, o5, o6, rfl, e3, km, f3, t3, hm3, ht3, hs3, hi3, hk3, hc3, hd3, hn3⟩
          rw [List.getElem?_map] at hi
          obtain ⟨t, ht, rfl⟩ := Option.map_eq_some_iff.mp hi
          obtain ⟨h, hh, hk, hhl⟩ := ht8 t (pm.mem_iff.mp (List.mem_of_getElem? ht))
          have hh3 := hi3 h hh
          have ht3' : TI H3 t h.e.key := km.tup f7.d hm8 hk
          refine ⟨_, rfl, _, _, _, _, rfl, rfl, SqT.of (e3.tup w1), rfl, _, rfl, by omega, by omega, ?_⟩
          refine for_range (lo := 0) (n := (W.n : Int).toNat) (fun k σ H4 => ∃ qs'' ms o5 o6, σ = [some (.ref a), some (.ref g), some (.ref rl), some (.ref m), some (.ref t), o5, o6, some (.ref d)] ∧ Ev T H H4 ∧ KM d m H8 H4 ∧ FAtR H4 d qs'' ∧ Tab W s (ones W.n) (qs''.map (·.e)) ∧ H4 m = some (.lst (ms.map V.ref)) ∧
            (∀ t ∈ ms, ∃ q ∈ qs'', TI H4 t q.e.key ∧ q.e.row.length = L + 1) ∧ (∀ q ∈ qs'', q ∈ qs ∨ q.e.row.length = L + 1) ∧ (∀ q ∈ qs, q ∈ qs'') ∧ (∀ q ∈ qs'', q.e.row.length = L + 1 → ∃ t ∈ ms, TI H4 t q.e.key) ∧
            (∀ q ∈ qs, q.e.row.length < L → Cl W (ones W.n) (qs''.map (·.e)) q.e) ∧ (∀ j t, j < i → ts'[j]? = some t → ∀ q ∈ qs, TI H8 t q.e.key → Cl W (ones W.n) (qs''.map (·.e)) q.e) ∧ qs''.length = qs.length + ms.length ∧
            ∀ p : Int, 0 ≤ p → p < (k : Int) → ∃ e' ∈ qs''.map (·.e), e'.key = cameF W h.e.key p ∧ e'.cost ≤ h.e.cost + at_ (ones W.n) p)
            ⟨qs', ms, _, _, rfl, e3, km, f3, t3, hm3, ht3, hs3, hi3, hk3, hc3, hd3, hn3, fun p h0 h1 => by omega⟩ ?_ ?_
          · rintro k σ H4 hk' ⟨qs'', ms, o5, o6, rfl, e4, km4, f4, t4, hm4, ht4, hs4, hi4, hk4, hc4, hd4, hn4, hp4⟩
            have hkn : 0 ≤ (0 : Int) + (k : Int) ∧ (0 : Int) + (k : Int) < (W.n : Int) := by omega
            have hpk : (0 : Int) + (k : Int) = (k : Int) := by omega
            rw [hpk] at hkn ⊢
            have hh4 := hi4 h hh
            have hh4' : h.e ∈ qs''.map (·.e) := List.mem_map_of_mem hh4
            have hlot := t4.lotE lot hh4'
            have hlotl := lot_len hlot
            have htk := km4.tup f7.d hm8 hk
            refine ⟨_, rfl, _, rfl, _, rfl, a, W, t, h.e.key, (k : Int), rfl, hW.ev e4, htk, by omega, fun H9 u e9 hu9 => ?_⟩
            have e49 := e4.same e9
            have f9 := f4.ev (T := T) (.of_same e9)
            have km9 := km4.trans (KM.of (d := d) (m := m) e9)
            have hm9 := e9 _ _ hm4
            have hlen4 := t4.few ok lot
            rw [List.length_map] at hlen4
            have nd4 : (qs''.map fun q => q.e.key).Nodup := by
              have := t4.nd
              rw [List.map_map] at this
              exact this
            have hcost : h.e.cost = L := by
              obtain ⟨_, b2, b3⟩ := t4.lead h.e hh4'
              rw [b2, ones_sum b3, hhl]
            have hat1 := ones_at hkn.1 hkn.2
            refine ⟨_, rfl, _, rfl, d, _, rfl, DGet.t f9.d (TI.k hu9), _, rfl, ?_⟩
            rw [valV_none]
            cases hany : qs''.any (fun x => decide (x.e.key = cameF W h.e.key (k : Int))) with
            | true =>
              refine iteF ⟨qs'', ms, _, _, rfl, e49, km9, f9, t4, hm9, fun t ht => ?_, hs4, hi4, fun q hq hl => ?_, hc4, hd4, hn4, fun p' h0 h1 => ?_⟩
              · obtain ⟨x, hx, k1, k2⟩ := ht4 t ht
                exact ⟨x, hx, e9 _ _ k1, k2⟩
              · obtain ⟨t, ht, k1⟩ := hk4 q hq hl
                exact ⟨t, ht, e9 _ _ k1⟩
              · by_cases hpp : p' < (k : Int)
                · exact hp4 p' h0 hpp
                · have : p' = (k : Int) := by omega
                  subst this
                  obtain ⟨x1, hx1, hk1⟩ := List.any_eq_true.mp hany
                  have hk1 : x1.e.key = cameF W h.e.key (k : Int) := by simpa using hk1
                  have hx1' : x1.e ∈ qs''.map (·.e) := List.mem_map_of_mem hx1
                  refine ⟨x1.e, hx1', hk1, ?_⟩
                  obtain ⟨_, b2, b3⟩ := t4.lead x1.e hx1'
                  rw [b2, ones_sum b3, hat1, hcost]
                  rcases hs4 x1 hx1 with z | z
                  · have := hL5 x1 z
                    omega
                  · omega
            | false =>
              refine iteT ?_
              -- found[there] = (*found[here], person)
              have hgeth : DGet H9 d (.ref t) (some (.ref h.r)) := by
                rw [← valV_at (v := (·.r)) nd4 hh4]
                exact DGet.t f9.d (TI.k (e9 _ _ htk))
              have hrow9 := f9.at_ h hh4
              have hrl := t4.len ok lot hG hh4'
              refine ⟨_, rfl, _, rfl, d, _, rfl, hgeth, _, _, rfl, .inl (SqT.of hrow9), _, rfl, ?_, fun r' nr => ?_⟩
              · rw [List.length_append, List.length_map]
                exact size_big (by show h.e.row.length + 1 ≤ 1000000; omega)
              have er : Same H9 (upd H9 r' (.tup (h.e.row.map V.int ++ [V.int (k : Int)]))) := Same.new (Same.refl _) nr
              have hr' : TI (upd H9 r' (.tup (h.e.row.map V.int ++ [V.int (k : Int)]))) r' (h.e.row ++ [(k : Int)]) := by
                show upd H9 r' _ r' = _
                rw [upd_same, List.map_append]
                rfl
              generalize upd H9 r' (.tup (h.e.row.map V.int ++ [V.int (k : Int)])) = H10 at er hr' ⊢
              have f10 := f9.ev (T := T) (.of_same er)
              refine ⟨_, rfl, _, rfl, d, _, rfl, DPut.t f10.d (TI.k (er _ _ hu9)) (by rw [List.length_map, sizeLine_eq]; omega), ?_⟩
              have ek := putK_enc (·.r) qs'' ⟨⟨cameF W h.e.key (k : Int), h.e.cost + at_ (ones W.n) (k : Int), h.e.row ++ [(k : Int)]⟩, r', r'⟩
              have ek' : putK (qs''.map (enc (·.r))) (kK (cameF W h.e.key (k : Int))) (V.ref r') = (setQ qs'' ⟨⟨cameF W h.e.key (k : Int), h.e.cost + at_ (ones W.n) (k : Int), h.e.row ++ [(k : Int)]⟩, r', r'⟩).map (enc (·.r)) := ek
              have bet : ∀ e ∈ qs''.map (·.e), e.key = cameF W h.e.key (k : Int) → h.e.cost + at_ (ones W.n) (k : Int) < e.cost := fun e he hk => by
                exfalso
                obtain ⟨x, hx, rfl⟩ := List.mem_map.mp he
                have := List.any_eq_false.mp hany x hx
                simp [hk] at this
              have t' := t4.step ones_rg hh4' hkn.1 hkn.2 bet
              generalize hX : (⟨⟨cameF W h.e.key (k : Int), h.e.cost + at_ (ones W.n) (k : Int), h.e.row ++ [(k : Int)]⟩, r', r'⟩ : FE) = X at ek'
              have hXe : X.e = ⟨cameF W h.e.key (k : Int), h.e.cost + at_ (ones W.n) (k : Int), h.e.row ++ [(k : Int)]⟩ := by rw [← hX]
              have hXr : X.r = r' := by rw [← hX]
              have hset : setQ qs'' X = qs'' ++ [X] := setQ_new (by rw [hXe]; exact hany)
              rw [← hXe, ← setQ_e, hset] at t'
              rw [hset] at ek'
              have hd10 : upd H10 d (.dT (putK (qs''.map (enc (·.r))) (kK (cameF W h.e.key (k : Int))) (V.ref r'))) d = some (.dT ((qs'' ++ [X]).map (enc (·.r)))) := by
                rw [upd_same, ek']
              have k10 : ∀ {b : Addr} {xs : List V}, H10 b = some (.tup xs) → upd H10 d (.dT (putK (qs''.map (enc (·.r))) (kK (cameF W h.e.key (k : Int))) (V.ref r'))) b = some (.tup xs) := fun {b xs} e => by
                rw [upd_ne (ne_of e f10.d fun z => nomatch z)]
                exact e
              have hm10 : upd H10 d (.dT (putK (qs''.map (enc (·.r))) (kK (cameF W h.e.key (k : Int))) (V.ref r'))) m = some (.lst (ms.map V.ref)) := by
                rw [upd_ne (ne_of (er _ _ hm9) f10.d fun z => nomatch z)]
                exact er _ _ hm9
              have km10 : KM d m H8 (upd H10 d (.dT (putK (qs''.map (enc (·.r))) (kK (cameF W h.e.key (k : Int))) (V.ref r')))) := fun b o n1 n2 q => by
                rw [upd_ne n1]
                exact er _ _ (km9 b o n1 n2 q)
              have e10 : Ev T H (upd H10 d (.dT (putK (qs''.map (enc (·.r))) (kK (cameF W h.e.key (k : Int))) (V.ref r')))) := Ev.put (e49.same er) nd f10.d (.inr ⟨_, rfl⟩)
              generalize upd H10 d (.dT (putK (qs''.map (enc (·.r))) (kK (cameF W h.e.key (k : Int))) (V.ref r'))) = H11 at hd10 k10 hm10 km10 e10 ⊢
              have hlm : ms.length ≤ 32 := by omega
              -- more.append(there)
              refine ⟨_, rfl, .inl ⟨rfl, _, SqL.of hm10⟩, _, rfl, m, _, _, rfl, rfl, hm10, (by rw [List.length_map, sizeLine_eq]; omega), ?_⟩
              have k11 : ∀ {b : Addr} {xs : List V}, H11 b = some (.tup xs) → upd H11 m (.lst (ms.map V.ref ++ [V.ref u])) b = some (.tup xs) := fun {b xs} e => by
                rw [upd_ne (ne_of e hm10 fun z => nomatch z)]
                exact e
              have up : ∀ {b : Addr} {xs : List V}, H9 b = some (.tup xs) → upd H11 m (.lst (ms.map V.ref ++ [V.ref u])) b = some (.tup xs) := fun e => k11 (k10 (er _ _ e))
              have hd11 : upd H11 m (.lst (ms.map V.ref ++ [V.ref u])) d = some (.dT ((qs'' ++ [X]).map (enc (·.r)))) := by
                rw [upd_ne (ne_of hd10 hm10 fun z => nomatch z)]
                exact hd10
              refine ⟨qs'' ++ [X], ms ++ [u], _, _, rfl, Ev.put e10 nmH hm10 (.inl ⟨_, rfl⟩), fun b o n1 n2 q => by rw [upd_ne n2]; exact km10 b o n1 n2 q, ⟨hd11, fun x hx => ?_⟩, t', by rw [upd_same, List.map_append]; rfl, fun t ht => ?_, fun x hx => ?_, fun x hx => List.mem_append_left _ (hi4 x hx), fun x hx hl => ?_, fun x hx hl => ?_, fun j t hj hjt x hx hk => ?_, by rw [List.length_append, List.length_append, hn4]; rfl, fun p' h0 h1 => ?_⟩
              · rcases List.mem_append.mp hx with hx | hx
                · exact up (f9.at_ x hx)
                · rw [List.mem_singleton.mp hx, hXr, hXe]
                  exact k11 (k10 hr')
              · rcases List.mem_append.mp ht with ht | ht
                · obtain ⟨x, hx, k1, k2⟩ := ht4 t ht
                  exact ⟨x, List.mem_append_left _ hx, up (e9 _ _ k1), k2⟩
                · rw [List.mem_singleton.mp ht]
                  refine ⟨X, by simp, ?_, ?_⟩
                  · rw [hXe]
                    exact up hu9
                  · rw [hXe]
                    show (h.e.row ++ [(k : Int)]).length = L + 1
                    rw [List.length_append, hhl]
                    rfl
              · rcases List.mem_append.mp hx with hx | hx
                · exact hs4 x hx
                · refine .inr ?_
                  rw [List.mem_singleton.mp hx, hXe]
                  show (h.e.row ++ [(k : Int)]).length = L + 1
                  rw [List.length_append, hhl]
                  rfl
              · rcases List.mem_append.mp hx with hx | hx
                · obtain ⟨t, ht, k1⟩ := hk4 x hx hl
                  exact ⟨t, List.mem_append_left _ ht, up (e9 _ _ k1)⟩
                · rw [List.mem_singleton.mp hx]
                  refine ⟨u, by simp, ?_⟩
                  rw [hXe]
                  exact up hu9
              · rw [List.map_append]
                exact (hc4 x hx hl).app
              · rw [List.map_append]
                exact (hd4 j t hj hjt x hx hk).app
              · by_cases hpp : p' < (k : Int)
                · obtain ⟨e', he', z⟩ := hp4 p' h0 hpp
                  exact ⟨e', by rw [List.map_append]; exact List.mem_append_left _ he', z⟩
                · have : p' = (k : Int) := by omega
                  subst this
                  refine ⟨X.e, by simp, by rw [hXe], by rw [hXe]; exact Int.le_refl _⟩
          · rintro σ H4 ⟨qs'', ms, o5, o6, rfl, e4, km4, f4, t4, hm4, ht4, hs4, hi4, hk4, hc4, hd4, hn4, hp4⟩
            refine ⟨qs'', ms, _, _, _, rfl, e4, km4, f4, t4, hm4, ht4, hs4, hi4, hk4, hc4, fun j t2 hj hjt x hx hk2 => ?_, hn4⟩
            by_cases hji : j < i
            · exact hd4 j t2 hji hjt x hx hk2
            · have : j = i := by omega
              subst this
              rw [ht] at hjt
              have eb := Option.some.inj hjt
              subst eb
              have : x.e = h.e := t5.uniq (List.mem_map_of_mem hx) (List.mem_map_of_mem hh) (TI_inj hk2 hk)
              rw [this]
              exact fun p h0 h1 => hp4 p h0 (by omega)
        · rintro σ H3 ⟨qs', ms, o4, o5, o6, rfl, e3, km, f3, t3, hm3, ht3, hs3, hi3, hk3, hc3, hd3, hn3⟩
          refine ⟨_, rfl, ⟨qs', m, ms, L + 1, _, _, _, _, rfl, e3, f3, t3, hm3, ht3, fun x hx => ?_, fun x hx hl => ?_, hk3, fun z => absurd z (Nat.succ_ne_zero L)⟩, ?_⟩
          · rcases hs3 x hx with z | z
            · have := hL5 x z
              omega
            · omega
          · rcases hs3 x hx with z | z
            · rcases Nat.lt_or_ge x.e.row.length L with h | h
              · exact hc3 x z h
              · obtain ⟨t, ht, hk⟩ := hk8 x z (by omega)
                obtain ⟨j, hj, rfl⟩ := List.mem_iff_getElem.mp ht
                exact hd3 j _ (by rw [List.length_map]; exact hj) (List.getElem?_eq_getElem hj) x z hk
            · omega
          · show muR H3 d (some (some (.ref m))) < muR H5 d (some (some (.ref rl)))
            unfold muR
            show 2 * lenD H3 d + emp H3 m < 2 * lenD H5 d + emp H5 rl
            have hlen' := t3.few ok lot
            rw [List.length_map] at hlen'
            rw [lenD_at f3, lenD_at f5, hemp]
            cases ms with
            | nil =>
              have : emp H3 m = 0 := by
                unfold emp
                rw [hm3]
                rfl
              rw [List.length_nil] at hn3
              omega
            | cons x xs =>
              have := emp_le H3 m
              rw [List.length_cons] at hn3
              omega
end
end Fo

end FoW10
section FoW11
set_option Elab.async false
set_option linter.all false
set_option maxRecDepth 100000
set_option maxHeartbeats 4000000
namespace Fo
open PySem PySem.Spec PyProof.Rows L2 FoS PySem.W
theorem Pre.ev {T : TT} {H H' : Hp} {a g c : Addr} {W : Web} {s cs : List Int} (p : Pre T H a g c W s cs) (e : Ev T H H') : Pre T H' a g c W s cs :=
  ⟨p.web.ev e, p.ok, e.tup p.st, p.lot, p.ga, e.tup p.tc, p.nu, e.2 p.tb⟩
theorem PairAt.ev {T : TT} {H H' : Hp} {m : Addr} {z : Int} {row : List Int} (p : PairAt H m z row) (e : Ev T H H') : PairAt H' m z row := by
  obtain ⟨r, h1, h2⟩ := p
  exact ⟨r, e.tup h1, e.tup h2⟩
section
variable {P : Program} {w : World} {K : PySem.W.Frag} {mg : Str → Option Value} {base : Heap} {T : TT}
abbrev sNN : Stmt := topS 35
theorem scNN : FnScope ["web", "start", "costs", "gains"] ["web", "start", "costs", "gains"] (defScope sNN) := ⟨rfl, rfl, rfl, by decide +kernel, rfl, by decide +kernel, by decide +kernel⟩
theorem ok_needNet {f fG fC fN : Addr} {fd fdG fdC fdN : FuncData} (F : FnP K "need_net" sNN f fd) (FG : FnP K "need_gathering" sNG fG fdG) (mG : mg "need_gathering" = some (.ref fG)) (GG : FnOk P w K mg base CX0 5 fG fdG ["web", "gathering"] (spNeedG T))
    (FC : FnP K "need_row_costs" sNRC fC fdC) (mC : mg "need_row_costs" = some (.ref fC)) (GC : FnOk P w K mg base CX0 3 fC fdC ["web", "costs"] (spNeedN T))
    (FN : FnP K "need_gains" sNGn fN fdN) (mN : mg "need_gains" = some (.ref fN)) (GN : FnOk P w K mg base CX0 3 fN fdN ["web", "gains"] (spNeedN T)) : FnOk P w K mg base CX0 6 f fd ["web", "start", "costs", "gains"] (spNeedNet T) := by
  have bG : Binds K fdG ["web", "gathering"] [] := FG.bindsN fun _ _ _ _ _ _ us hl => match us, hl with | [_, _], _ => rfl
  have bC : Binds K fdC ["web", "costs"] [] := FC.bindsN fun _ _ _ _ _ _ us hl => match us, hl with | [_, _], _ => rfl
  have bN : Binds K fdN ["web", "gains"] [] := FN.bindsN fun _ _ _ _ _ _ us hl => match us, hl with | [_, _], _ => rfl
  refine okN F scNN (fun vs H Q E h => ?_) (fun cdv A outer s0 H vs Q E hr h => ?_)
  · obtain ⟨_, _, _, _, _, _, _, _, rfl, _⟩ := h
    rfl
  · obtain ⟨a, g, c, b, W, s, cs, gs, rfl, pre, hb, nu, q⟩ := h
    refine ⟨_, pss_cons (ps_expr (pe_call GG hr (by rfl) mG FG.kp bG .nil pass0 (pa_cons (pv 0) (pa_cons (pv 1) pa_nil))))
      (pss_cons (ps_expr (pe_call GC (hr.mono (by decide)) (by rfl) mC FC.kp bC .nil pass0 (pa_cons (pv 0) (pa_cons (pv 2) pa_nil))))
      (pss_one (ps_expr (pe_call GN (hr.mono (by decide)) (by rfl) mN FN.kp bN .nil pass0 (pa_cons (pv 0) (pa_cons (pv 3) pa_nil)))))), ?_⟩
    refine ⟨_, rfl, _, rfl, a, W, g, s, rfl, pre.web, pre.ok, pre.st, pre.lot, pre.ga, pre.tb, fun H1 e1 => ?_⟩
    have p1 := pre.ev e1
    refine ⟨_, rfl, _, rfl, a, W, c, cs, rfl, p1.web, p1.tc, p1.nu, p1.tb, fun H2 e2 => ?_⟩
    have p2 := p1.ev e2
    exact ⟨_, rfl, _, rfl, a, W, b, gs, rfl, p2.web, (e1.trans e2).tup hb, nu, p2.tb, fun H3 e3 => q _ ((e1.trans e2).trans e3)⟩
abbrev sNetOf : Stmt := topS 36
abbrev nNet : List Str := ["web", "start", "costs", "gains", "some", "best", "there", "net"]
theorem scNet : FnScope nNet ["web", "start", "costs", "gains"] (defScope sNetOf) := ⟨rfl, rfl, rfl, by decide +kernel, rfl, by decide +kernel, by decide +kernel⟩
theorem ok_netOf {f fR fS : Addr} {fd fdR fdS : FuncData} (F : FnP K "net_of" sNetOf f fd) (FR : FnP K "cheapest_rows" sRows fR fdR) (mR : mg "cheapest_rows" = some (.ref fR)) (GR : FnOk P w K mg base CX0 3 fR fdR ["web", "start", "costs"] (spRows T))
    (FS : FnP K "gain_of" sGain fS fdS) (mS : mg "gain_of" = some (.ref fS)) (GS : FnOk P w K mg base CX0 1 fS fdS ["gains", "gathering"] (spSum T)) (B : Bt mg) : FnOk P w K mg base CX0 4 f fd ["web", "start", "costs", "gains"] (spNet T) := by
  have bR : Binds K fdR ["web", "start", "costs"] [] := FR.bindsN fun _ _ _ _ _ _ us hl => match us, hl with | [_, _, _], _ => rfl
  have bS : Binds K fdS ["gains", "gathering"] [] := FS.bindsN fun _ _ _ _ _ _ us hl => match us, hl with | [_, _], _ => rfl
  refine okN F scNet (fun vs H Q E h => ?_) (fun cdv A outer s0 H vs Q E hr h => ?_)
  · obtain ⟨_, _, _, _, _, _, _, _, rfl, _⟩ := h
    rfl
  · obtain ⟨a, g, c, b, W, s, cs, gs, rfl, pre, hb, nu, q⟩ := h
    have hu := hu_of hr
    have hu2 : (A.deeper (envOfC "net_of" (defScope sNetOf) s0.heap.objs.size f cdv)).in1.in1.units < cLine := by have := hr.un; show _ + 1 + 1 < _; omega
    refine ⟨_, pss_cons (ps_par (i := 4) (j := 5) rfl scNet.nd rfl rfl (by decide) rfl rfl (pa_cons (pe_call GR hr (by rfl) mR FR.kp bR .nil pass0 (pa_cons (pv 0) (pa_cons (pv 1) (pa_cons (pv 2) pa_nil)))) (pa_cons pe_non pa_nil)) (by rfl))
      (pss_cons (ps_for PassesOwn.never rfl (pi_list (pe_callB (cr_sortDT rfl hu2) (by rfl) B.sorted (by decide +kernel) (pa_cons (pv 4) pa_nil))) (pg_name (i := 6) scNet.nd rfl (Or.inl rfl))
        (pss_cons (ps_set (i := 7) scNet.nd rfl (.inl rfl) (pe_op op_sub (pe_call GS (hr.mono (by decide)) (by rfl) mS FS.kp bS .nil pass0 (pa_cons (pv 3) (pa_cons (pv 6) pa_nil))) (pe_ix ix_tup (pe_dget hu (pv 4) (pv 6) (fun _ _ => rfl)) pe_int (fun _ _ => rfl))))
        (pss_one (ps_if (pw_or (pt_cmp (pc_isN (pv 5))) (pw_or1 (pt_cmpR op_gt (pv 7) (pe_ix ix_tup (pv 5) pe_int (fun _ _ => rfl)) (nomark _)))).pt
          (pss_one (ps_set (i := 5) scNet.nd rfl (.inl rfl) (pe_tup (pa_cons (pv 7) (pa_cons (pe_ix ix_tup (pe_dget hu (pv 4) (pv 6) (fun _ _ => rfl)) pe_int (fun _ _ => rfl)) pa_nil)))))
          pss_nil))))
      (pss_one (ps_ret (pv 5)))), ?_⟩
    refine ⟨_, rfl, _, rfl, _, rfl, a, g, c, W, s, cs, rfl, pre, fun H1 d es e1 fa dn => ⟨_, _, rfl, ?_⟩⟩
    obtain ⟨qs, rfl, hd, hat⟩ := fa
    have f1 : FAt H1 d qs := ⟨hd, hat⟩
    have hT1 := e1.2 pre.tb
    refine ⟨_, rfl, d, _, rfl, .inl hd, fun p hp => ?_, fun bs bs' l hk pm nl => ⟨l, rfl, ⟨_, SqL.of upd_same⟩, ?_⟩⟩
    · obtain ⟨x, hx, rfl⟩ := List.mem_map.mp hp
      exact ⟨x.e.key, rfl⟩
    have hk : IsKeys H1 (qs.map (enc (·.p))) bs := hk
    obtain ⟨km1, km2⟩ := keys_mem hk
    have el : Same H1 (upd H1 l (.lst (bs'.map V.ref))) := Same.new (Same.refl _) nl
    have hl2 : upd H1 l (.lst (bs'.map V.ref)) l = some (.lst (bs'.map V.ref)) := upd_same
    generalize upd H1 l (.lst (bs'.map V.ref)) = H2 at el hl2 ⊢
    have e2 := e1.same el
    have f2 := f1.same el
    have nd2 : (qs.map fun q => q.e.key).Nodup := by
      have := dn.nd
      rw [List.map_map] at this
      exact this
    have lotq : ∀ x ∈ qs, Lot W.n x.e.key := fun x hx => by
      obtain ⟨l1, _, l3, _⟩ := dn.lead x.e (List.mem_map_of_mem hx)
      rw [← l1]
      exact run_lot pre.lot l3
    have hb5 := pre.ok.hi
    refine for_list (K := K) (a := l) (xs := bs'.map V.ref) (fun i σ H3 => ∃ bv o6 o7, σ = [some (.ref a), some (.ref g), some (.ref c), some (.ref b), some (.ref d), some bv, o6, o7] ∧ Ev T H2 H3 ∧
        ((bv = .non ∧ i = 0) ∨ ∃ m net row, bv = .ref m ∧ PairAt H3 m net row ∧ (∃ x ∈ qs, net = sumAt gs x.e.key - x.e.cost ∧ row = x.e.row) ∧ ∀ j t, j < i → bs'[j]? = some t → ∀ x ∈ qs, TI H2 t x.e.key → sumAt gs x.e.key - x.e.cost ≤ net))
      ⟨.non, _, _, rfl, Ev.refl _, .inl ⟨rfl, rfl⟩⟩ (fun i σ H3 _ ⟨_, _, _, _, e3, _⟩ => SqL.of (e3.lst hl2)) ?_ ?_
    · rintro i x σ H3 hi ⟨bv, o6, o7, rfl, e3, hst⟩
      rw [List.getElem?_map] at hi
      obtain ⟨t, ht, rfl⟩ := Option.map_eq_some_iff.mp hi
      obtain ⟨x, hx, hkt⟩ := km1 t (pm.mem_iff.mp (List.mem_of_getElem? ht))
      have ht2 := el _ _ hkt
      have lx := lotq x hx
      have lxl := lot_len lx
      have e23 := e2.trans e3
      have ti3 : TI H3 t x.e.key := e3.tup ht2
      refine ⟨_, rfl, _, rfl, b, gs, t, x.e.key, rfl, e23.tup hb, nu.rg, ti3, (by rw [nu.len]; exact lx.rg), by omega, e23.2 pre.tb, fun H4 e4 => ?_⟩
      have e34 := e3.trans e4
      have e24 := e2.trans e34
      have hd4 : H4 d = some (.dT (qs.map (enc (·.p)))) := e34.dT f2.d
      have hget : DGet H4 d (.ref t) (some (.ref x.p)) := by
        rw [← valV_at (v := (·.p)) nd2 hx]
        exact DGet.t hd4 (TI.k (e4.tup ti3))
      have hp4 : H4 x.p = some (.tup [.int x.e.cost, .ref x.r]) := e34.tup (f2.at_ x hx).1
      have hr4 : TI H4 x.r x.e.row := e34.tup (f2.at_ x hx).2
      refine ⟨_, rfl, _, rfl, d, _, rfl, hget, _, _, _, _, rfl, rfl, SqT.of hp4, rfl, _, _, rfl, rfl, ?_⟩
      -- the better one
      have put : ∀ (p : Addr) (H5 : Hp), H5 = L2.upd H4 p (.tup [.int (sumAt gs x.e.key - x.e.cost), .ref x.r]) → H4 p = none → (∀ j t', j < i → bs'[j]? = some t' → ∀ y ∈ qs, TI H2 t' y.e.key → sumAt gs y.e.key - y.e.cost ≤ sumAt gs x.e.key - x.e.cost) →
          ∃ bv o6 o7, [some (V.ref a), some (.ref g), some (.ref c), some (.ref b), some (.ref d), some (.ref p), some (.ref t), some (.int (sumAt gs x.e.key - x.e.cost))] = [some (.ref a), some (.ref g), some (.ref c), some (.ref b), some (.ref d), some bv, o6, o7] ∧ Ev T H2 H5 ∧
        ((bv = .non ∧ i + 1 = 0) ∨ ∃ m net row, bv = .ref m ∧ PairAt H5 m net row ∧ (∃ x ∈ qs, net = sumAt gs x.e.key - x.e.cost ∧ row = x.e.row) ∧ ∀ j t, j < i + 1 → bs'[j]? = some t → ∀ x ∈ qs, TI H2 t x.e.key → sumAt gs x.e.key - x.e.cost ≤ net) := by
        intro p H5 hH np hmx
        subst hH
        refine ⟨_, _, _, rfl, e34.new np, .inr ⟨p, _, x.e.row, rfl, ⟨x.r, upd_same, ?_⟩, ⟨x, hx, rfl, rfl⟩, fun j t' hj hjt y hy hk' => ?_⟩⟩
        · show L2.upd H4 p _ x.r = _
          rw [upd_ne (ne_of_none hr4 np)]
          exact hr4
        · by_cases hji : j < i
          · exact hmx j t' hji hjt y hy hk'
          · have : j = i := by omega
            subst this
            rw [ht] at hjt
            have eb := Option.some.inj hjt
            subst eb
            have : y.e = x.e := dn.uniq (List.mem_map_of_mem hy) (List.mem_map_of_mem hx) (TI_inj hk' ht2)
            rw [this]
            exact Int.le_refl _
      rcases hst with ⟨rfl, rfl⟩ | ⟨m, net, row, rfl, hp, hx0, hmx⟩
      · refine ⟨_, rfl, _, rfl, iteT (iteT ⟨_, rfl, _, rfl, _, rfl, d, _, rfl, hget, _, _, _, _, rfl, rfl, SqT.of hp4, rfl, (by show 2 ≤ sizeLine; decide), fun p np => ?_⟩)⟩
        exact put p _ rfl np fun j t' hj => absurd hj (Nat.not_lt_zero _)
      · have hpm := hp.ev e4
        obtain ⟨rr, hm1, hm2⟩ := id hpm
        refine ⟨_, rfl, _, rfl, iteF ?_⟩
        refine ⟨_, rfl, _, rfl, _, _, _, _, rfl, rfl, SqT.of hm1, rfl, _, _, rfl, rfl, _, rfl, ?_⟩
        refine ite2 (fun hlt => ?_) (fun hlt => ?_)
        · have hlt : net < sumAt gs x.e.key - x.e.cost := by simpa using hlt
          refine ⟨_, rfl, _, rfl, _, rfl, d, _, rfl, hget, _, _, _, _, rfl, rfl, SqT.of hp4, rfl, (by show 2 ≤ sizeLine; decide), fun p np => ?_⟩
          exact put p _ rfl np fun j t' hj hjt y hy hk' => Int.le_of_lt (Int.lt_of_le_of_lt (hmx j t' hj hjt y hy hk') hlt)
        · have hlt : ¬ net < sumAt gs x.e.key - x.e.cost := by simpa using hlt
          refine ⟨_, _, _, rfl, e34, .inr ⟨m, net, row, rfl, hpm, hx0, fun j t' hj hjt y hy hk' => ?_⟩⟩
          by_cases hji : j < i
          · exact hmx j t' hji hjt y hy hk'
          · have : j = i := by omega
            subst this
            rw [ht] at hjt
            have eb := Option.some.inj hjt
            subst eb
            have : y.e = x.e := dn.uniq (List.mem_map_of_mem hy) (List.mem_map_of_mem hx) (TI_inj hk' ht2)
            rw [this]
            omega
    · rintro σ H3 ⟨bv, o6, o7, rfl, e3, hst⟩
      rcases hst with ⟨_, h0⟩ | ⟨m, net, row, rfl, hp, ⟨x, hx, hn1, hn2⟩, hmx⟩
      · exfalso
        rw [List.length_map] at h0
        obtain ⟨y, hy, _⟩ := List.mem_map.mp dn.st
        obtain ⟨t, ht, _⟩ := km2 y hy
        have := pm.mem_iff.mpr ht
        rw [List.eq_nil_of_length_eq_zero h0] at this
        cases this
      · refine ⟨_, rfl, q H3 m net row (e2.trans e3) hp ⟨_, dn, ⟨x.e, List.mem_map_of_mem hx, hn1, hn2⟩, fun e he => ?_⟩⟩
        obtain ⟨y, hy, rfl⟩ := List.mem_map.mp he
        obtain ⟨t, ht, htk⟩ := km2 y hy
        obtain ⟨j, hj, rfl⟩ := List.mem_iff_getElem.mp (pm.mem_iff.mpr ht)
        exact hmx j _ (by rw [List.length_map]; exact hj) (List.getElem?_eq_getElem hj) y hy (el _ _ htk)
end
end Fo

end FoW11
section FoW12
set_option Elab.async false
set_option linter.all false
set_option maxRecDepth 100000
set_option maxHeartbeats 4000000
namespace Fo
open PySem PySem.Spec PyProof.Rows L2 FoS PySem.W
section
variable {P : Program} {w : World} {K : PySem.W.Frag} {mg : Str → Option Value} {base : Heap} {T : TT}
abbrev sBR : Stmt := topS 37
theorem scBR : FnScope ["web", "start", "costs", "gains"] ["web", "start", "costs", "gains"] (defScope sBR) := ⟨rfl, rfl, rfl, by decide +kernel, rfl, by decide +kernel, by decide +kernel⟩
theorem ok_bestRow {f fN fO : Addr} {fd fdN fdO : FuncData} (F : FnP K "best_row" sBR f fd) (FN : FnP K "need_net" sNN fN fdN) (mN : mg "need_net" = some (.ref fN)) (GN : FnOk P w K mg base CX0 6 fN fdN ["web", "start", "costs", "gains"] (spNeedNet T))
    (FO : FnP K "net_of" sNetOf fO fdO) (mO : mg "net_of" = some (.ref fO)) (GO : FnOk P w K mg base CX0 4 fO fdO ["web", "start", "costs", "gains"] (spNet T)) : FnOk P w K mg base CX0 7 f fd ["web", "start", "costs", "gains"] (spNet T) := by
  have bN : Binds K fdN ["web", "start", "costs", "gains"] [] := FN.bindsN fun _ _ _ _ _ _ us hl => match us, hl with | [_, _, _, _], _ => rfl
  have bO : Binds K fdO ["web", "start", "costs", "gains"] [] := FO.bindsN fun _ _ _ _ _ _ us hl => match us, hl with | [_, _, _, _], _ => rfl
  refine okN F scBR (fun vs H Q E h => ?_) (fun cdv A outer s0 H vs Q E hr h => ?_)
  · obtain ⟨_, _, _, _, _, _, _, _, rfl, _⟩ := h
    rfl
  · obtain ⟨a, g, c, b, W, s, cs, gs, rfl, pre, hb, nu, q⟩ := h
    refine ⟨_, pss_cons (ps_expr (pe_call GN hr (by rfl) mN FN.kp bN .nil pass0 (pa_cons (pv 0) (pa_cons (pv 1) (pa_cons (pv 2) (pa_cons (pv 3) pa_nil))))))
      (pss_one (ps_ret (pe_call GO (hr.mono (by decide)) (by rfl) mO FO.kp bO .nil pass0 (pa_cons (pv 0) (pa_cons (pv 1) (pa_cons (pv 2) (pa_cons (pv 3) pa_nil))))))), ?_⟩
    refine ⟨_, rfl, _, rfl, _, rfl, _, rfl, a, g, c, b, W, s, cs, gs, rfl, pre, hb, nu, fun H1 e1 => ?_⟩
    exact ⟨_, rfl, _, rfl, _, rfl, _, rfl, a, g, c, b, W, s, cs, gs, rfl, pre.ev e1, e1.tup hb, nu, fun H2 m net row e2 hp hn => q H2 m net row (e1.trans e2) hp hn⟩
abbrev sSB : Stmt := topS 38
abbrev nSB : List Str := ["web", "start", "costs", "gains", "value", "best"]
theorem scSB : FnScope nSB ["web", "start", "costs", "gains", "value"] (defScope sSB) := ⟨rfl, rfl, rfl, by decide +kernel, rfl, by decide +kernel, by decide +kernel⟩
theorem ok_showsBest {f fN fO fI fR fS fT fC : Addr} {fd fdN fdO fdI fdR fdS fdT fdC : FuncData} (F : FnP K "shows_best_row" sSB f fd) (FN : FnP K "need_net" sNN fN fdN) (mN : mg "need_net" = some (.ref fN)) (GN : FnOk P w K mg base CX0 6 fN fdN ["web", "start", "costs", "gains"] (spNeedNet T))
    (FO : FnP K "net_of" sNetOf fO fdO) (mO : mg "net_of" = some (.ref fO)) (GO : FnOk P w K mg base CX0 4 fO fdO ["web", "start", "costs", "gains"] (spNet T))
    (FI : FnP K "is_in" sIsIn fI fdI) (mI : mg "is_in" = some (.ref fI)) (FR : FnP K "is_row" sIsRow fR fdR) (mR : mg "is_row" = some (.ref fR)) (GR : FnOk P w K mg base CX0 3 fR fdR ["web", "value"] (spIsRow T))
    (FS : FnP K "gain_of" sGain fS fdS) (mS : mg "gain_of" = some (.ref fS)) (GS : FnOk P w K mg base CX0 1 fS fdS ["gains", "gathering"] (spSum T))
    (FT : FnP K "trace" sTrace fT fdT) (mT : mg "trace" = some (.ref fT)) (GT : FnOk P w K mg base CX0 3 fT fdT ["web", "gathering", "row"] spTrace)
    (FC : FnP K "cost_of" sCost fC fdC) (mC : mg "cost_of" = some (.ref fC)) (GC : FnOk P w K mg base CX0 1 fC fdC ["costs", "lot"] (spSum T)) (B : Bt mg) : FnOk P w K mg base CX0 7 f fd ["web", "start", "costs", "gains", "value"] (spShowsNet T) := by
  have GI : FnOk P w K mg base CX0 1 fI fdI ["value", "least", "most"] spIsIn := ok_isIn FI B
  have bI : Binds K fdI ["value", "least", "most"] [] := FI.bindsN fun _ _ _ _ _ _ us hl => match us, hl with | [_, _, _], _ => rfl
  have bN : Binds K fdN ["web", "start", "costs", "gains"] [] := FN.bindsN fun _ _ _ _ _ _ us hl => match us, hl with | [_, _, _, _], _ => rfl
  have bO : Binds K fdO ["web", "start", "costs", "gains"] [] := FO.bindsN fun _ _ _ _ _ _ us hl => match us, hl with | [_, _, _, _], _ => rfl
  have bR : Binds K fdR ["web", "value"] [] := FR.bindsN fun _ _ _ _ _ _ us hl => match us, hl with | [_, _], _ => rfl
  have bS : Binds K fdS ["gains", "gathering"] [] := FS.bindsN fun _ _ _ _ _ _ us hl => match us, hl with | [_, _], _ => rfl
  have bT : Binds K fdT ["web", "gathering", "row"] [] := FT.bindsN fun _ _ _ _ _ _ us hl => match us, hl with | [_, _, _], _ => rfl
  have bC : Binds K fdC ["costs", "lot"] [] := FC.bindsN fun _ _ _ _ _ _ us hl => match us, hl with | [_, _], _ => rfl
  refine okN F scSB (fun vs H Q E h => ?_) (fun cdv A outer s0 H vs Q E hr h => ?_)
  · obtain ⟨_, _, _, _, _, _, _, _, _, _, _, rfl, _⟩ := h
    rfl
  · obtain ⟨a, g, c, b, v, W, s, cs, gs, z, row, rfl, pre, hb, nu, hv, hin, hl, q⟩ := h
    refine ⟨_, pss_cons (ps_expr (pe_call GN hr (by rfl) mN FN.kp bN .nil pass0 (pa_cons (pv 0) (pa_cons (pv 1) (pa_cons (pv 2) (pa_cons (pv 3) pa_nil))))))
      (pss_cons (ps_set (i := 5) scSB.nd rfl (.inl rfl) (pe_ix ix_tup (pe_call GO (hr.mono (by decide)) (by rfl) mO FO.kp bO .nil pass0 (pa_cons (pv 0) (pa_cons (pv 1) (pa_cons (pv 2) (pa_cons (pv 3) pa_nil))))) pe_int (fun _ _ => rfl)))
      (pss_cons (ps_if (pw_or (pt_not (pt_val (pe_callB call_isi (by rfl) B.isi (by decide +kernel) (pa_cons (pv 4) (pa_cons (pe_bltn (v := .ty "tuple") (by rfl) B.tuple (by decide +kernel) rfl) pa_nil)))))
          (pw_or (pt_cmpR op_ne (pe_callB call_len_seq (by rfl) B.len PySem.boot_len (pa_cons (pv 4) pa_nil)) pe_int (nomark _))
          (pw_or (pt_not (pt_val (pe_call GI (hr.mono (by decide)) (by rfl) mI FI.kp bI .nil pass0 (pa_cons (pe_ix ix_tup (pv 4) pe_int (fun _ _ => rfl)) (pa_cons (pv 5) (pa_cons (pv 5) pa_nil))))))
          (pw_or1 (pt_not (pt_val (pe_call GR (hr.mono (by decide)) (by rfl) mR FR.kp bR .nil pass0 (pa_cons (pv 0) (pa_cons (pe_ix ix_tup (pv 4) pe_int (fun _ _ => rfl)) pa_nil))))))))).pt (pss_one (ps_ret pe_bl)) pss_nil)
      (pss_one (ps_ret (pe_cmpR op_eq (pe_op op_sub (pe_call GS (hr.mono (by decide)) (by rfl) mS FS.kp bS .nil pass0 (pa_cons (pv 3) (pa_cons (pe_ix ix_list (pe_call GT (hr.mono (by decide)) (by rfl) mT FT.kp bT .nil pass0 (pa_cons (pv 0) (pa_cons (pv 1) (pa_cons (pe_ix ix_tup (pv 4) pe_int (fun _ _ => rfl)) pa_nil)))) (pe_un un_neg pe_int) (fun _ _ => rfl)) pa_nil)))
        (pe_call GC (hr.mono (by decide)) (by rfl) mC FC.kp bC .nil pass0 (pa_cons (pv 2) (pa_cons (pe_ix ix_tup (pv 4) pe_int (fun _ _ => rfl)) pa_nil)))) (pv 5) (nomark _)))))), ?_⟩
    refine ⟨_, rfl, _, rfl, _, rfl, _, rfl, a, g, c, b, W, s, cs, gs, rfl, pre, hb, nu, fun H1 e1 => ?_⟩
    refine ⟨_, rfl, _, rfl, _, rfl, _, rfl, a, g, c, b, W, s, cs, gs, rfl, pre.ev e1, e1.tup hb, nu, fun H2 m net row' e2 hp hn => ?_⟩
    obtain ⟨r2, hm1, hm2⟩ := hp
    have e12 := e1.trans e2
    obtain ⟨rv, hv1, hv2⟩ := hv.ev e12
    have pre2 := pre.ev e12
    refine ⟨_, _, _, _, rfl, rfl, SqT.of hm1, rfl, ?_⟩
    refine ⟨_, rfl, _, _, .type "tuple", .type "tuple", true, rfl, .ty _, .base (.tup hv1), kit_ty (by decide +kernel), _, rfl, iteF ?_⟩
    refine ⟨_, rfl, _, _, rfl, .inr (SqT.of hv1), rfl, _, rfl, iteF ?_⟩
    refine ⟨_, rfl, _, _, _, _, rfl, rfl, SqT.of hv1, rfl, _, rfl, _, rfl, _, _, _, rfl, _, rfl, ?_⟩
    by_cases hz : z = net
    · have hd : decide (net ≤ z ∧ z ≤ net) = true := decide_eq_true (by omega)
      rw [hd]
      refine iteF ?_
      refine ⟨_, rfl, _, rfl, _, _, _, _, rfl, rfl, SqT.of hv1, rfl, a, W, rv, row, rfl, pre2.web, hv2, hin, hl, pre2.tb, fun H3 e3 => ⟨_, rfl, iteF ?_⟩⟩
      have pre3 := pre2.ev e3
      have e13 := e12.trans e3
      have hv13 := e3.tup hv1
      have hv23 : TI H3 rv row := e3.tup hv2
      refine ⟨_, rfl, _, rfl, _, rfl, _, rfl, _, _, _, _, rfl, rfl, SqT.of hv13, rfl, a, W, g, s, rv, row, rfl, pre3.web, pre3.ok.hi, pre3.st, pre3.lot, hv23, hin, hl, fun H4 l xs t e4 l4 hx ht => ?_⟩
      have e4' : Ev T H3 H4 := .of_same e4
      have pre4 := pre3.ev e4'
      have lr := run_lot (W := W) pre.lot hin
      have lrl := lot_len lr
      have := pre.ok.hi
      refine ⟨_, rfl, l, _, _, _, rfl, rfl, SqL.of l4, atI_last _ _, b, gs, t, _, rfl, e4'.tup (e13.tup hb), nu.rg, ht, (by rw [nu.len]; exact lr.rg), by omega, pre4.tb, fun H5 e5 => ?_⟩
      have pre5 := pre4.ev e5
      have hv15 := e5.tup (e4'.tup hv13)
      refine ⟨_, rfl, _, rfl, _, _, _, _, rfl, rfl, SqT.of hv15, rfl, c, cs, rv, row, rfl, pre5.tc, pre5.nu.rg, e5.tup (e4'.tup hv23), (by rw [pre5.nu.len]; exact hin), by omega, pre5.tb, fun H6 e6 => ?_⟩
      refine ⟨_, _, rfl, rfl, _, rfl, rfl, ?_⟩
      have hq := q H6 net row' (((e13.trans e4').trans e5).trans e6) hn
      rw [decide_eq_true hz, Bool.true_and] at hq
      have ee : decide (V.int (sumAt gs (run W s row) - sumAt cs row) = V.int net) = decide (sumAt gs (run W s row) - sumAt cs row = net) := decide_eq_decide.mpr ⟨fun h => V.int.inj h, fun h => by rw [h]⟩
      show Q (.bl (decide (V.int (sumAt gs (run W s row) - sumAt cs row) = V.int net))) H6
      rw [ee]
      exact hq
    · have hd : decide (net ≤ z ∧ z ≤ net) = false := decide_eq_false (by omega)
      rw [hd]
      have hq := q H2 net row' e12 hn
      rw [decide_eq_false hz, Bool.false_and] at hq
      exact iteT (iteT hq)
abbrev sNP : Stmt := topS 39
theorem scNP : FnScope ["web", "start", "goal", "costs"] ["web", "start", "goal", "costs"] (defScope sNP) := ⟨rfl, rfl, rfl, by decide +kernel, rfl, by decide +kernel, by decide +kernel⟩
theorem ok_needPr {f fG fI fC : Addr} {fd fdG fdI fdC : FuncData} (F : FnP K "need_priced" sNP f fd) (FG : FnP K "need_gathering" sNG fG fdG) (mG : mg "need_gathering" = some (.ref fG)) (GG : FnOk P w K mg base CX0 5 fG fdG ["web", "gathering"] (spNeedG T))
    (FI : FnP K "is_gathering" sIsG fI fdI) (mI : mg "is_gathering" = some (.ref fI)) (GI : FnOk P w K mg base CX0 4 fI fdI ["web", "value"] (spIsG T))
    (FC : FnP K "need_row_costs" sNRC fC fdC) (mC : mg "need_row_costs" = some (.ref fC)) (GC : FnOk P w K mg base CX0 3 fC fdC ["web", "costs"] (spNeedN T)) : FnOk P w K mg base CX0 6 f fd ["web", "start", "goal", "costs"] (spNeedPr T) := by
  have bG : Binds K fdG ["web", "gathering"] [] := FG.bindsN fun _ _ _ _ _ _ us hl => match us, hl with | [_, _], _ => rfl
  have bI : Binds K fdI ["web", "value"] [] := FI.bindsN fun _ _ _ _ _ _ us hl => match us, hl with | [_, _], _ => rfl
  have bC : Binds K fdC ["web", "costs"] [] := FC.bindsN fun _ _ _ _ _ _ us hl => match us, hl with | [_, _], _ => rfl
  refine okN F scNP (fun vs H Q E h => ?_) (fun cdv A outer s0 H vs Q E hr h => ?_)
  · obtain ⟨_, _, _, _, _, _, _, _, rfl, _⟩ := h
    rfl
  · obtain ⟨a, g, o, c, W, s, t, cs, rfl, pre, ho, lt, gt, q⟩ := h
    refine ⟨_, pss_cons (ps_expr (pe_call GG hr (by rfl) mG FG.kp bG .nil pass0 (pa_cons (pv 0) (pa_cons (pv 1) pa_nil))))
      (pss_cons (ps_if (pt_not (pt_val (pe_call GI (hr.mono (by decide)) (by rfl) mI FI.kp bI .nil pass0 (pa_cons (pv 0) (pa_cons (pv 2) pa_nil))))) pss_never pss_nil)
      (pss_one (ps_expr (pe_call GC (hr.mono (by decide)) (by rfl) mC FC.kp bC .nil pass0 (pa_cons (pv 0) (pa_cons (pv 3) pa_nil)))))), ?_⟩
    refine ⟨_, rfl, _, rfl, a, W, g, s, rfl, pre.web, pre.ok, pre.st, pre.lot, pre.ga, pre.tb, fun H1 e1 => ?_⟩
    have p1 := pre.ev e1
    refine ⟨_, rfl, _, rfl, a, W, o, t, rfl, p1.web, p1.ok.hi, e1.tup ho, lt, p1.tb, fun H2 e2 => ⟨_, rfl, ?_⟩⟩
    rw [gt]
    have p2 := p1.ev e2
    exact iteF ⟨_, rfl, _, rfl, a, W, c, cs, rfl, p2.web, p2.tc, p2.nu, p2.tb, fun H3 e3 => q _ ((e1.trans e2).trans e3)⟩
theorem get_found {H : Hp} {d o : Addr} {qs : List FE} {t : List Int} (v : FE → Addr) (nd : (qs.map fun q => q.e.key).Nodup) (hd : H d = some (.dT (qs.map (enc v)))) (ho : TI H o t) :
    (∃ x ∈ qs, x.e.key = t ∧ DGet H d (.ref o) (some (.ref (v x)))) ∨ ((∀ x ∈ qs, x.e.key ≠ t) ∧ DGet H d (.ref o) none) := by
  have hg := DGet.t hd (TI.k ho)
  by_cases h : ∃ x, x ∈ qs ∧ x.e.key = t
  · obtain ⟨x, hx, hk⟩ := h
    refine .inl ⟨x, hx, hk, ?_⟩
    rw [← hk, valV_at (v := v) nd hx] at hg
    exact hg
  · refine .inr ⟨fun x hx hk => h ⟨x, hx, hk⟩, ?_⟩
    have hn : valV (qs.map (enc v)) (kK t) = none := by
      have h1 : (valV (qs.map (enc v)) (kK t)).isSome = false := by
        rw [valV_none]
        exact List.any_eq_false.mpr fun x hx => by simpa using fun hk => h ⟨x, hx, hk⟩
      cases hz : valV (qs.map (enc v)) (kK t) with
      | none => rfl
      | some y =>
        rw [hz] at h1
        cases h1
    rw [hn] at hg
    exact hg
abbrev sCh : Stmt := topS 40
theorem scCh : FnScope ["web", "start", "goal", "costs"] ["web", "start", "goal", "costs"] (defScope sCh) := ⟨rfl, rfl, rfl, by decide +kernel, rfl, by decide +kernel, by decide +kernel⟩
theorem ok_cheap {f fN fR : Addr} {fd fdN fdR : FuncData} (F : FnP K "cheap_row" sCh f fd) (FN : FnP K "need_priced" sNP fN fdN) (mN : mg "need_priced" = some (.ref fN)) (GN : FnOk P w K mg base CX0 6 fN fdN ["web", "start", "goal", "costs"] (spNeedPr T))
    (FR : FnP K "cheapest_rows" sRows fR fdR) (mR : mg "cheapest_rows" = some (.ref fR)) (GR : FnOk P w K mg base CX0 3 fR fdR ["web", "start", "costs"] (spRows T)) : FnOk P w K mg base CX0 7 f fd ["web", "start", "goal", "costs"] (spCheap T) := by
  have bN : Binds K fdN ["web", "start", "goal", "costs"] [] := FN.bindsN fun _ _ _ _ _ _ us hl => match us, hl with | [_, _, _, _], _ => rfl
  have bR : Binds K fdR ["web", "start", "costs"] [] := FR.bindsN fun _ _ _ _ _ _ us hl => match us, hl with | [_, _, _], _ => rfl
  refine okN F scCh (fun vs H Q E h => ?_) (fun cdv A outer s0 H vs Q E hr h => ?_)
  · obtain ⟨_, _, _, _, _, _, _, _, rfl, _⟩ := h
    rfl
  · obtain ⟨a, g, o, c, W, s, t, cs, rfl, pre, ho, lt, gt, q0, q1⟩ := h
    have hu := hu_of hr
    refine ⟨_, pss_cons (ps_expr (pe_call GN hr (by rfl) mN FN.kp bN .nil pass0 (pa_cons (pv 0) (pa_cons (pv 1) (pa_cons (pv 2) (pa_cons (pv 3) pa_nil))))))
      (pss_one (ps_ret (pe_dget2 hu (pe_call GR (hr.mono (by decide)) (by rfl) mR FR.kp bR .nil pass0 (pa_cons (pv 0) (pa_cons (pv 1) (pa_cons (pv 3) pa_nil)))) (pv 2) pe_non ⟨rfl, rfl, rfl, rfl⟩))), ?_⟩
    refine ⟨_, rfl, _, rfl, _, rfl, _, rfl, a, g, o, c, W, s, t, cs, rfl, pre, ho, lt, gt, fun H1 e1 => ?_⟩
    refine ⟨_, rfl, _, rfl, _, rfl, a, g, c, W, s, cs, rfl, pre.ev e1, fun H2 d es e2 fa dn => ?_⟩
    obtain ⟨qs, rfl, hd, hat⟩ := fa
    have e12 := e1.trans e2
    have nd2 : (qs.map fun q => q.e.key).Nodup := by
      have := dn.nd
      rw [List.map_map] at this
      exact this
    refine ⟨d, rfl, .inr ⟨_, .inl hd⟩, _, rfl, ?_⟩
    rcases get_found (·.p) nd2 hd (e12.tup ho) with ⟨x, hx, hk, hg⟩ | ⟨hno, hg⟩
    · obtain ⟨h1, h2⟩ := hat x hx
      exact ⟨_, hg, q1 H2 _ x.e x.p e12 dn (List.mem_map_of_mem hx) hk ⟨x.r, h1, h2⟩⟩
    · refine ⟨_, hg, q0 H2 _ e12 dn fun e he => ?_⟩
      obtain ⟨x, hx, rfl⟩ := List.mem_map.mp he
      exact hno x hx
abbrev sSC : Stmt := topS 41
abbrev nSC : List Str := ["web", "start", "goal", "costs", "value", "found"]
theorem scSC : FnScope nSC ["web", "start", "goal", "costs", "value"] (defScope sSC) := ⟨rfl, rfl, rfl, by decide +kernel, rfl, by decide +kernel, by decide +kernel⟩
theorem ok_showsCheap {f fN fR fI fW fT fC : Addr} {fd fdN fdR fdI fdW fdT fdC : FuncData} (F : FnP K "shows_cheap_row" sSC f fd) (FN : FnP K "need_priced" sNP fN fdN) (mN : mg "need_priced" = some (.ref fN)) (GN : FnOk P w K mg base CX0 6 fN fdN ["web", "start", "goal", "costs"] (spNeedPr T))
    (FR : FnP K "cheapest_rows" sRows fR fdR) (mR : mg "cheapest_rows" = some (.ref fR)) (GR : FnOk P w K mg base CX0 3 fR fdR ["web", "start", "costs"] (spRows T))
    (FI : FnP K "is_in" sIsIn fI fdI) (mI : mg "is_in" = some (.ref fI)) (FW : FnP K "is_row" sIsRow fW fdW) (mW : mg "is_row" = some (.ref fW)) (GW : FnOk P w K mg base CX0 3 fW fdW ["web", "value"] (spIsRow T))
    (FT : FnP K "trace" sTrace fT fdT) (mT : mg "trace" = some (.ref fT)) (GT : FnOk P w K mg base CX0 3 fT fdT ["web", "gathering", "row"] spTrace)
    (FC : FnP K "cost_of" sCost fC fdC) (mC : mg "cost_of" = some (.ref fC)) (GC : FnOk P w K mg base CX0 1 fC fdC ["costs", "lot"] (spSum T)) (B : Bt mg) : FnOk P w K mg base CX0 7 f fd ["web", "start", "goal", "costs", "value"] (spShowsCheap T) := by
  have GI : FnOk P w K mg base CX0 1 fI fdI ["value", "least", "most"] spIsIn := ok_isIn FI B
  have bI : Binds K fdI ["value", "least", "most"] [] := FI.bindsN fun _ _ _ _ _ _ us hl => match us, hl with | [_, _, _], _ => rfl
  have bN : Binds K fdN ["web", "start", "goal", "costs"] [] := FN.bindsN fun _ _ _ _ _ _ us hl => match us, hl with | [_, _, _, _], _ => rfl
  have bR : Binds K fdR ["web", "start", "costs"] [] := FR.bindsN fun _ _ _ _ _ _ us hl => match us, hl with | [_, _, _], _ => rfl
  have bW : Binds K fdW ["web", "value"] [] := FW.bindsN fun _ _ _ _ _ _ us hl => match us, hl with | [_, _], _ => rfl
  have bT : Binds K fdT ["web", "gathering", "row"] [] := FT.bindsN fun _ _ _ _ _ _ us hl => match us, hl with | [_, _, _], _ => rfl
  have bC : Binds K fdC ["costs", "lot"] [] := FC.bindsN fun _ _ _ _ _ _ us hl => match us, hl with | [_, _], _ => rfl
  refine okN F scSC (fun vs H Q E h => ?_) (fun cdv A outer s0 H vs Q E hr h => ?_)
  · obtain ⟨_, _, _, _, _, _, _, rfl, _⟩ := h
    rfl
  · obtain ⟨a, g, c, v, W, s, cs, rfl, pre, hv, q⟩ := h
    have hu := hu_of hr
    have hu64 : (A.deeper (envOfC "shows_cheap_row" (defScope sSC) s0.heap.objs.size f cdv)).units + 64 < cLine := hr.units
    refine ⟨_, pss_cons (ps_expr (pe_call GN hr (by rfl) mN FN.kp bN .nil pass0 (pa_cons (pv 0) (pa_cons (pv 1) (pa_cons (pv 2) (pa_cons (pv 3) pa_nil))))))
      (pss_cons (ps_set (i := 5) scSC.nd rfl (.inl rfl) (pe_dget2 hu (pe_call GR (hr.mono (by decide)) (by rfl) mR FR.kp bR .nil pass0 (pa_cons (pv 0) (pa_cons (pv 1) (pa_cons (pv 3) pa_nil)))) (pv 2) pe_non ⟨rfl, rfl, rfl, rfl⟩))
      (pss_cons (ps_if (pw_or (pt_cmp (pc_isN (pv 5))) (pw_or1 (pt_cmp (pc_isN (pv 4))))).pt pss_never pss_nil)
      (pss_cons (ps_if (pw_or (pt_not (pt_val (pe_callB call_isi (by rfl) B.isi (by decide +kernel) (pa_cons (pv 4) (pa_cons (pe_bltn (v := .ty "tuple") (by rfl) B.tuple (by decide +kernel) rfl) pa_nil)))))
          (pw_or (pt_cmpR op_ne (pe_callB call_len_seq (by rfl) B.len PySem.boot_len (pa_cons (pv 4) pa_nil)) pe_int (nomark _))
          (pw_or1 (pt_not (pt_val (pe_call GI (hr.mono (by decide)) (by rfl) mI FI.kp bI .nil pass0 (pa_cons (pe_ix ix_tup (pv 4) pe_int (fun _ _ => rfl)) (pa_cons (pe_ix ix_tup (pv 5) pe_int (fun _ _ => rfl)) (pa_cons (pe_ix ix_tup (pv 5) pe_int (fun _ _ => rfl)) pa_nil))))))))).pt pss_never pss_nil)
      (pss_one (ps_ret (pe_and (pe_call GW (hr.mono (by decide)) (by rfl) mW FW.kp bW .nil pass0 (pa_cons (pv 0) (pa_cons (pe_ix ix_tup (pv 4) pe_int (fun _ _ => rfl)) pa_nil)))
        (pe_and (pe_cmpR (op_eqD hu64) (pe_ix ix_list (pe_call GT (hr.mono (by decide)) (by rfl) mT FT.kp bT .nil pass0 (pa_cons (pv 0) (pa_cons (pv 1) (pa_cons (pe_ix ix_tup (pv 4) pe_int (fun _ _ => rfl)) pa_nil)))) (pe_un un_neg pe_int) (fun _ _ => rfl)) (pv 2) (nomark _))
        (pe_one (pe_cmpR op_eq (pe_call GC (hr.mono (by decide)) (by rfl) mC FC.kp bC .nil pass0 (pa_cons (pv 3) (pa_cons (pe_ix ix_tup (pv 4) pe_int (fun _ _ => rfl)) pa_nil))) (pe_ix ix_tup (pv 5) pe_int (fun _ _ => rfl)) (nomark _)))))))))), ?_⟩
    refine ⟨_, rfl, _, rfl, _, rfl, _, rfl, a, g, g, c, W, s, s, cs, rfl, pre, pre.st, pre.lot, pre.ga, fun H1 e1 => ?_⟩
    refine ⟨_, rfl, _, rfl, _, rfl, a, g, c, W, s, cs, rfl, pre.ev e1, fun H2 d es e2 fa dn => ?_⟩
    obtain ⟨qs, rfl, hd, hat⟩ := fa
    have e12 := e1.trans e2
    have pre2 := pre.ev e12
    have nd2 : (qs.map fun q => q.e.key).Nodup := by
      have := dn.nd
      rw [List.map_map] at this
      exact this
    obtain ⟨x, hx, hxe⟩ := List.mem_map.mp dn.st
    have hxk : x.e.key = s := by rw [hxe]
    have hget : DGet H2 d (.ref g) (some (.ref x.p)) := by
      have hg := DGet.t hd (TI.k (e12.tup pre.st))
      have hv := valV_at (v := (·.p)) nd2 hx
      rw [hxk] at hv
      rw [← hv]
      exact hg
    obtain ⟨h1, h2⟩ := hat x hx
    have h1 : H2 x.p = some (.tup [.int 0, .ref x.r]) := by
      rw [h1, hxe]
    refine ⟨d, rfl, .inr ⟨_, .inl hd⟩, _, rfl, _, hget, ?_⟩
    obtain ⟨rv, hv1, hv2⟩ := hv.ev e12
    refine ⟨_, rfl, _, rfl, iteF ⟨_, rfl, _, rfl, iteF ?_⟩⟩
    refine ⟨_, rfl, _, _, .type "tuple", .type "tuple", true, rfl, .ty _, .base (.tup hv1), kit_ty (by decide +kernel), _, rfl, iteF ?_⟩
    refine ⟨_, rfl, _, _, rfl, .inr (SqT.of hv1), rfl, _, rfl, iteF ?_⟩
    refine ⟨_, rfl, _, _, _, _, rfl, rfl, SqT.of hv1, rfl, _, rfl, _, _, _, _, rfl, rfl, SqT.of h1, rfl, _, rfl, _, _, _, _, rfl, rfl, SqT.of h1, rfl, _, _, _, rfl, _, rfl, iteF ?_⟩
    have hnil : In W.n [] := fun x hx => nomatch hx
    refine ⟨_, rfl, _, rfl, _, _, _, _, rfl, rfl, SqT.of hv1, rfl, a, W, rv, [], rfl, pre2.web, hv2, hnil, Nat.zero_le _, pre2.tb, fun H3 e3 => ⟨_, rfl, iteT ?_⟩⟩
    have pre3 := pre2.ev e3
    have hv13 := e3.tup hv1
    have hv23 : TI H3 rv [] := e3.tup hv2
    refine ⟨_, rfl, _, rfl, _, rfl, _, _, _, _, rfl, rfl, SqT.of hv13, rfl, a, W, g, s, rv, [], rfl, pre3.web, pre3.ok.hi, pre3.st, pre3.lot, hv23, hnil, Nat.zero_le _, fun H4 l xs t e4 l4 hxl ht => ?_⟩
    have e4' : Ev T H3 H4 := .of_same e4
    have pre4 := pre3.ev e4'
    have ht : TI H4 t s := ht
    refine ⟨_, rfl, l, _, _, _, rfl, rfl, SqL.of l4, atI_last _ _, _, rfl, tD s, tD s, dpT (SqT.of ht), dpT (SqT.of pre4.st), shaped_tD s, shaped_tD s, ?_⟩
    rw [eqv_tD, decide_eq_true rfl]
    refine ⟨_, rfl, iteT ?_⟩
    refine ⟨_, rfl, _, rfl, _, _, _, _, rfl, rfl, SqT.of (e4'.tup hv13), rfl, c, cs, rv, [], rfl, pre4.tc, pre4.nu.rg, e4'.tup hv23, (fun x hx => nomatch hx), Nat.zero_le _, pre4.tb, fun H5 e5 => ?_⟩
    refine ⟨_, rfl, _, _, _, _, rfl, rfl, SqT.of ((e3.trans (e4'.trans e5)).tup h1), rfl, rfl, ?_⟩
    exact q _ (((e12.trans e3).trans e4').trans e5)
abbrev sNE : Stmt := topS 44
theorem scNE : FnScope ["web", "start", "goal"] ["web", "start", "goal"] (defScope sNE) := ⟨rfl, rfl, rfl, by decide +kernel, rfl, by decide +kernel, by decide +kernel⟩
theorem ok_needEnds {f fG fI : Addr} {fd fdG fdI : FuncData} (F : FnP K "need_ends" sNE f fd) (FG : FnP K "need_gathering" sNG fG fdG) (mG : mg "need_gathering" = some (.ref fG)) (GG : FnOk P w K mg base CX0 5 fG fdG ["web", "gathering"] (spNeedG T))
    (FI : FnP K "is_gathering" sIsG fI fdI) (mI : mg "is_gathering" = some (.ref fI)) (GI : FnOk P w K mg base CX0 4 fI fdI ["web", "value"] (spIsG T)) : FnOk P w K mg base CX0 6 f fd ["web", "start", "goal"] (spNeedEnds T) := by
  have bG : Binds K fdG ["web", "gathering"] [] := FG.bindsN fun _ _ _ _ _ _ us hl => match us, hl with | [_, _], _ => rfl
  have bI : Binds K fdI ["web", "value"] [] := FI.bindsN fun _ _ _ _ _ _ us hl => match us, hl with | [_, _], _ => rfl
  refine okN F scNE (fun vs H Q E h => ?_) (fun cdv A outer s0 H vs Q E hr h => ?_)
  · obtain ⟨_, _, _, _, _, _, rfl, _⟩ := h
    rfl
  · obtain ⟨a, g, o, W, s, t, rfl, hW, ok, hg, ls, gs, ho, lt, gt, hT, q⟩ := h
    refine ⟨_, pss_cons (ps_expr (pe_call GG hr (by rfl) mG FG.kp bG .nil pass0 (pa_cons (pv 0) (pa_cons (pv 1) pa_nil))))
      (pss_one (ps_if (pt_not (pt_val (pe_call GI (hr.mono (by decide)) (by rfl) mI FI.kp bI .nil pass0 (pa_cons (pv 0) (pa_cons (pv 2) pa_nil))))) pss_never pss_nil)), ?_⟩
    refine ⟨_, rfl, _, rfl, a, W, g, s, rfl, hW, ok, hg, ls, gs, hT, fun H1 e1 => ?_⟩
    refine ⟨_, rfl, _, rfl, a, W, o, t, rfl, hW.ev e1, ok.hi, e1.tup ho, lt, e1.2 hT, fun H2 e2 => ⟨_, rfl, ?_⟩⟩
    rw [gt]
    exact iteF (q _ (e1.trans e2))
abbrev sDist : Stmt := topS 45
theorem scDist : FnScope ["web", "start", "goal", "row"] ["web", "start", "goal"] (defScope sDist) := ⟨rfl, rfl, rfl, by decide +kernel, rfl, by decide +kernel, by decide +kernel⟩
theorem ok_dist {f fN fR : Addr} {fd fdN fdR : FuncData} (F : FnP K "distance" sDist f fd) (FN : FnP K "need_ends" sNE fN fdN) (mN : mg "need_ends" = some (.ref fN)) (GN : FnOk P w K mg base CX0 6 fN fdN ["web", "start", "goal"] (spNeedEnds T))
    (FR : FnP K "rows_from" sRF fR fdR) (mR : mg "rows_from" = some (.ref fR)) (GR : FnOk P w K mg base CX0 3 fR fdR ["web", "start"] (spRowsFrom T)) (B : Bt mg) : FnOk P w K mg base CX0 7 f fd ["web", "start", "goal"] (spDist T) := by
  have bN : Binds K fdN ["web", "start", "goal"] [] := FN.bindsN fun _ _ _ _ _ _ us hl => match us, hl with | [_, _, _], _ => rfl
  have bR : Binds K fdR ["web", "start"] [] := FR.bindsN fun _ _ _ _ _ _ us hl => match us, hl with | [_, _], _ => rfl
  refine okN F scDist (fun vs H Q E h => ?_) (fun cdv A outer s0 H vs Q E hr h => ?_)
  · obtain ⟨_, _, _, _, _, _, rfl, _⟩ := h
    rfl
  · obtain ⟨a, g, o, W, s, t, rfl, hW, ok, hg, ls, gs, ho, lt, gt, hT, q0, q1⟩ := h
    have hu := hu_of hr
    refine ⟨_, pss_cons (ps_expr (pe_call GN hr (by rfl) mN FN.kp bN .nil pass0 (pa_cons (pv 0) (pa_cons (pv 1) (pa_cons (pv 2) pa_nil)))))
      (pss_cons (ps_set (i := 3) scDist.nd rfl (.inl rfl) (pe_dget2 hu (pe_call GR (hr.mono (by decide)) (by rfl) mR FR.kp bR .nil pass0 (pa_cons (pv 0) (pa_cons (pv 1) pa_nil))) (pv 2) pe_non ⟨rfl, rfl, rfl, rfl⟩))
      (pss_one (ps_ret (pe_ifExp (pt_cmp (pc_isN (pv 3))) pe_non (pe_callB call_len_seq (by rfl) B.len PySem.boot_len (pa_cons (pv 3) pa_nil)))))), ?_⟩
    refine ⟨_, rfl, _, rfl, _, rfl, a, g, o, W, s, t, rfl, hW, ok, hg, ls, gs, ho, lt, gt, hT, fun H1 e1 => ?_⟩
    refine ⟨_, rfl, _, rfl, a, g, W, s, rfl, hW.ev e1, ok, e1.tup hg, ls, gs, e1.2 hT, fun H2 d es e2 fa dn => ?_⟩
    obtain ⟨qs, rfl, hd, hat⟩ := fa
    have e12 := e1.trans e2
    have nd2 : (qs.map fun q => q.e.key).Nodup := by
      have := dn.nd
      rw [List.map_map] at this
      exact this
    refine ⟨d, rfl, .inr ⟨_, .inl hd⟩, _, rfl, ?_⟩
    rcases get_found (·.r) nd2 hd (e12.tup ho) with ⟨x, hx, hk, hg⟩ | ⟨hno, hg⟩
    · refine ⟨_, hg, _, rfl, _, rfl, iteF ⟨_, rfl, _, _, rfl, .inr (SqT.of (hat x hx)), ?_⟩⟩
      rw [List.length_map]
      exact q1 H2 _ x.e e12 dn (List.mem_map_of_mem hx) hk
    · refine ⟨_, hg, _, rfl, _, rfl, iteT (q0 H2 _ e12 dn fun e he => ?_)⟩
      obtain ⟨x, hx, rfl⟩ := List.mem_map.mp he
      exact hno x hx
end
end Fo

end FoW12
section FoL1
set_option Elab.async false
set_option linter.all false
set_option maxRecDepth 100000
set_option maxHeartbeats 4000000
namespace Fo
open PySem PySem.Spec PyProof.Rows L2 FoS PySem.W
theorem SqS.sq {K : PySem.W.Frag} {H : Hp} {sc l : Addr} {xs : List V} (h : SqS K H l sc xs) : SqL K H sc xs := by
  rcases h with ⟨_, h⟩ | h
  · exact .inl h
  · exact .inr h
theorem SqS.upd {K : PySem.W.Frag} {H : Hp} {sc l : Addr} {xs : List V} {o : HO} (h : SqS K H l sc xs) : SqS K (L2.upd H l o) l sc xs := by
  rcases h with ⟨ne, h | ⟨ob, h⟩⟩ | h
  · exact .inl ⟨ne, .inl (by rw [upd_ne ne]; exact h)⟩
  · exact .inl ⟨ne, .inr ⟨ob, by rw [upd_ne ne]; exact h⟩⟩
  · exact .inr h
theorem SqS.new {K : PySem.W.Frag} {H : Hp} {sc l : Addr} {xs : List V} {o : HO} (h : SqL K H sc xs) (nl : H l = none) : SqS K (L2.upd H l o) l sc xs := by
  rcases h with (h | ⟨ob, h⟩) | h
  · have ne := ne_of_none h nl
    exact .inl ⟨ne, .inl (by rw [upd_ne ne]; exact h)⟩
  · have ne := ne_of_none h nl
    exact .inl ⟨ne, .inr ⟨ob, by rw [upd_ne ne]; exact h⟩⟩
  · exact .inr h
section
variable {P : Program} {w : World} {K : PySem.W.Frag} {mg : Str → Option Value} {base : Heap} {T : TT}
abbrev sTk : Stmt := topS 47
abbrev nTk : List Str := ["_law_row_here", "_law_many", "_law_found", "_law_cell"]
theorem scTk : FnScope nTk ["_law_row_here", "_law_many"] (defScope sTk) := ⟨rfl, rfl, rfl, by decide +kernel, rfl, by decide +kernel, by decide +kernel⟩
theorem ok_taken {f : Addr} {fd : FuncData} (F : FnP K "_law_taken" sTk f fd) (B : Bt mg) : FnOk P w K mg base CX0 1 f fd ["_law_row_here", "_law_many"] (spTaken K) := by
  refine okN F scTk (fun vs H Q E h => ?_) (fun cdv A outer s0 H vs Q E hr h => ?_)
  · obtain ⟨_, _, _, _, rfl, _⟩ := h
    rfl
  · obtain ⟨l, sc, ns, m, rfl, hR, m0, m1, q⟩ := h
    refine ⟨_, pss_cons (ps_if (pt_cmpR op_gt (pe_ix ix_list (pv 0) pe_int (fun _ _ => rfl)) pe_int (nomark _))
        (pss_cons (ps_set (i := 2) scTk.nd rfl (.inl rfl) (pe_op op_mod (pe_callTy call_int1 (by rfl) B.int (by decide +kernel) (pa_cons (pe_ix ix_list (pv 0) pe_int (fun _ _ => rfl)) pa_nil)) (pv 1)))
        (pss_cons (ps_asg (pe_op op_fdiv (pe_ix ix_list (pv 0) pe_int (fun _ _ => rfl)) (pv 1)) (pg_sub (pv 0) pe_int set_list (by intro _; rfl)))
        (pss_one (ps_ret (pv 2))))) pss_nil)
      (pss_cons (ps_asg (pe_op op_add (pe_ix ix_list (pv 0) pe_int (fun _ _ => rfl)) pe_int) (pg_sub (pv 0) pe_int set_list (by intro _; rfl)))
      (pss_cons (ps_if (pt_cmpR op_gt (pe_ix ix_list (pv 0) pe_int (fun _ _ => rfl)) (pe_callB call_len_seq (by rfl) B.len PySem.boot_len (pa_cons (pe_ix ix_list (pv 0) pe_int (fun _ _ => rfl)) pa_nil)) (nomark _))
        (pss_cons (ps_asg (pe_op op_mod (pe_callTy call_int1 (by rfl) B.int (by decide +kernel) (pa_cons (pe_op op_add (pe_op op_mul (pe_ix ix_list (pv 0) pe_int (fun _ _ => rfl)) pe_int) pe_int) pa_nil)) pe_int) (pg_sub (pv 0) pe_int set_list (by intro _; rfl)))
        (pss_one (ps_ret (pe_op op_mod (pe_callTy call_int1 (by rfl) B.int (by decide +kernel) (pa_cons (pe_op op_fdiv (pe_ix ix_list (pv 0) pe_int (fun _ _ => rfl)) pe_int) pa_nil)) (pv 1))))) pss_nil)
      (pss_cons (ps_set (i := 3) scTk.nd rfl (.inl rfl) (pe_ix ix_list (pe_ix ix_list (pv 0) pe_int (fun _ _ => rfl)) (pe_op op_sub (pe_ix ix_list (pv 0) pe_int (fun _ _ => rfl)) pe_int) (fun _ _ => rfl)))
      (pss_cons (ps_asg (pe_op op_mod (pe_callTy call_int1 (by rfl) B.int (by decide +kernel) (pa_cons (pe_op op_add (pe_op op_add (pe_op op_mul (pe_ix ix_list (pv 0) pe_int (fun _ _ => rfl)) pe_int) (pv 3)) pe_int) pa_nil)) pe_int) (pg_sub (pv 0) pe_int set_list (by intro _; rfl)))
      (pss_cons (ps_if (pt_cmpR op_ge (pv 3) (pe_op op_pow pe_int pe_int) (nomark _))
        (pss_one (ps_asg (pe_op op_fdiv (pv 3) (pv 1)) (pg_sub (pv 0) pe_int set_list (by intro _; rfl)))) pss_nil)
      (pss_one (ps_ret (pe_op op_mod (pe_callTy call_int1 (by rfl) B.int (by decide +kernel) (pa_cons (pv 3) pa_nil)) (pv 1))))))))), ?_⟩
    obtain ⟨hS, hlen, i, sd, r, hl, i0, s0', s1, r0⟩ := hR
    have mk : ∀ (i sd r : Int), 0 ≤ i → 0 ≤ sd → sd < 2147483647 → 0 ≤ r → RowAt K (upd H l (.lst [.ref sc, .int i, .int sd, .int r])) l sc ns := fun i sd r a b c d => ⟨hS.upd, hlen, i, sd, r, upd_same, a, b, c, d⟩
    refine ⟨_, rfl, _, _, _, _, rfl, rfl, SqL.of hl, rfl, _, _, rfl, rfl, _, rfl, ?_⟩
    refine ite2 (fun hr0 => ?_) (fun _ => ?_)
    · refine ⟨_, rfl, _, _, _, _, rfl, rfl, SqL.of hl, rfl, .inl ⟨_, rfl, _, rfl, _, _, rfl, rfl, m0, ?_⟩⟩
      refine ⟨_, rfl, _, _, _, _, rfl, rfl, SqL.of hl, rfl, _, rfl, _, _, rfl, rfl, ⟨m0, by omega⟩, _, rfl, _, _, _, _, rfl, rfl, hl, rfl, ?_⟩
      refine ⟨_, rfl, q _ _ _ (Int.emod_nonneg _ (by omega)) (Int.emod_lt_of_pos _ m0) rfl ?_⟩
      exact mk i sd (r / m) i0 s0' s1 (Int.ediv_nonneg r0 (by omega))
    · refine ⟨_, rfl, _, _, _, _, rfl, rfl, SqL.of hl, rfl, _, _, rfl, rfl, _, rfl, _, _, _, _, rfl, rfl, hl, rfl, ?_⟩
      have hR1 := mk (i + 1) sd r (by omega) s0' s1 r0
      have hl1 : upd H l (.lst [.ref sc, .int (i + 1), .int sd, .int r]) l = some (.lst [.ref sc, .int (i + 1), .int sd, .int r]) := upd_same
      show tSeq _ _ _ _ (upd H l (.lst [.ref sc, .int (i + 1), .int sd, .int r]))
      have hS1 := hR1.1.sq
      have uu : ∀ o, upd (upd H l (.lst [.ref sc, .int (i + 1), .int sd, .int r])) l o = upd H l o := fun o => upd_upd
      generalize upd H l (.lst [.ref sc, .int (i + 1), .int sd, .int r]) = H1 at hR1 hl1 hS1 uu ⊢
      refine ⟨_, rfl, _, _, _, _, rfl, rfl, SqL.of hl1, rfl, _, rfl, _, _, _, _, rfl, rfl, SqL.of hl1, rfl, _, _, rfl, .inl hS1, _, _, rfl, rfl, _, rfl, ?_⟩
      refine ite2 (fun _ => ?_) (fun hi => ?_)
      · have h2 : (0 : Int) < 2147483647 := by decide
        refine ⟨_, rfl, _, _, _, _, rfl, rfl, SqL.of hl1, rfl, _, _, rfl, rfl, .inl ⟨by omega, by omega⟩, _, _, rfl, rfl, .inl ⟨_, rfl, _, _, rfl, rfl, h2, _, rfl, _, _, _, _, rfl, rfl, hl1, rfl, ?_⟩⟩
        rw [uu]
        have hR2 := mk (i + 1) ((sd * 48271 + 11) % 2147483647) r (by omega) (Int.emod_nonneg _ (by omega)) (Int.emod_lt_of_pos _ h2) r0
        refine ⟨_, rfl, _, _, _, _, rfl, rfl, SqL.of upd_same, rfl, _, _, rfl, rfl, ⟨by decide, by decide⟩, .inl ⟨_, rfl, _, rfl, _, _, rfl, rfl, m0, ?_⟩⟩
        exact q _ _ _ (Int.emod_nonneg _ (by omega)) (Int.emod_lt_of_pos _ m0) rfl hR2
      · have hi : ¬ (i + 1 > ((ns.map V.int).length : Int)) := by simpa using hi
        rw [List.length_map] at hi
        obtain ⟨cell, hcell⟩ : ∃ z, ns[i.toNat]? = some z := ⟨_, List.getElem?_eq_getElem (by omega)⟩
        have hat := atI_nat (xs := ns.map V.int) (j := i.toNat) (v := V.int cell) (by rw [List.getElem?_map, hcell]; rfl)
        have ei : ((i.toNat : Nat) : Int) = i + 1 - 1 := by omega
        rw [ei] at hat
        have h2 : (0 : Int) < 2147483647 := by decide
        refine ⟨_, rfl, _, _, _, _, rfl, rfl, SqL.of hl1, rfl, _, rfl, _, _, _, _, rfl, rfl, SqL.of hl1, rfl, _, _, rfl, rfl, _, _, _, _, rfl, rfl, hS1, hat, ?_⟩
        refine ⟨_, rfl, _, _, _, _, rfl, rfl, SqL.of hl1, rfl, _, _, rfl, rfl, .inl ⟨by omega, by omega⟩, _, rfl, _, _, rfl, rfl, _, _, rfl, rfl, .inl ⟨_, rfl, _, _, rfl, rfl, h2, _, rfl, _, _, _, _, rfl, rfl, hl1, rfl, ?_⟩⟩
        rw [uu]
        have n1 := Int.emod_nonneg (sd * 48271 + cell + 11) (show (2147483647 : Int) ≠ 0 by decide)
        have n2 := Int.emod_lt_of_pos (sd * 48271 + cell + 11) h2
        refine ⟨_, rfl, _, _, rfl, rfl, ⟨by decide, by decide, by decide⟩, _, _, rfl, rfl, _, rfl, ?_⟩
        refine ite2 (fun hc => ?_) (fun _ => ?_)
        · have hc : cell ≥ 10 ^ 18 := by simpa using hc
          have hc0 : 0 ≤ cell := by
            have : (0 : Int) ≤ 10 ^ 18 := by decide
            omega
          refine ⟨_, rfl, _, rfl, _, _, rfl, rfl, ⟨m0, by omega⟩, _, rfl, _, _, _, _, rfl, rfl, upd_same, rfl, ?_⟩
          rw [upd_upd]
          refine ⟨_, rfl, .inl ⟨_, rfl, _, rfl, _, _, rfl, rfl, m0, ?_⟩⟩
          exact q _ _ _ (Int.emod_nonneg _ (by omega)) (Int.emod_lt_of_pos _ m0) rfl (mk (i + 1) _ (cell / m) (by omega) n1 n2 (Int.ediv_nonneg hc0 (by omega)))
        · refine ⟨_, rfl, .inl ⟨_, rfl, _, rfl, _, _, rfl, rfl, m0, ?_⟩⟩
          exact q _ _ _ (Int.emod_nonneg _ (by omega)) (Int.emod_lt_of_pos _ m0) rfl (mk (i + 1) _ r (by omega) n1 n2 r0)
end
end Fo

end FoL1
section FoL2
set_option Elab.async false
set_option linter.all false
set_option maxRecDepth 100000
set_option maxHeartbeats 4000000
namespace Fo
open PySem PySem.Spec PyProof.Rows L2 FoS PySem.W
def RowIn (H : Hp) (l sc : Addr) : Prop := ∃ i s r : Int, H l = some (.lst [.ref sc, .int i, .int s, .int r]) ∧ 0 ≤ i ∧ 0 ≤ s ∧ s < 2147483647 ∧ 0 ≤ r
theorem SqS.kb {K : PySem.W.Frag} {H H' : Hp} {sc l : Addr} {xs : List V} (h : SqS K H l sc xs) (k : KB l H H') : SqS K H' l sc xs := by
  rcases h with ⟨ne, h | ⟨ob, h⟩⟩ | h
  · exact .inl ⟨ne, .inl (k _ _ ne h)⟩
  · exact .inl ⟨ne, .inr ⟨ob, k _ _ ne h⟩⟩
  · exact .inr h
theorem RowAt.kb {K : PySem.W.Frag} {H H' : Hp} {l sc : Addr} {ns : List Int} (h : RowAt K H l sc ns) (k : KB l H H') (r : RowIn H' l sc) : RowAt K H' l sc ns := ⟨h.1.kb k, h.2.1, r⟩
theorem RowAt.in_ {K : PySem.W.Frag} {H : Hp} {l sc : Addr} {ns : List Int} (h : RowAt K H l sc ns) : RowIn H l sc := h.2.2
theorem KB.put {l m : Addr} {H H' : Hp} {o : HO} (k : KB l H H') (h0 : H m = none) : KB l H (L2.upd H' m o) := fun b u n q => by
  rw [upd_ne (ne_of_none q h0)]
  exact k b u n q
theorem RowIn.upd {H : Hp} {l m sc : Addr} {o : HO} (h : RowIn H l sc) (ne : l ≠ m) : RowIn (L2.upd H m o) l sc := by
  obtain ⟨i, s, r, hl, z⟩ := h
  exact ⟨i, s, r, by rw [upd_ne ne]; exact hl, z⟩
theorem KB.webL {l a : Addr} {H H' : Hp} {W : Web} {xs : List V} (e : KB l H H') (hl : H l = some (.lst xs)) (h : WebAt H a W) : WebAt H' a W := by
  obtain ⟨b, ps, h1, h2, h3, h4⟩ := h
  have t : ∀ {b : Addr} {ys : List V}, H b = some (.tup ys) → H' b = some (.tup ys) := fun {b ys} q => e b _ (ne_of q hl fun z => nomatch z) q
  exact ⟨b, ps, t h1, t h2, fun p hp => t (h3 p hp), h4⟩
/-- what is known while the pairs are gathered -/
structure St (l sc m : Addr) (H H' : Hp) (ps : List (Addr × Int × Int)) : Prop where
  kb : KB l H H'
  row : RowIn H' l sc
  m : H' m = some (.lst (ps.map fun p => V.ref p.1))
  ps : ∀ p ∈ ps, H' p.1 = some (.tup [.int p.2.1, .int p.2.2])
theorem St.kbt {l sc m : Addr} {H H1 H2 : Hp} {ps : List (Addr × Int × Int)} (s : St l sc m H H1 ps) (ne : m ≠ l) (k : KB l H1 H2) (r : RowIn H2 l sc) : St l sc m H H2 ps := by
  obtain ⟨i, sd, rr, hl, _⟩ := s.row
  exact ⟨s.kb.trans k, r, k _ _ ne s.m, fun p hp => k _ _ (ne_of (s.ps p hp) hl fun z => nomatch z) (s.ps p hp)⟩
theorem St.app {l sc m t : Addr} {H H1 : Hp} {ps : List (Addr × Int × Int)} {i j : Int} (s : St l sc m H H1 ps) (hm : H m = none) (hml : l ≠ m) (ht : H1 t = none) :
    St l sc m H (L2.upd (L2.upd H1 t (.tup [.int i, .int j])) m (.lst (ps.map (fun p => V.ref p.1) ++ [.ref t]))) (ps ++ [(t, i, j)]) := by
  obtain ⟨i', sd, rr, hl, _⟩ := id s.row
  have hl1 : L2.upd H1 t (.tup [.int i, .int j]) m = some (.lst (ps.map fun p => V.ref p.1)) := by
    rw [upd_ne (ne_of_none s.m ht)]
    exact s.m
  refine ⟨KB.put (KB.new s.kb ht) hm, (s.row.upd (ne_of_none hl ht)).upd hml, ?_, fun p hp => ?_⟩
  · rw [upd_same, List.map_append]
    rfl
  · rcases List.mem_append.mp hp with hp | hp
    · have h1 : L2.upd H1 t (.tup [.int i, .int j]) p.1 = some (.tup [.int p.2.1, .int p.2.2]) := by
        rw [upd_ne (ne_of_none (s.ps p hp) ht)]
        exact s.ps p hp
      rw [upd_ne (ne_of h1 hl1 fun z => nomatch z)]
      exact h1
    · rw [List.mem_singleton.mp hp]
      have h1 : L2.upd H1 t (.tup [.int i, .int j]) t = some (.tup [.int i, .int j]) := upd_same
      show L2.upd _ m _ t = _
      rw [upd_ne (ne_of h1 hl1 fun z => nomatch z)]
      exact h1
theorem near_read {σ : L2.St} {H : Hp} {Q : VK} {a b c d : Int} (h6 : σ[6]? = some (some (.int a))) (h5 : σ[5]? = some (some (.int b))) (h2 : σ[2]? = some (some (.int c))) (h4 : σ[4]? = some (some (.int d))) (q : ∀ x, Q (.bl x) H) :
    tOrV (tOp rEq (tVar 6) (tOp (rI0 fun i j => .int (i + j)) (tVar 5) (tC (.int 1)))) (tAndV (tOp rEq (tVar 5) (tC (.int 0))) (tAndV (tOp rEq (tVar 6) (tOp (rI0 fun i j => .int (i - j)) (tVar 2) (tC (.int 1)))) (tOp rEq (tVar 4) (tC (.int 1))))) σ H Q := by
  refine ⟨_, h6, _, h5, _, _, rfl, rfl, rfl, _, rfl, ite2 (fun _ => q _) (fun _ => ?_)⟩
  refine ⟨_, h5, rfl, _, rfl, ite2 (fun _ => ?_) (fun _ => q _)⟩
  refine ⟨_, h6, _, h2, _, _, rfl, rfl, rfl, _, rfl, ite2 (fun _ => ?_) (fun _ => q _)⟩
  exact ⟨_, h4, rfl, q _⟩
theorem cond_read {K : PySem.W.Frag} {σ : L2.St} {H : Hp} {l sc : Addr} {ns : List Int} {Q : Bool → Hp → Prop} {d : Int} {b : Bool} (h0 : σ[0]? = some (some (.ref l))) (h4 : σ[4]? = some (some (.int d))) (h7 : σ[7]? = some (some (.bl b))) (hR : RowAt K H l sc ns) (q : ∀ x H', KB l H H' → RowIn H' l sc → Q x H') :
    tOr (tAnd (tTest (tOp rEq (tCall (spTaken K) [] E0 (tCons (tVar 0) (tCons (tC (.int 3)) tNil))) (tC (.int 0)))) (tTest (tOp (rI0 fun i j => .bl (decide (i > j))) (tVar 4) (tC (.int 1)))))
      (tOr (tAnd (tB (tVar 7)) (tTest (tOp (rI0 fun i j => .bl (decide (i < j))) (tVar 4) (tC (.int 2)))))
        (tAnd (tTest (tOp rEq (tVar 4) (tC (.int 3)))) (tTest (tOp rEq (tCall (spTaken K) [] E0 (tCons (tVar 0) (tCons (tC (.int 2)) tNil))) (tC (.int 0)))))) σ H Q := by
  have third : ∀ H1, KB l H H1 → RowAt K H1 l sc ns → tAnd (tTest (tOp rEq (tVar 4) (tC (.int 3)))) (tTest (tOp rEq (tCall (spTaken K) [] E0 (tCons (tVar 0) (tCons (tC (.int 2)) tNil))) (tC (.int 0)))) σ H1 Q := fun H1 k1 r1 => by
    refine ⟨_, h4, rfl, _, rfl, ite2 (fun _ => ?_) (fun _ => q _ _ k1 r1.in_)⟩
    refine ⟨_, h0, l, sc, ns, 2, rfl, r1, by decide, by decide, fun H2 r xs _ _ hH r2 => ⟨rfl, _, rfl, q _ _ (k1.trans ?_) r2.in_⟩⟩
    rw [hH]
    exact KB.upd (KB.refl _ _)
  have second : ∀ H1, KB l H H1 → RowAt K H1 l sc ns → tOr (tAnd (tB (tVar 7)) (tTest (tOp (rI0 fun i j => .bl (decide (i < j))) (tVar 4) (tC (.int 2)))))
        (tAnd (tTest (tOp rEq (tVar 4) (tC (.int 3)))) (tTest (tOp rEq (tCall (spTaken K) [] E0 (tCons (tVar 0) (tCons (tC (.int 2)) tNil))) (tC (.int 0))))) σ H1 Q := fun H1 k1 r1 => by
    refine ⟨_, h7, _, rfl, ite2 (fun _ => ?_) (fun _ => iteF (third H1 k1 r1))⟩
    refine ⟨_, h4, _, _, rfl, rfl, _, rfl, ite2 (fun _ => q _ _ k1 r1.in_) (fun _ => third H1 k1 r1)⟩
  refine ⟨_, h0, l, sc, ns, 3, rfl, hR, by decide, by decide, fun H1 r xs _ _ hH r1 => ⟨rfl, _, rfl, ?_⟩⟩
  have k1 : KB l H H1 := by
    rw [hH]
    exact KB.upd (KB.refl _ _)
  refine ite2 (fun _ => ?_) (fun _ => iteF (second H1 k1 r1))
  exact ⟨_, h4, _, _, rfl, rfl, _, rfl, ite2 (fun _ => q _ _ k1 r1.in_) (fun _ => second H1 k1 r1)⟩
section
variable (K : PySem.W.Frag)
def spPick : Sp := fun vs H Q _ => ∃ (l sc p : Addr) (ns : List Int) (xs : List V), vs = [.ref l, .ref p] ∧ RowAt K H l sc ns ∧ p ≠ l ∧ H p = some (.lst xs) ∧ xs ≠ [] ∧ xs.length ≤ 100 ∧ ∀ H' v, v ∈ xs → KB l H H' → RowAt K H' l sc ns → Q v H'
def spWeb : Sp := fun vs H Q _ => ∃ (l sc : Addr) (ns : List Int), vs = [.ref l, .int 5] ∧ RowAt K H l sc ns ∧ ∀ H' a W, KB l H H' → RowAt K H' l sc ns → W.ok → WebAt H' a W → Q (.ref a) H'
end
section
variable {P : Program} {w : World} {K : PySem.W.Frag} {mg : Str → Option Value} {base : Heap} {T : TT}
abbrev sPk : Stmt := topS 48
theorem scPk : FnScope ["_law_row_here", "_law_things"] ["_law_row_here", "_law_things"] (defScope sPk) := ⟨rfl, rfl, rfl, by decide +kernel, rfl, by decide +kernel, by decide +kernel⟩
theorem ok_pick {f fT : Addr} {fd fdT : FuncData} (F : FnP K "_law_pick" sPk f fd) (FT : FnP K "_law_taken" sTk fT fdT) (mT : mg "_law_taken" = some (.ref fT)) (GT : FnOk P w K mg base CX0 1 fT fdT ["_law_row_here", "_law_many"] (spTaken K)) (B : Bt mg) :
    FnOk P w K mg base CX0 2 f fd ["_law_row_here", "_law_things"] (spPick K) := by
  have bT : Binds K fdT ["_law_row_here", "_law_many"] [] := FT.bindsN fun _ _ _ _ _ _ us hl => match us, hl with | [_, _], _ => rfl
  refine okN F scPk (fun vs H Q E h => ?_) (fun cdv A outer s0 H vs Q E hr h => ?_)
  · obtain ⟨_, _, _, _, _, rfl, _⟩ := h
    rfl
  · obtain ⟨l, sc, p, ns, xs, rfl, hR, npl, hp, hne, hlen, q⟩ := h
    refine ⟨_, pss_one (ps_ret (pe_ix ix_list (pv 1) (pe_call GT hr (by rfl) mT FT.kp bT .nil pass0 (pa_cons (pv 0) (pa_cons (pe_callB call_len_seq (by rfl) B.len PySem.boot_len (pa_cons (pv 1) pa_nil)) pa_nil))) (fun _ _ => rfl))), ?_⟩
    have h0 : 0 < xs.length := List.length_pos_iff.mpr hne
    refine ⟨_, rfl, _, rfl, _, rfl, _, _, rfl, .inl (SqL.of hp), l, sc, ns, _, rfl, hR, by omega, by omega, fun H1 r ys r0 r1 hH hR1 => ?_⟩
    have k1 : KB l H H1 := by
      rw [hH]
      exact KB.upd (KB.refl _ _)
    have hp1 := k1 p _ npl hp
    have hr' : ((r.toNat : Nat) : Int) = r := by omega
    have hat := atI_nat (xs := xs) (j := r.toNat) (v := xs[r.toNat]'(by omega)) (List.getElem?_eq_getElem (by omega))
    rw [hr'] at hat
    exact ⟨p, xs, r, _, rfl, rfl, SqL.of hp1, hat, q H1 _ (List.getElem_mem _) k1 hR1⟩
abbrev sWb : Stmt := topS 50
abbrev nWb : List Str := ["_law_row_here", "_law_most", "_law_size", "_law_pairs", "_law_way", "_law_one", "_law_other", "_law_near"]
theorem scWb : FnScope nWb ["_law_row_here", "_law_most"] (defScope sWb) := ⟨rfl, rfl, rfl, by decide +kernel, rfl, by decide +kernel, by decide +kernel⟩
theorem ok_web {f fT : Addr} {fd fdT : FuncData} (F : FnP K "_law_web" sWb f fd) (FT : FnP K "_law_taken" sTk fT fdT) (mT : mg "_law_taken" = some (.ref fT)) (GT : FnOk P w K mg base CX0 1 fT fdT ["_law_row_here", "_law_many"] (spTaken K)) (B : Bt mg) :
    FnOk P w K mg base CX0 2 f fd ["_law_row_here", "_law_most"] (spWeb K) := by
  have bT : Binds K fdT ["_law_row_here", "_law_many"] [] := FT.bindsN fun _ _ _ _ _ _ us hl => match us, hl with | [_, _], _ => rfl
  refine okN F scWb (fun vs H Q E h => ?_) (fun cdv A outer s0 H vs Q E hr h => ?_)
  · obtain ⟨_, _, _, rfl, _⟩ := h
    rfl
  · obtain ⟨l, sc, ns, rfl, hR, q⟩ := h
    refine ⟨_, pss_cons (ps_par (i := 2) (j := 3) rfl scWb.nd rfl rfl (by decide) rfl rfl (pa_cons (pe_op op_add pe_int (pe_call GT hr (by rfl) mT FT.kp bT .nil pass0 (pa_cons (pv 0) (pa_cons (pv 1) pa_nil)))) (pa_cons (pe_lst pa_nil) pa_nil)) (by rfl))
      (pss_cons (ps_set (i := 4) scWb.nd rfl (.inl rfl) (pe_call GT hr (by rfl) mT FT.kp bT .nil pass0 (pa_cons (pv 0) (pa_cons pe_int pa_nil))))
      (pss_cons (ps_for PassesOwn.never rfl (pi_range1 (by rfl) B.range (pa_cons (pv 2) pa_nil)) (pg_name (i := 5) scWb.nd rfl (Or.inl rfl))
        (pss_one (ps_for PassesOwn.never rfl (pi_range2 (by rfl) B.range (pa_cons (pe_op op_add (pv 5) pe_int) (pa_cons (pv 2) pa_nil))) (pg_name (i := 6) scWb.nd rfl (Or.inl rfl))
          (pss_cons (ps_set (i := 7) scWb.nd rfl (.inl rfl) (pe_or (pe_cmpR op_eq (pv 6) (pe_op op_add (pv 5) pe_int) (nomark _)) (pe_one (pe_and (pe_cmpR op_eq (pv 5) pe_int (nomark _)) (pe_and (pe_cmpR op_eq (pv 6) (pe_op op_sub (pv 2) pe_int) (nomark _)) (pe_one (pe_cmpR op_eq (pv 4) pe_int (nomark _))))))))
          (pss_one (ps_if (pw_or (pw_and (pt_cmpR op_eq (pe_call GT hr (by rfl) mT FT.kp bT .nil pass0 (pa_cons (pv 0) (pa_cons pe_int pa_nil))) pe_int (nomark _)) (pw_and1 (pt_cmpR op_gt (pv 4) pe_int (nomark _)))).pt
              (pw_or (pw_and (pt_val (pv 7)) (pw_and1 (pt_cmpR op_lt (pv 4) pe_int (nomark _)))).pt
              (pw_or1 (pw_and (pt_cmpR op_eq (pv 4) pe_int (nomark _)) (pw_and1 (pt_cmpR op_eq (pe_call GT hr (by rfl) mT FT.kp bT .nil pass0 (pa_cons (pv 0) (pa_cons pe_int pa_nil))) pe_int (nomark _)))).pt))).pt
            (pss_one (ps_expr (pe_bm PySem.F.plainAttrs_list PySem.F.slot_list_append PySem.F.type_list_append mt_append (pv 3) (pa_cons (pe_tup (pa_cons (pv 5) (pa_cons (pv 6) pa_nil))) pa_nil))))
            pss_nil))))))
      (pss_one (ps_ret (pe_tup (pa_cons (pv 2) (pa_cons (pe_callTy call_tuple_of (by rfl) B.tuple (by decide +kernel) (pa_cons (pv 3) pa_nil)) pa_nil))))))), ?_⟩
    refine ⟨_, rfl, _, rfl, l, sc, ns, 5, rfl, hR, by decide, by decide, fun H1 r xs r0 r5 hH1 hR1 => ⟨_, _, rfl, rfl, (by show 0 ≤ sizeLine; decide), fun m nm => ⟨_, _, rfl, ?_⟩⟩⟩
    have k1 : KB l H H1 := by
      rw [hH1]
      exact KB.upd (KB.refl _ _)
    obtain ⟨i1, sd1, rr1, hl1, _⟩ := hR1.in_
    have hlm : l ≠ m := ne_of_none hl1 nm
    have hm0 : H m = none := by
      cases hz : H m with
      | none => rfl
      | some o =>
        rw [k1 m o hlm.symm hz] at nm
        cases nm
    have st2 : St l sc m H (upd H1 m (.lst [])) [] := ⟨KB.new k1 nm, hR1.in_.upd hlm, upd_same, fun p hp => nomatch hp⟩
    generalize upd H1 m (.lst []) = H2 at st2 ⊢
    refine ⟨_, rfl, l, sc, ns, 4, rfl, hR.kb st2.kb st2.row, by decide, by decide, fun H3 wy xs3 _ _ hH3 hR3 => ?_⟩
    have st3 : St l sc m H H3 [] := st2.kbt hlm.symm (by rw [hH3]; exact KB.upd (KB.refl _ _)) hR3.in_
    have hs : 1 ≤ (1 : Int) + r ∧ (1 : Int) + r ≤ 5 := by omega
    show tSeq _ _ _ [some (.ref l), some (.int 5), some (.int (1 + r)), some (.ref m), some (.int wy), none, none, none] H3
    generalize (1 : Int) + r = z at hs ⊢
    refine ⟨_, rfl, _, rfl, by omega, by omega, ?_⟩
    refine for_range (lo := 0) (n := z.toNat) (fun k σ H4 => ∃ ps o5 o6 o7, σ = [some (.ref l), some (.int 5), some (.int z), some (.ref m), some (.int wy), o5, o6, o7] ∧ St l sc m H H4 ps ∧ (∀ p ∈ ps, 0 ≤ p.2.1 ∧ p.2.1 < p.2.2 ∧ p.2.2 < z ∧ p.2.1 < (k : Int)) ∧ (ps.map (·.2)).Pairwise lexP ∧ ps.length ≤ 5 * k)
      ⟨[], _, _, _, rfl, st3, (fun p hp => nomatch hp), List.Pairwise.nil, Nat.zero_le _⟩ ?_ ?_
    · rintro k σ H4 hk ⟨ps, o5, o6, o7, rfl, st4, hps, hpw, hlen⟩
      refine ⟨_, rfl, _, _, rfl, rfl, _, rfl, _, _, rfl, ⟨by omega, by omega, by omega, by omega⟩, ?_⟩
      refine for_range (lo := (0 : Int) + (k : Int) + 1) (n := (z - ((0 : Int) + (k : Int) + 1)).toNat) (fun j σ H5 => ∃ ps o6 o7, σ = [some (.ref l), some (.int 5), some (.int z), some (.ref m), some (.int wy), some (.int ((0 : Int) + (k : Int))), o6, o7] ∧ St l sc m H H5 ps ∧ (∀ p ∈ ps, 0 ≤ p.2.1 ∧ p.2.1 < p.2.2 ∧ p.2.2 < z ∧ (p.2.1 < (k : Int) ∨ (p.2.1 = (k : Int) ∧ p.2.2 < (k : Int) + 1 + (j : Int)))) ∧ (ps.map (·.2)).Pairwise lexP ∧ ps.length ≤ 5 * k + j)
        ⟨ps, _, _, rfl, st4, (fun p hp => by obtain ⟨a, b, c, d⟩ := hps p hp; exact ⟨a, b, c, .inl d⟩), hpw, by omega⟩ ?_ ?_
      · rintro j σ H5 hj ⟨ps, o6, o7, rfl, st5, hps5, hpw5, hlen5⟩
        refine near_read (a := (0 : Int) + (k : Int) + 1 + (j : Int)) (b := (0 : Int) + (k : Int)) (c := z) (d := wy) rfl rfl rfl rfl fun nb => ?_
        refine cond_read (K := K) (l := l) (sc := sc) (ns := ns) (d := wy) (b := nb) rfl rfl rfl (hR.kb st5.kb st5.row) fun cb H6 k6 r6 => ?_
        have st6 := st5.kbt hlm.symm k6 r6
        refine ite2 (fun _ => ?_) (fun _ => ?_)
        · refine ⟨_, rfl, .inl ⟨rfl, _, SqL.of st6.m⟩, _, rfl, _, rfl, (by show 2 ≤ sizeLine; decide), fun t nt => ?_⟩
          have hm7 : upd H6 t (.tup [.int ((0 : Int) + (k : Int)), .int ((0 : Int) + (k : Int) + 1 + (j : Int))]) m = some (.lst (ps.map fun p => V.ref p.1)) := by
            rw [upd_ne (ne_of_none st6.m nt)]
            exact st6.m
          have hl30 : ps.length ≤ 60 := by omega
          refine ⟨m, _, _, rfl, rfl, hm7, (by rw [List.length_map, sizeLine_eq]; omega), ps ++ [(t, (0 : Int) + (k : Int), (0 : Int) + (k : Int) + 1 + (j : Int))], _, _, rfl, st6.app hm0 hlm nt, fun p hp => ?_, ?_, ?_⟩
          · rcases List.mem_append.mp hp with hp | hp
            · obtain ⟨a, b, c, d⟩ := hps5 p hp
              refine ⟨a, b, c, ?_⟩
              omega
            · rw [List.mem_singleton.mp hp]
              refine ⟨?_, ?_, ?_, .inr ⟨?_, ?_⟩⟩
              · show (0 : Int) ≤ 0 + (k : Int)
                omega
              · show (0 : Int) + (k : Int) < 0 + (k : Int) + 1 + (j : Int)
                omega
              · show (0 : Int) + (k : Int) + 1 + (j : Int) < z
                omega
              · show (0 : Int) + (k : Int) = (k : Int)
                omega
              · show (0 : Int) + (k : Int) + 1 + (j : Int) < (k : Int) + 1 + ((j + 1 : Nat) : Int)
                omega
          · rw [List.map_append]
            refine List.pairwise_append.mpr ⟨hpw5, List.pairwise_singleton _ _, fun x hx y hy => ?_⟩
            obtain ⟨p, hp, rfl⟩ := List.mem_map.mp hx
            have hy : y = ((0 : Int) + (k : Int), (0 : Int) + (k : Int) + 1 + (j : Int)) := by simpa using hy
            rw [hy]
            obtain ⟨a, b, c, d⟩ := hps5 p hp
            show p.2.1 < (0 : Int) + (k : Int) ∨ (p.2.1 = (0 : Int) + (k : Int) ∧ p.2.2 < (0 : Int) + (k : Int) + 1 + (j : Int))
            omega
          · rw [List.length_append, List.length_singleton]
            omega
        · refine ⟨ps, _, _, rfl, st6, fun p hp => ?_, hpw5, by omega⟩
          obtain ⟨a, b, c, d⟩ := hps5 p hp
          refine ⟨a, b, c, ?_⟩
          omega
      · rintro σ H5 ⟨ps, o6, o7, rfl, st5, hps5, hpw5, hlen5⟩
        refine ⟨ps, _, _, _, rfl, st5, fun p hp => ?_, hpw5, ?_⟩
        · obtain ⟨a, b, c, d⟩ := hps5 p hp
          refine ⟨a, b, c, ?_⟩
          omega
        · omega
    · rintro σ H4 ⟨ps, o5, o6, o7, rfl, st4, hps, hpw, hlen⟩
      refine ⟨_, rfl, _, rfl, m, _, rfl, .inl ⟨SqL.of st4.m, fun b nb => ⟨(by show 2 ≤ sizeLine; decide), fun a na => ?_⟩⟩⟩
      have hn : ((z.toNat : Nat) : Int) = z := by omega
      have k4 : KB l H (upd (upd H4 b (.tup (ps.map fun p => V.ref p.1))) a (.tup [.int z, .ref b])) := KB.new (KB.new st4.kb nb) na
      have kk : ∀ {c : Addr} {xs : List V}, H4 c = some (.tup xs) → upd (upd H4 b (.tup (ps.map fun p => V.ref p.1))) a (.tup [.int z, .ref b]) c = some (.tup xs) := fun {c xs} e => Same.new (Same.new (Same.refl _) nb) na _ _ e
      obtain ⟨i4, sd4, rr4, hl4, z4⟩ := st4.row
      have row4 : RowIn (upd (upd H4 b (.tup (ps.map fun p => V.ref p.1))) a (.tup [.int z, .ref b])) l sc := ⟨i4, sd4, rr4, Same.new (Same.new (Same.refl _) nb) na _ _ hl4, z4⟩
      refine q _ a ⟨z.toNat, ps.map (·.2)⟩ k4 (hR.kb k4 row4) ⟨?_, ?_, fun e he => ?_, hpw, ?_⟩ ⟨b, ps, ?_, ?_, fun p hp => kk (st4.ps p hp), rfl⟩
      · show 1 ≤ z.toNat
        omega
      · show z.toNat ≤ 5
        omega
      · obtain ⟨p, hp, rfl⟩ := List.mem_map.mp he
        obtain ⟨x, y, w', v⟩ := hps p hp
        refine ⟨x, y, ?_⟩
        show p.2.2 < ((z.toNat : Nat) : Int)
        omega
      · show (ps.map (·.2)).length ≤ 1000
        rw [List.length_map]
        omega
      · rw [upd_same]
        show some (HO.tup [.int z, .ref b]) = some (HO.tup [.int ((z.toNat : Nat) : Int), .ref b])
        rw [hn]
      · have hb : upd H4 b (.tup (ps.map fun p => V.ref p.1)) b = some (.tup (ps.map fun p => V.ref p.1)) := upd_same
        rw [upd_ne (ne_of_none hb na)]
        exact hb
end
end Fo

end FoL2
section FoL3
set_option Elab.async false
set_option linter.all false
set_option maxRecDepth 100000
set_option maxHeartbeats 4000000
namespace Fo
open PySem PySem.Spec PyProof.Rows L2 FoS PySem.W
theorem catA_in {X : Cx} {K : PySem.W.Frag} (h : X.K = K) : OpR X (binaryOp .Add) (rCatA K) := by
  subst h
  exact op_catA
theorem shaped_lpairs (ps : List (Addr × Int × Int)) : SeqAt.shaped (.list (ps.map prD)) = true := by
  unfold SeqAt.shaped
  have := depth_pairs ps
  simp [PyData.canLay0, lay_pairs, PyData.depth]
  omega
theorem eqv_nil : ∀ ds : List PyData, PyData.eqv (.list ds) (.list []) = ds.isEmpty
  | [] => by simp [PyData.eqv, PyData.eqvAll]
  | d :: ds => by simp [PyData.eqv, PyData.eqvAll]
def spLIsG : Sp := fun vs H Q _ => ∃ a W t ns, vs = [.ref a, .ref t] ∧ WebAt H a W ∧ W.es.length ≤ 1000 ∧ TI H t ns ∧ ∀ H', Same H H' → Q (.bl (isG W ns)) H'
def spLG : Sp := fun vs H Q _ => ∃ a W, vs = [.ref a] ∧ WebAt H a W ∧ W.ok ∧ ∀ H' p ts, Same H H' → H p = none → TIs H' p ts → (ts.map (·.2)).Perm (gaths W) → Q (.ref p) H'
section
variable {P : Program} {w : World} {K : PySem.W.Frag} {mg : Str → Option Value} {base : Heap} {T : TT}
abbrev sLL : Stmt := topS 54
theorem scLL : FnScope ["_law_web_here", "_law_found", "_law_person", "_law_one"] ["_law_web_here"] (defScope sLL) := ⟨rfl, rfl, rfl, by decide +kernel, rfl, by decide +kernel, by decide +kernel⟩
theorem ok_lawLots {f : Addr} {fd : FuncData} (F : FnP K "_law_lots" sLL f fd) (B : Bt mg) : FnOk P w K mg base CX0 1 f fd ["_law_web_here"] spLots := by
  refine okN F scLL (fun vs H Q E h => ?_) (fun cdv A outer s H vs Q E hr h => ?_)
  · obtain ⟨_, _, rfl, _⟩ := h
    rfl
  · obtain ⟨a, W, rfl, hW, hn, q⟩ := h
    have hu : (A.deeper (envOfC "_law_lots" (defScope sLL) s.heap.objs.size f cdv)).in1.in1.units < cLine := by have := hr.un; show _ + 1 + 1 < _; omega
    refine ⟨_, pss_cons (ps_set (i := 1) scLL.nd rfl (.inl rfl) (pe_lst (pa_cons (pe_tup pa_nil) pa_nil)))
      (pss_cons (ps_for PassesOwn.never rfl (pi_range1 (by rfl) B.range (pa_cons (pe_ix ix_tup (pv 0) pe_int (fun _ _ => rfl)) pa_nil)) (pg_name (i := 2) scLL.nd rfl (Or.inr rfl))
        (pss_one (ps_set (i := 1) scLL.nd rfl (.inl rfl) (pe_op op_cat (pv 1) (pe_lc (own := [("_law_one", 3)]) (g := gName 3) (tt := tYes) rfl scLL.nd (pi_list (pv 1))
          (blkOk_by (N := ["_law_web_here", "_law_found", "_law_person", "_law_one"]) (sc := defScope sLL) (by decide +kernel)) (fun _ _ _ _ _ => pg_name (i := 3) scLL.nd rfl (Or.inl rfl)) (fun _ _ _ _ _ => pts_nil)
          (fun _ _ _ _ _ => pe_op (catA_in (K := K) rfl) (pv 3) (pe_tup (pa_cons (pv 2) pa_nil))))))))
      (pss_one (ps_ret (pe_callB (cr_sortTI hu) (by rfl) B.sorted (by decide +kernel) (pa_cons (pv 1) pa_nil))))), ?_⟩
    obtain ⟨b, ps, h1, h2, h3, h4⟩ := id hW
    refine ⟨(by show 0 ≤ sizeLine; decide), fun t0 n0 => ⟨(by show 1 ≤ sizeLine; decide), fun l0 m0 => ?_⟩⟩
    have e0 : Same H (upd (upd H t0 (.tup [])) l0 (.lst [.ref t0])) := Same.new (Same.new (Same.refl _) n0) m0
    refine ⟨_, rfl, _, _, _, _, rfl, rfl, SqT.of (e0 _ _ h1), rfl, _, rfl, by omega, by omega, for_range (lo := 0) (n := (W.n : Int).toNat) (fun i σ H2 => ∃ p ts pv ov, σ = [some (.ref a), some (.ref p), pv, ov] ∧ Same H H2 ∧ TIs H2 p ts ∧ ts.map (·.2) = lotsF i)
      ⟨l0, [(t0, [])], none, none, rfl, e0, ⟨upd_same, fun t ht => ?_⟩, rfl⟩ ?_ ?_⟩
    · rw [List.mem_singleton.mp ht]
      show upd _ l0 _ t0 = _
      rw [upd_ne (ne_of_none upd_same m0), upd_same]
      rfl
    · rintro i σ H2 hi ⟨p, ts, pv, ov, rfl, e2, ⟨l2, t2⟩, hts⟩
      have hi5 : i ≤ 4 := by omega
      have hlen : ts.length ≤ 32 := by
        have := congrArg List.length hts
        rw [List.length_map, lots_len] at this
        rw [this]
        exact pow5 (by omega)
      refine ⟨_, rfl, _, rfl, p, rfl, ⟨_, SqL.of l2⟩, fun D hD => lc_list (K := K) (a := p) (xs := ts.map fun t => V.ref t.1) (fun j H3 => ∃ us, Same H2 H3 ∧ TIs H3 D us ∧ us.map (·.2) = (ts.take j).map (fun t => t.2 ++ [(i : Int)])) ⟨[], Same.new (Same.refl _) hD, ⟨upd_same, fun t ht => nomatch ht⟩, rfl⟩
        (fun j H3 _ ⟨_, e3, _⟩ => SqL.of (e3 _ _ l2)) ?_ ?_⟩
      · rintro j x H3 hj ⟨us, e3, ⟨l3, t3⟩, hus⟩
        rw [List.getElem?_map] at hj
        obtain ⟨t, ht, rfl⟩ := Option.map_eq_some_iff.mp hj
        have hjl := (List.getElem?_eq_some_iff.mp ht).1
        have hti := t2 t (List.mem_of_getElem? ht)
        have hul : us.length ≤ 32 := by
          have := congrArg List.length hus
          rw [List.length_map, List.length_map, List.length_take] at this
          omega
        have hsm : t.2.length ≤ 5 := by
          have : t.2 ∈ lotsF i := by rw [← hts]; exact List.mem_map_of_mem (List.mem_of_getElem? ht)
          have := lots_small i _ this
          omega
        -- the new tuple stands at r in H4
        have put : ∀ (r : Addr) (H4 : Hp), Same H3 H4 → TI H4 r (t.2 ++ [(i : Int)]) → ∃ acc, H4 D = some (.lst acc) ∧ acc.length < sizeLine ∧ ∃ us', Same H2 (upd H4 D (.lst (acc ++ [.ref r]))) ∧ TIs (upd H4 D (.lst (acc ++ [.ref r]))) D us' ∧ us'.map (·.2) = (ts.take (j + 1)).map (fun t => t.2 ++ [(i : Int)]) := fun r H4 e4 hr4 => by
          have hD4 := e4 _ _ l3
          refine ⟨us.map fun t => V.ref t.1, hD4, ?_, us ++ [(r, t.2 ++ [(i : Int)])], Same.own (e3.trans e4) hD, ⟨?_, fun u hu => ?_⟩, ?_⟩
          · rw [List.length_map, sizeLine_eq]
            omega
          · rw [upd_same, List.map_append]
            rfl
          · rcases List.mem_append.mp hu with hu | hu
            · exact TI.updL (e4 _ _ (t3 u hu)) hD4
            · rw [List.mem_singleton.mp hu]
              exact TI.updL hr4 hD4
          · rw [List.map_append, hus, List.take_succ, ht, List.map_append]
            rfl
        refine ⟨rfl, ⟨_, rfl, _, rfl, (by show 1 ≤ sizeLine; decide), fun o no => ?_⟩⟩
        have eo : Same H3 (upd H3 o (.tup [.int ((0 : Int) + (i : Int))])) := Same.new (Same.refl _) no
        have ho : TI (upd H3 o (.tup [.int ((0 : Int) + (i : Int))])) o [(i : Int)] := by
          show upd H3 o _ o = _
          rw [upd_same, Int.zero_add]
          rfl
        generalize upd H3 o (.tup [.int ((0 : Int) + (i : Int))]) = H4 at eo ho ⊢
        refine ⟨t.1, o, t.2.map V.int, [(i : Int)].map V.int, rfl, rfl, SqT.of (eo _ _ (e3 _ _ hti)), SqT.of ho, ?_, fun hnil => ?_, (fun _ z => nomatch z), fun _ _ r nr => ?_⟩
        · rw [List.length_map, List.length_map]
          exact size_big (by show t.2.length + 1 ≤ 1000000; omega)
        · have : t.2 = [] := by simpa using hnil
          exact put o H4 eo (by rw [this]; exact ho)
        · refine put r _ (Same.new eo nr) ?_
          show upd H4 r _ r = _
          rw [upd_same, List.map_append]
      · rintro H3 ⟨us, e3, ⟨l3, t3⟩, hus⟩
        rw [List.length_map, List.take_length] at hus
        have hul : us.length ≤ 32 := by
          have := congrArg List.length hus
          rw [List.length_map, List.length_map] at this
          omega
        refine ⟨_, _, _, _, rfl, rfl, e3 _ _ l2, l3, ?_, fun r nr => ⟨r, ts ++ us, _, _, rfl, e2.trans (Same.new e3 nr), ⟨?_, fun t ht => ?_⟩, ?_⟩⟩
        · rw [List.length_map, List.length_map]
          exact size_big (by omega)
        · rw [upd_same, List.map_append]
        · show upd H3 r _ t.1 = _
          have : TI H3 t.1 t.2 := by
            rcases List.mem_append.mp ht with ht | ht
            · exact e3 _ _ (t2 t ht)
            · exact t3 t ht
          rw [upd_ne (ne_of_none this nr)]
          exact this
        · rw [List.map_append, hus, hts, lots_succ, ← hts, List.map_map]
          rfl
    · rintro σ H2 ⟨p, ts, pv, ov, rfl, e2, ⟨l2, t2⟩, hts⟩
      refine ⟨_, rfl, p, ts.map (·.1), rfl, SqL.of (by rw [l2, List.map_map]; rfl), fun t ht => ?_, fun ts' r pm nr => ?_⟩
      · obtain ⟨u, hu, rfl⟩ := List.mem_map.mp ht
        exact ⟨_, t2 u hu⟩
      · obtain ⟨us, rfl, pu⟩ := perm_map (fun t : Addr × List Int => t.1) pm
        have e3 : Same H2 (upd H2 r (.lst ((us.map (·.1)).map V.ref))) := Same.new (Same.refl _) nr
        refine q _ r us (e2.trans e3) ⟨by rw [upd_same, List.map_map]; rfl, fun t ht => e3 _ _ (t2 t (pu.mem_iff.mp ht))⟩ ?_
        have := pu.map (·.2)
        rw [hts, Int.toNat_natCast] at this
        exact this
abbrev sLI : Stmt := topS 55
theorem scLI : FnScope ["_law_web_here", "_law_lot", "_law_pair"] ["_law_web_here", "_law_lot"] (defScope sLI) := ⟨rfl, rfl, rfl, by decide +kernel, rfl, by decide +kernel, by decide +kernel⟩
theorem ok_lawIsG {f : Addr} {fd : FuncData} (F : FnP K "_law_is_gathering" sLI f fd) (B : Bt mg) : FnOk P w K mg base CX0 1 f fd ["_law_web_here", "_law_lot"] spLIsG := by
  refine okN F scLI (fun vs H Q E h => ?_) (fun cdv A outer s H vs Q E hr h => ?_)
  · obtain ⟨_, _, _, _, rfl, _⟩ := h
    rfl
  · obtain ⟨a, W, t, ns, rfl, hW, hfew, ht, q⟩ := h
    have hu : (A.deeper (envOfC "_law_is_gathering" (defScope sLI) s.heap.objs.size f cdv)).units + 65 < cLine := by have := hr.un; omega
    refine ⟨_, pss_one (ps_ret (pe_cmpR (op_eqD hr.units) (pe_lc (own := [("_law_pair", 2)]) (g := gName 2) rfl scLI.nd (pi_tup (pe_ix ix_tup (pv 0) pe_int (fun _ _ => rfl)))
          (blkOk_by (N := ["_law_web_here", "_law_lot", "_law_pair"]) (sc := defScope sLI) (by decide +kernel)) (fun _ _ _ _ _ => pg_name (i := 2) scLI.nd rfl (Or.inl rfl))
          (fun _ _ _ _ _ => pts_one (pw_and (pt_cmpR (inT_in (K := K) rfl hu) (pe_ix (ixT_in (K := K) rfl) (pv 2) pe_int (fun _ _ => rfl)) (pv 1) (by with_unfolding_all rfl)) (pw_and1 (pt_cmpR (inT_in (K := K) rfl hu) (pe_ix (ixT_in (K := K) rfl) (pv 2) pe_int (fun _ _ => rfl)) (pv 1) (by with_unfolding_all rfl)))).pt)
          (fun _ _ _ _ _ => pv 2)) (pe_lst pa_nil) (nomark _))), ?_⟩
    obtain ⟨b, ps, h1, h2, h3, h4⟩ := hW
    have hlen : ps.length ≤ 1000 := by
      rw [h4, List.length_map] at hfew
      exact hfew
    refine ⟨_, rfl, _, _, _, _, rfl, rfl, SqT.of h1, rfl, b, rfl, ⟨_, SqT.of h2⟩, fun D hD => ?_⟩
    let tst : Addr × Int × Int → Bool := fun p => decide (p.2.1 ∈ ns) && decide (p.2.2 ∈ ns)
    refine lc_tup (K := K) (a := b) (xs := ps.map fun p => V.ref p.1) (fun j H3 => Same H H3 ∧ H3 D = some (.lst (((ps.take j).filter tst).map fun p => V.ref p.1))) ⟨Same.new (Same.refl _) hD, upd_same⟩
        (fun j H3 _ ⟨e3, _⟩ => SqT.of (e3 _ _ h2)) ?_ ?_
    · rintro j x H3 hj ⟨e3, l3⟩
      rw [List.getElem?_map] at hj
      obtain ⟨p, hp, rfl⟩ := Option.map_eq_some_iff.mp hj
      have hjl := (List.getElem?_eq_some_iff.mp hp).1
      have g := e3 _ _ (h3 p (List.mem_of_getElem? hp))
      have ht3 := e3 _ _ ht
      have htk : (ps.take (j + 1)).filter tst = (ps.take j).filter tst ++ (if tst p = true then [p] else []) := by
        rw [List.take_succ, hp, List.filter_append]
        simp only [Option.toList_some, List.filter_cons, List.filter_nil]
      have hsz : (((ps.take j).filter tst).map fun p => V.ref p.1).length < sizeLine := by
        rw [List.length_map, sizeLine_eq]
        have := List.length_filter_le tst (ps.take j)
        rw [List.length_take] at this
        omega
      refine ⟨rfl, _, rfl, _, _, _, _, rfl, rfl, SqT.of g, rfl, _, rfl, .int p.2.1, ns.map PyData.int, .int _, .tup (SqT.of ht3) (dpI ns), shaped_int _, shaped_tD ns, _, rfl, ?_⟩
      rw [any_ints]
      by_cases m1 : p.2.1 ∈ ns
      · rw [decide_eq_true m1]
        refine iteT ⟨_, rfl, _, _, _, _, rfl, rfl, SqT.of g, rfl, _, rfl, .int p.2.2, ns.map PyData.int, .int _, .tup (SqT.of ht3) (dpI ns), shaped_int _, shaped_tD ns, _, rfl, ?_⟩
        rw [any_ints]
        by_cases m2 : p.2.2 ∈ ns
        · rw [decide_eq_true m2]
          refine iteT ⟨_, rfl, _, l3, hsz, Same.own e3 hD, ?_⟩
          have ht : tst p = true := by simp [tst, m1, m2]
          rw [upd_same, htk, if_pos ht, List.map_append]
          rfl
        · rw [decide_eq_false m2]
          refine iteF ⟨e3, ?_⟩
          have ht : ¬ tst p = true := by simp [tst, m2]
          rw [htk, if_neg ht, List.append_nil]
          exact l3
      · rw [decide_eq_false m1]
        refine iteF (iteF ⟨e3, ?_⟩)
        have ht : ¬ tst p = true := by simp [tst, m1]
        rw [htk, if_neg ht, List.append_nil]
        exact l3
    · rintro H3 ⟨e3, l3⟩
      rw [List.length_map, List.take_length] at l3
      refine ⟨(by show 0 ≤ sizeLine; decide), fun n nn => ?_⟩
      have e4 : Same H3 (upd H3 n (.lst [])) := Same.new (Same.refl _) nn
      refine ⟨.list ((ps.filter tst).map prD), .list [], .lst (SqL.of (e4 _ _ l3)) (dp_pairs fun p hp => e4 _ _ (e3 _ _ (h3 p (List.mem_filter.mp hp).1))), .lst (SqL.of upd_same) .nil, shaped_lpairs _, by simp [SeqAt.shaped, PyData.canLay0, PyData.canLayAll0, PyData.depth, PyData.depthAll], ?_⟩
      rw [eqv_nil]
      have ee : ((ps.filter tst).map prD).isEmpty = isG W ns := by
        have e1 : ((ps.filter tst).map prD).isEmpty = (ps.filter tst).isEmpty := by cases ps.filter tst <;> rfl
        rw [e1]
        unfold isG
        rw [h4, List.any_map]
        show (ps.filter tst).isEmpty = !ps.any tst
        cases hany : ps.any tst with
        | true =>
          obtain ⟨p, hp, hpt⟩ := List.any_eq_true.mp hany
          have hm : p ∈ ps.filter tst := List.mem_filter.mpr ⟨hp, hpt⟩
          cases hz : ps.filter tst with
          | nil =>
            rw [hz] at hm
            cases hm
          | cons x r => rfl
        | false =>
          have : ps.filter tst = [] := List.filter_eq_nil_iff.mpr fun p hp => by
            have := List.any_eq_false.mp hany p hp
            exact this
          rw [this]
          rfl
      rw [ee]
      exact q _ (e3.trans e4)
abbrev sLG : Stmt := topS 56
theorem scLG : FnScope ["_law_web_here", "_law_lot"] ["_law_web_here"] (defScope sLG) := ⟨rfl, rfl, rfl, by decide +kernel, rfl, by decide +kernel, by decide +kernel⟩
theorem ok_lawG {f fL fG : Addr} {fd fdL fdG : FuncData} (F : FnP K "_law_gatherings" sLG f fd) (FL : FnP K "_law_lots" sLL fL fdL) (mL : mg "_law_lots" = some (.ref fL)) (GL : FnOk P w K mg base CX0 1 fL fdL ["_law_web_here"] spLots)
    (FG : FnP K "_law_is_gathering" sLI fG fdG) (mG : mg "_law_is_gathering" = some (.ref fG)) (GG : FnOk P w K mg base CX0 1 fG fdG ["_law_web_here", "_law_lot"] spLIsG) : FnOk P w K mg base CX0 2 f fd ["_law_web_here"] spLG := by
  have bL : Binds K fdL ["_law_web_here"] [] := FL.bindsN fun _ _ _ _ _ _ us hl => match us, hl with | [_], _ => rfl
  have bG : Binds K fdG ["_law_web_here", "_law_lot"] [] := FG.bindsN fun _ _ _ _ _ _ us hl => match us, hl with | [_, _], _ => rfl
  refine okN F scLG (fun vs H Q E h => ?_) (fun cdv A outer s H vs Q E hr h => ?_)
  · obtain ⟨_, _, rfl, _⟩ := h
    rfl
  · obtain ⟨a, W, rfl, hW, ok, q⟩ := h
    refine ⟨_, pss_one (ps_ret (pe_lc (own := [("_law_lot", 1)]) (g := gName 1) rfl scLG.nd (pi_list (pe_call GL hr (by rfl) mL FL.kp bL .nil pass0 (pa_cons (pv 0) pa_nil)))
          (blkOk_by (N := ["_law_web_here", "_law_lot"]) (sc := defScope sLG) (by decide +kernel)) (fun _ _ _ _ _ => pg_name (i := 1) scLG.nd rfl (Or.inl rfl))
          (fun _ _ _ _ _ => pts_one (pt_val (pe_call GG hr (by rfl) mG FG.kp bG .nil pass0 (pa_cons (pv 0) (pa_cons (pv 1) pa_nil)))))
          (fun _ _ _ _ _ => pv 1))), ?_⟩
    refine ⟨_, rfl, a, W, rfl, hW, ok.hi, fun H1 p ts e1 ⟨l1, t1⟩ hts => ⟨p, rfl, ⟨_, SqL.of l1⟩, fun D hD => ?_⟩⟩
    have hlen : ts.length ≤ 32 := by
      have := hts.length_eq
      rw [List.length_map, lots_len] at this
      rw [this]
      exact pow5 ok.hi
    have hW1 := hW.same e1
    refine lc_list (K := K) (a := p) (xs := ts.map fun t => V.ref t.1) (fun j H3 => ∃ us, Same H1 H3 ∧ TIs H3 D us ∧ us.length ≤ j ∧ us.map (·.2) = ((ts.take j).map (·.2)).filter (isG W)) ⟨[], Same.new (Same.refl _) hD, ⟨upd_same, fun t ht => nomatch ht⟩, Nat.le_refl _, rfl⟩
        (fun j H3 _ ⟨_, e3, _⟩ => SqL.of (e3 _ _ l1)) ?_ ?_
    · rintro j x H3 hj ⟨us, e3, ⟨l3, t3⟩, hul, hus⟩
      rw [List.getElem?_map] at hj
      obtain ⟨t, ht, rfl⟩ := Option.map_eq_some_iff.mp hj
      have hjl := (List.getElem?_eq_some_iff.mp ht).1
      have hm := List.mem_of_getElem? ht
      have hti := t1 t hm
      have htk : ((ts.take (j + 1)).map (·.2)).filter (isG W) = ((ts.take j).map (·.2)).filter (isG W) ++ (if isG W t.2 = true then [t.2] else []) := by
        rw [List.take_succ, ht, List.map_append, List.filter_append]
        simp only [Option.toList_some, List.map_cons, List.map_nil, List.filter_cons, List.filter_nil]
      refine ⟨rfl, _, rfl, _, rfl, a, W, t.1, t.2, rfl, hW1.same e3, ok.few, e3 _ _ hti, fun H4 e4 => ⟨_, rfl, ?_⟩⟩
      have l4 := e4 _ _ l3
      refine ite2 (fun hg => ⟨_, rfl, us.map fun t => V.ref t.1, l4, by rw [List.length_map, sizeLine_eq]; omega, us ++ [t], Same.own (e3.trans e4) hD, ⟨by rw [upd_same, List.map_append]; rfl, fun u hu => ?_⟩, by rw [List.length_append, List.length_singleton]; omega, ?_⟩) (fun hg => ⟨us, e3.trans e4, ⟨l4, fun u hu => e4 _ _ (t3 u hu)⟩, by omega, ?_⟩)
      · rcases List.mem_append.mp hu with hu | hu
        · exact TI.updL (e4 _ _ (t3 u hu)) l4
        · rw [List.mem_singleton.mp hu]
          exact TI.updL (e4 _ _ (e3 _ _ hti)) l4
      · rw [htk, if_pos hg, List.map_append, hus]
        rfl
      · rw [htk, if_neg hg, hus, List.append_nil]
    · rintro H3 ⟨us, e3, t3, hul, hus⟩
      rw [List.length_map, List.take_length] at hus
      refine q _ D us (e1.trans e3) (e1.free hD) t3 ?_
      rw [hus]
      exact hts.filter _
end
end Fo

end FoL3
section FoM3
set_option Elab.async false
set_option linter.all false
set_option maxHeartbeats 1000000
/-! What the law says, of the tables. -/
namespace Fo
variable {W : Web} {s cs gs : List Int} {es : List Ent}
theorem rep_nums {W : Web} {z : Int} (h : 0 ≤ z ∧ z ≤ 1000) : Nums W (List.replicate W.n z) :=
  ⟨List.length_replicate, fun x hx => by rw [(List.mem_replicate.mp hx).2]; exact h⟩
theorem rep_sum {n : Nat} {z : Int} : ∀ {row : List Int}, In n row → sumAt (List.replicate n z) row = z * row.length
  | [], _ => by simp [sumAt]
  | p :: row, h => by
    have hp := h p List.mem_cons_self
    have ih := rep_sum (z := z) (row := row) fun x hx => h x (List.mem_cons_of_mem _ hx)
    have ha : at_ (List.replicate n z) p = z := by
      unfold at_
      rw [List.getD_eq_getElem?_getD, List.getElem?_replicate, if_pos (by omega)]
      rfl
    have e : sumAt (List.replicate n z) (p :: row) = at_ (List.replicate n z) p + sumAt (List.replicate n z) row := by simp [sumAt]
    rw [e, ha, ih, List.length_cons]
    have : z * ((row.length + 1 : Nat) : Int) = z * (row.length : Int) + z := by
      rw [Int.natCast_add, Int.mul_add]
      simp
    omega
theorem foe_comm (W : Web) (a b : Int) : foe W a b = foe W b a := by
  unfold foe
  rw [Int.min_comm, Int.max_comm]
/-- members of a lot that are no foes of one another, put in from the left, all stay -/
theorem run_keeps (ok : W.ok) : ∀ (ms : List Int) (g : List Int) (ks : List Int), (∀ x ∈ ks, x ∈ g) → (∀ x ∈ ks ++ ms, ∀ y ∈ ks ++ ms, x ≠ y → foe W x y = false) → ∀ x ∈ ks ++ ms, x ∈ run W g ms
  | [], g, ks, hk, _, x, hx => hk x (by simpa using hx)
  | p :: ms, g, ks, hk, hf, x, hx => by
    show x ∈ run W (cameF W g p) ms
    refine run_keeps ok ms (cameF W g p) (ks ++ [p]) (fun y hy => ?_) (by rw [List.append_assoc]; exact hf) x (by rw [List.append_assoc]; exact hx)
    rw [mem_came]
    rcases List.mem_append.mp hy with hy | hy
    · by_cases e : y = p
      · exact .inr e
      · exact .inl ⟨hk y hy, e, hf y (by simp [hy]) p (by simp) e⟩
    · exact .inr (List.mem_singleton.mp hy)
theorem gath_free (ok : W.ok) {ns : List Int} (lot : Lot W.n ns) (h : isG W ns = true) : ∀ x ∈ ns, ∀ y ∈ ns, x ≠ y → foe W x y = false := fun x hx y hy ne => by
  unfold foe
  refine decide_eq_false fun z => ?_
  have := isG_iff.mp h _ z
  rcases Int.lt_or_gt_of_ne ne with q | q
  · rw [Int.min_eq_left (by omega), Int.max_eq_right (by omega)] at this
    exact this ⟨hx, hy⟩
  · rw [Int.min_eq_right (by omega), Int.max_eq_left (by omega)] at this
    exact this ⟨hy, hx⟩
theorem mem_gaths (ok : W.ok) {ns : List Int} : ns ∈ gaths W ↔ Lot W.n ns ∧ isG W ns = true := by
  unfold gaths
  rw [List.mem_filter]
  exact ⟨fun h => ⟨lots_lot _ _ h.1, h.2⟩, fun h => ⟨lot_mem h.1, h.2⟩⟩
/-- more members, more gain -/
theorem sum_mono {gs : List Int} (hg : ∀ x ∈ gs, 0 ≤ x ∧ x ≤ 1000) : ∀ {l m : List Int}, l.Nodup → (∀ x ∈ l, x ∈ m) → sumAt gs l ≤ sumAt gs m
  | [], m, _, _ => by
    have := (sumAt_nn hg m).1
    simpa [sumAt] using this
  | x :: l, m, nd, h => by
    obtain ⟨h1, h2⟩ := List.nodup_cons.mp nd
    have hx := h x List.mem_cons_self
    obtain ⟨a, b, rfl⟩ := List.append_of_mem hx
    have ih := sum_mono hg (l := l) (m := a ++ b) h2 fun y hy => by
      have := h y (List.mem_cons_of_mem _ hy)
      have ne : y ≠ x := fun e => h1 (e ▸ hy)
      simp [ne] at this ⊢
      exact this
    have e1 : sumAt gs (x :: l) = at_ gs x + sumAt gs l := by simp [sumAt]
    have e2 : sumAt gs (a ++ x :: b) = at_ gs x + sumAt gs (a ++ b) := by
      simp [sumAt]
      omega
    omega
theorem lot_nodup {n : Nat} {ns : List Int} (h : Lot n ns) : ns.Nodup := h.asc.imp fun h => Int.ne_of_lt h
/-- no costs: the best net is the best gain -/
theorem free_best (ok : W.ok) (lot : Lot W.n s) (ga : isG W s = true) (nu : Nums W gs) {z : Int} {row ns : List Int} {z' : Int} (h : Net W s (List.replicate W.n 0) gs z row) (h1 : ns ∈ gaths W) (h2 : z' = sumAt gs ns) (h3 : ∀ ms ∈ gaths W, sumAt gs ms ≤ z') : z = z' := by
  obtain ⟨es, dn, ⟨e, he, hz, _⟩, mx⟩ := h
  have cost0 : ∀ e ∈ es, e.cost = 0 := fun e he => by
    obtain ⟨_, b, c, _⟩ := dn.lead e he
    rw [b, rep_sum c, Int.zero_mul]
  refine Int.le_antisymm ?_ ?_
  · obtain ⟨a, _, c, _⟩ := dn.lead e he
    have hg : e.key ∈ gaths W := (mem_gaths ok).mpr ⟨by rw [← a]; exact run_lot lot c, by rw [← a]; exact run_G ok ga⟩
    have := h3 _ hg
    rw [hz, cost0 e he]
    omega
  · obtain ⟨l1, g1⟩ := (mem_gaths ok).mp h1
    obtain ⟨x, hx, kx, _⟩ := dn.least ns l1.rg
    have sub : ∀ y ∈ ns, y ∈ x.key := fun y hy => by
      rw [kx]
      exact run_keeps ok ns s [] (fun y hy => nomatch hy) (by simpa using gath_free ok l1 g1) y (by simpa using hy)
    have h4 := sum_mono nu.rg (lot_nodup l1) sub
    have h5 := mx x hx
    rw [cost0 x hx] at h5
    omega
/-- staying: the net is the start's own gain at the least -/
theorem net_own {z : Int} {row : List Int} (h : Net W s cs gs z row) : sumAt gs s ≤ z := by
  obtain ⟨es, dn, _, mx⟩ := h
  have := mx _ dn.st
  have e : sumAt gs s - 0 ≤ z := this
  omega
/-- dear: nobody moves -/
theorem dear_own (lot : Lot W.n s) (ok : W.ok) (hg : ∀ x ∈ gs, 0 ≤ x ∧ x ≤ 11) {z : Int} {row : List Int} (h : Net W s (List.replicate W.n 1000) gs z row) : z = sumAt gs s := by
  have own := net_own h
  obtain ⟨es, dn, ⟨e, he, hz, _⟩, mx⟩ := h
  refine Int.le_antisymm ?_ own
  obtain ⟨a, b, c, _⟩ := dn.lead e he
  rw [rep_sum c] at b
  have hb : ∀ ns : List Int, Lot W.n ns → 0 ≤ sumAt gs ns ∧ sumAt gs ns ≤ 55 := fun ns hl => by
    have h1 := lot_len hl
    have h2 := ok.hi
    have h3 : ∀ l : List Int, 0 ≤ sumAt gs l ∧ sumAt gs l ≤ 11 * l.length := fun l => by
      induction l with
      | nil => simp [sumAt]
      | cons p l ih =>
        have e : sumAt gs (p :: l) = at_ gs p + sumAt gs l := by simp [sumAt]
        have : 0 ≤ at_ gs p ∧ at_ gs p ≤ 11 := by
          unfold at_
          rw [List.getD_eq_getElem?_getD]
          cases q : gs[p.toNat]? with
          | none => simp
          | some x => exact hg x (List.mem_of_getElem? q)
        rw [e, List.length_cons]
        omega
    have := h3 ns
    omega
  cases hr : e.row with
  | nil =>
    rw [hr] at a b
    have a : s = e.key := a
    have b : e.cost = 0 := by simpa using b
    rw [hz, ← a, b]
    omega
  | cons p r =>
    rw [hr] at b
    have hk := hb e.key (by rw [← a]; exact run_lot lot c)
    have hs := hb s lot
    rw [List.length_cons] at b
    omega
/-- unit costs: the cost is the row's length -/
theorem unit_cost (dn : Done W s (ones W.n) es) {e : Ent} (he : e ∈ es) : e.cost = e.row.length := by
  obtain ⟨_, b, c, _⟩ := dn.lead e he
  rw [b]
  have := rep_sum (z := 1) c
  rw [Int.one_mul] at this
  exact this
end Fo

end FoM3
section FoL0
set_option Elab.async false
set_option linter.all false
set_option maxRecDepth 100000
set_option maxHeartbeats 4000000
/-! Readings that the law's body uses more than once. -/
namespace Fo
open PySem PySem.Spec PyProof.Rows L2 FoS PySem.W
theorem Tb.kb {T : TT} {l : Addr} {H H' : Hp} {xs : List V} (t : Tb T H) (k : KB l H H') (hl : H l = some (.lst xs)) : Tb T H' := by
  have ne : ∀ {b : Addr} {o : HO}, H b = some o → (∀ ys, o ≠ .lst ys) → b ≠ l := fun {b o} q n z => by
    rw [z, hl] at q
    exact n xs (Option.some.inj q).symm
  refine ⟨fun P hP => ?_, ?_⟩
  · obtain ⟨ps, h1, h2⟩ := t.1 P hP
    exact ⟨ps, k _ _ (ne h1 fun _ z => nomatch z) h1, h2⟩
  · obtain ⟨ps, h1, h2, h3⟩ := t.2
    refine ⟨ps, k _ _ (ne h1 fun _ z => nomatch z) h1, h2, fun pos cv hc => ?_⟩
    obtain ⟨c, e1, e2⟩ := h3 pos cv hc
    exact ⟨c, e1, k _ _ (ne e2 fun _ z => nomatch z) e2⟩
theorem KB.tupL {l b : Addr} {H H' : Hp} {xs ys : List V} (e : KB l H H') (hl : H l = some (.lst xs)) (h : H b = some (.tup ys)) : H' b = some (.tup ys) := e b _ (ne_of h hl fun z => nomatch z) h
theorem rd_seq {t u : TS} {D : Ends} {σ : L2.St} {H : Hp} (h : t { D with nx := u D } σ H) : tSeq t u D σ H := h
theorem rd_asg {te : TE} {g : TG} {D : Ends} {σ : L2.St} {H : Hp} (h : te σ H fun x H1 => g x σ H1 D.nx) : tAsg te g D σ H := h
theorem rd_tup {t : TA} {σ : L2.St} {H : Hp} {Q : VK} (h : t σ H fun xs H1 => xs.length ≤ sizeLine ∧ ∀ p, H1 p = none → Q (.ref p) (upd H1 p (.tup xs))) : tTup t σ H Q := h
theorem rd_cons {ta : TE} {tr : TA} {σ : L2.St} {H : Hp} {Q : List V → Hp → Prop} (h : ta σ H fun x H1 => tr σ H1 fun xs H2 => Q (x :: xs) H2) : tCons ta tr σ H Q := h
theorem rd_cb {r : List V → Hp → VK → Prop} {t : TA} {σ : L2.St} {H : Hp} {Q : VK} (h : t σ H fun vs H1 => r vs H1 Q) : tCB r t σ H Q := h
theorem rd_op {r : R2} {ta tb : TE} {σ : L2.St} {H : Hp} {Q : VK} (h : ta σ H fun x H1 => tb σ H1 fun y H2 => r x y H2 Q) : tOp r ta tb σ H Q := h
/-- [_law_taken(row, m) for _law_person in range(size)] -/
theorem taken_list {K : PySem.W.Frag} {l sc : Addr} {ns : List Int} {n : Nat} {m : Int} {σ : L2.St} {H : Hp} {Q : VK} (h4 : σ[4]? = some (some (.int (n : Int)))) (h1 : ((wipe σ [18]).set 18 (some (.int 0)))[1]? = some (some (.ref l)))
    (hl : 18 < σ.length) (hn : n ≤ 5) (m0 : 0 < m) (m1 : m ≤ 100) (hR : RowAt K H l sc ns) (q : ∀ (D : Addr) (H' : Hp) (zs : List Int), H D = none → KB l H H' → RowAt K H' l sc ns → H' D = some (.lst (zs.map V.int)) → zs.length = n → (∀ z ∈ zs, 0 ≤ z ∧ z < m) → Q (.ref D) H') :
    tLc (iRng1 (tCons (tVar 4) tNil)) (gName 18) tYes (tCall (spTaken K) [] E0 (tCons (tVar 1) (tCons (tC (.int m)) tNil))) [18] σ H Q := by
  refine ⟨_, h4, _, rfl, by omega, by omega, fun D hD => ?_⟩
  obtain ⟨i0, s0, r0, hl0, z0⟩ := hR.in_
  have nDl : l ≠ D := ne_of_none hl0 hD
  refine lc_range (lo := 0) (n := (n : Int).toNat) (fun i H3 => ∃ zs : List Int, KB l H H3 ∧ RowIn H3 l sc ∧ H3 D = some (.lst (zs.map V.int)) ∧ zs.length = i ∧ ∀ z ∈ zs, 0 ≤ z ∧ z < m)
    ⟨[], KB.put (KB.refl _ _) hD, hR.in_.upd nDl, upd_same, rfl, fun z hz => nomatch hz⟩ ?_ ?_
  · rintro i H3 hi ⟨zs, k3, r3, d3, l3, b3⟩
    have e5 : (wipe σ [18]).length = σ.length := wipe_length _ _
    have es : wipe ((wipe σ [18]).set 18 (some (V.int ((0 : Int) + (i : Int))))) [18] = wipe σ [18] := by
      show ((σ.set 18 none).set 18 _).set 18 none = σ.set 18 none
      rw [List.set_set, List.set_set]
    have g1 : ((wipe σ [18]).set 18 (some (V.int ((0 : Int) + (i : Int)))))[1]? = some (some (.ref l)) := by
      rw [List.getElem?_set_ne (by decide)] at h1 ⊢
      exact h1
    refine ⟨es, _, g1, l, sc, ns, m, rfl, hR.kb k3 r3, m0, m1, fun H4 r xs a0 a1 hH r4 => ?_⟩
    have k34 : KB l H3 H4 := by
      rw [hH]
      exact KB.upd (KB.refl _ _)
    have d4 := k34 D _ nDl.symm d3
    refine ⟨zs.map V.int, d4, (by rw [List.length_map, sizeLine_eq]; omega), zs ++ [r], KB.put (k3.trans k34) hD, r4.in_.upd nDl, ?_, ?_, fun z hz => ?_⟩
    · rw [upd_same, List.map_append]
      rfl
    · rw [List.length_append, l3]
      rfl
    · rcases List.mem_append.mp hz with hz | hz
      · exact b3 z hz
      · rw [List.mem_singleton.mp hz]
        exact ⟨a0, a1⟩
  · rintro H3 ⟨zs, k3, r3, d3, l3, b3⟩
    exact q D H3 zs hD k3 (hR.kb k3 r3) d3 (by omega) b3
/-- sum([gains[_law_person] for _law_person in some gathering]) -/
theorem gsum_read {K : PySem.W.Frag} {b g : Addr} {gs ns : List Int} {i : Nat} {σ : L2.St} {H : Hp} {Q : VK} (hi : σ[i]? = some (some (.ref g))) (h8 : ((wipe σ [18]).set 18 (some (.int 0)))[8]? = some (some (.ref b))) (hl : 18 < σ.length)
    (hb : TI H b gs) (hg : TI H g ns) (hin : In gs.length ns) (hn : ns.length ≤ 1000) (q : ∀ H', Same H H' → Q (.int (sumAt gs ns)) H') :
    tCB (rSum K) (tCons (tLc (iTup K (tVar i)) (gName 18) tYes (tOp (rIxT K) (tVar 8) (tVar 18)) [18]) tNil) σ H Q := by
  refine ⟨_, hi, g, rfl, ⟨_, SqT.of hg⟩, fun D hD => ?_⟩
  refine lc_tup (K := K) (a := g) (xs := ns.map V.int) (fun j H3 => Same H H3 ∧ H3 D = some (.lst (((ns.take j).map (at_ gs)).map V.int))) ⟨Same.new (Same.refl _) hD, upd_same⟩
    (fun j H3 _ ⟨e3, _⟩ => SqT.of (e3 _ _ hg)) ?_ ?_
  · rintro j x H3 hj ⟨e3, l3⟩
    rw [List.getElem?_map] at hj
    obtain ⟨p, hp, rfl⟩ := Option.map_eq_some_iff.mp hj
    have hjl := (List.getElem?_eq_some_iff.mp hp).1
    have hrg := hin p (List.mem_of_getElem? hp)
    have e5 : (wipe σ [18]).length = σ.length := wipe_length _ _
    have es : wipe ((wipe σ [18]).set 18 (some (V.int p))) [18] = wipe σ [18] := by
      show ((σ.set 18 none).set 18 _).set 18 none = σ.set 18 none
      rw [List.set_set, List.set_set]
    have g8 : ((wipe σ [18]).set 18 (some (V.int p)))[8]? = some (some (.ref b)) := by
      rw [List.getElem?_set_ne (by decide)] at h8 ⊢
      exact h8
    have g18 : ((wipe σ [18]).set 18 (some (V.int p)))[18]? = some (some (V.int p)) := by
      rw [List.getElem?_set_self (by omega)]
    have hat := atI_nat (xs := gs.map V.int) (j := p.toNat) (v := V.int (at_ gs p)) (by
      unfold at_
      rw [List.getElem?_map, List.getD_eq_getElem?_getD, List.getElem?_eq_getElem (by omega)]
      rfl)
    have ep : ((p.toNat : Nat) : Int) = p := by omega
    rw [ep] at hat
    refine ⟨es, _, g8, _, g18, b, _, _, _, rfl, rfl, SqT.of (e3 _ _ hb), hat, _, l3, ?_, Same.own e3 hD, ?_⟩
    · rw [List.length_map, List.length_map, List.length_take, sizeLine_eq]
      omega
    · rw [upd_same, List.take_succ, hp, List.map_append, List.map_append]
      rfl
  · rintro H3 ⟨e3, l3⟩
    rw [List.length_map, List.take_length] at l3
    exact ⟨D, _, rfl, SqL.of l3, q H3 e3⟩
theorem TI.rep {n : Nat} {z : Int} {H : Hp} {p : Addr} (h : H p = some (.tup (List.replicate n (V.int z)))) : TI H p (List.replicate n z) := by
  show H p = some (.tup ((List.replicate n z).map V.int))
  rw [List.map_replicate]
  exact h
theorem RowIn.same {H H' : Hp} {l sc : Addr} (h : RowIn H l sc) (e : Same H H') : RowIn H' l sc := by
  obtain ⟨i, s, r, hl, z⟩ := h
  exact ⟨i, s, r, e _ _ hl, z⟩
theorem RowAt.same {K : PySem.W.Frag} {H H' : Hp} {l sc : Addr} {ns : List Int} (h : RowAt K H l sc ns) (e : Same H H') : RowAt K H' l sc ns := h.kb (KB.of e) (h.in_.same e)
/-- what stands behind the law's first statements -/
structure LS (T : TT) (H : Hp) (a g o c b z0 z1 : Addr) (W : Web) (s t cs gs : List Int) : Prop where
  web : WebAt H a W
  st : TI H g s
  go : TI H o t
  tc : TI H c cs
  tg : TI H b gs
  fr : TI H z0 (List.replicate W.n 0)
  de : TI H z1 (List.replicate W.n 1000)
  tb : Tb T H
theorem LS.ev {T : TT} {H H' : Hp} {a g o c b z0 z1 : Addr} {W : Web} {s t cs gs : List Int} (h : LS T H a g o c b z0 z1 W s t cs gs) (e : Ev T H H') : LS T H' a g o c b z0 z1 W s t cs gs :=
  ⟨h.web.ev e, e.tup h.st, e.tup h.go, e.tup h.tc, e.tup h.tg, e.tup h.fr, e.tup h.de, e.2 h.tb⟩
end Fo

end FoL0
section FoL4
set_option Elab.async false
set_option linter.all false
set_option maxRecDepth 100000
set_option maxHeartbeats 4000000
namespace Fo
open PySem PySem.Spec PyProof.Rows L2 FoS PySem.W
section
variable {P : Program} {w : World} {K : PySem.W.Frag} {mg : Str → Option Value} {base : Heap} {T : TT}
abbrev sLw : Stmt := topS 60
abbrev nLw : List Str := ["_law_script", "_law_row_here", "_law_web_here", "_law_some", "_law_size", "_law_start", "_law_goal", "_law_costs", "_law_gains", "_law_free", "_law_dear", "_law_own", "_law_found", "_law_far", "_law_net", "_law_word", "_law_end", "_law_cheap", "_law_person"]
theorem scLw : FnScope nLw ["_law_script"] (defScope sLw) := ⟨rfl, rfl, rfl, by decide +kernel, rfl, by decide +kernel, by decide +kernel⟩
def spLaw (K : PySem.W.Frag) : Sp := fun vs H Q _ => ∃ (sc : Addr) (ns : List Int), vs = [.ref sc] ∧ SqL K H sc (ns.map V.int) ∧ ns.length ≤ 63 ∧ Tb T H ∧ ∀ H', Q (.bl true) H'
theorem ok_law {f fT fP fW fG fB fBG fSB fCh fD fDn fSC : Addr} {fd fdT fdP fdW fdG fdB fdBG fdSB fdCh fdD fdDn fdSC : FuncData} (F : FnP K "law" sLw f fd)
    (FT : FnP K "_law_taken" sTk fT fdT) (mT : mg "_law_taken" = some (.ref fT)) (GT : FnOk P w K mg base CX0 1 fT fdT ["_law_row_here", "_law_many"] (spTaken K))
    (FP : FnP K "_law_pick" sPk fP fdP) (mP : mg "_law_pick" = some (.ref fP)) (GP : FnOk P w K mg base CX0 2 fP fdP ["_law_row_here", "_law_things"] (spPick K))
    (FW : FnP K "_law_web" sWb fW fdW) (mW : mg "_law_web" = some (.ref fW)) (GW : FnOk P w K mg base CX0 2 fW fdW ["_law_row_here", "_law_most"] (spWeb K))
    (FG : FnP K "_law_gatherings" sLG fG fdG) (mG : mg "_law_gatherings" = some (.ref fG)) (GG : FnOk P w K mg base CX0 2 fG fdG ["_law_web_here"] spLG)
    (FB : FnP K "best_row" sBR fB fdB) (mB : mg "best_row" = some (.ref fB)) (GB : FnOk P w K mg base CX0 7 fB fdB ["web", "start", "costs", "gains"] (spNet T))
    (FBG : FnP K "best_gathering" sBG fBG fdBG) (mBG : mg "best_gathering" = some (.ref fBG)) (GBG : FnOk P w K mg base CX0 7 fBG fdBG ["web", "gains"] (spBest T))
    (FSB : FnP K "shows_best_row" sSB fSB fdSB) (mSB : mg "shows_best_row" = some (.ref fSB)) (GSB : FnOk P w K mg base CX0 7 fSB fdSB ["web", "start", "costs", "gains", "value"] (spShowsNet T))
    (FCh : FnP K "cheap_row" sCh fCh fdCh) (mCh : mg "cheap_row" = some (.ref fCh)) (GCh : FnOk P w K mg base CX0 7 fCh fdCh ["web", "start", "goal", "costs"] (spCheap T))
    (FD : FnP K "distance" sDist fD fdD) (mD : mg "distance" = some (.ref fD)) (GD : FnOk P w K mg base CX0 7 fD fdD ["web", "start", "goal"] (spDist T))
    (FDn : FnP K "done" sDone fDn fdDn) (mDn : mg "done" = some (.ref fDn)) (GDn : FnOk P w K mg base CX0 6 fDn fdDn ["web", "gathering", "row"] (spDone T))
    (FSC : FnP K "shows_cheap_row" sSC fSC fdSC) (mSC : mg "shows_cheap_row" = some (.ref fSC)) (GSC : FnOk P w K mg base CX0 7 fSC fdSC ["web", "start", "goal", "costs", "value"] (spShowsCheap T)) (B : Bt mg) :
    FnOk P w K mg base CX0 8 f fd ["_law_script"] (spLaw (T := T) K) := by
  have bT : Binds K fdT ["_law_row_here", "_law_many"] [] := FT.bindsN fun _ _ _ _ _ _ us hl => match us, hl with | [_, _], _ => rfl
  have bP : Binds K fdP ["_law_row_here", "_law_things"] [] := FP.bindsN fun _ _ _ _ _ _ us hl => match us, hl with | [_, _], _ => rfl
  have bW : Binds K fdW ["_law_row_here", "_law_most"] [] := FW.bindsN fun _ _ _ _ _ _ us hl => match us, hl with | [_, _], _ => rfl
  have bG : Binds K fdG ["_law_web_here"] [] := FG.bindsN fun _ _ _ _ _ _ us hl => match us, hl with | [_], _ => rfl
  have bB : Binds K fdB ["web", "start", "costs", "gains"] [] := FB.bindsN fun _ _ _ _ _ _ us hl => match us, hl with | [_, _, _, _], _ => rfl
  have bBG : Binds K fdBG ["web", "gains"] [] := FBG.bindsN fun _ _ _ _ _ _ us hl => match us, hl with | [_, _], _ => rfl
  have bSB : Binds K fdSB ["web", "start", "costs", "gains", "value"] [] := FSB.bindsN fun _ _ _ _ _ _ us hl => match us, hl with | [_, _, _, _, _], _ => rfl
  have bCh : Binds K fdCh ["web", "start", "goal", "costs"] [] := FCh.bindsN fun _ _ _ _ _ _ us hl => match us, hl with | [_, _, _, _], _ => rfl
  have bD : Binds K fdD ["web", "start", "goal"] [] := FD.bindsN fun _ _ _ _ _ _ us hl => match us, hl with | [_, _, _], _ => rfl
  have bDn : Binds K fdDn ["web", "gathering", "row"] [] := FDn.bindsN fun _ _ _ _ _ _ us hl => match us, hl with | [_, _, _], _ => rfl
  have bSC : Binds K fdSC ["web", "start", "goal", "costs", "value"] [] := FSC.bindsN fun _ _ _ _ _ _ us hl => match us, hl with | [_, _, _, _, _], _ => rfl
  refine okN F scLw (fun vs H Q E h => ?_) (fun cdv A outer s0 H vs Q E hr h => ?_)
  · obtain ⟨_, _, rfl, _⟩ := h
    rfl
  · obtain ⟨sc, ns, rfl, hS, hlen, hT, q⟩ := h
    have hu := hu_of hr
    refine ⟨_, pss_cons (ps_set (i := 1) scLw.nd rfl (.inr rfl) (pe_lst (pa_cons (pv 0) (pa_cons pe_int (pa_cons pe_int (pa_cons pe_int pa_nil))))))
      (pss_cons (ps_set (i := 2) scLw.nd rfl (.inl rfl) (pe_call GW (hr.mono (by decide)) (by rfl) mW FW.kp bW .nil pass0 (pa_cons (pv 1) (pa_cons pe_int pa_nil))))
      (pss_cons (ps_par (i := 3) (j := 4) rfl scLw.nd rfl rfl (by decide) rfl rfl (pa_cons (pe_call GG (hr.mono (by decide)) (by rfl) mG FG.kp bG .nil pass0 (pa_cons (pv 2) pa_nil)) (pa_cons (pe_ix ix_tup (pv 2) pe_int (fun _ _ => rfl)) pa_nil)) (by rfl))
      (pss_cons (ps_par (i := 5) (j := 6) rfl scLw.nd rfl rfl (by decide) rfl rfl (pa_cons (pe_call GP (hr.mono (by decide)) (by rfl) mP FP.kp bP .nil pass0 (pa_cons (pv 1) (pa_cons (pv 3) pa_nil))) (pa_cons (pe_call GP (hr.mono (by decide)) (by rfl) mP FP.kp bP .nil pass0 (pa_cons (pv 1) (pa_cons (pv 3) pa_nil))) pa_nil)) (by rfl))
      (pss_cons (ps_asg (pe_tup (pa_cons (pe_callTy call_tuple_of (by rfl) B.tuple (by decide +kernel) (pa_cons (pe_lc (own := [("_law_person", 18)]) (g := gName 18) (tt := tYes) rfl scLw.nd (pi_range1 (by rfl) B.range (pa_cons (pv 4) pa_nil))
            (blkOk_by (N := nLw) (sc := defScope sLw) (by decide +kernel)) (fun _ _ _ _ _ => pg_name (i := 18) scLw.nd rfl (Or.inl rfl)) (fun _ _ _ _ _ => pts_nil)
            (fun _ _ _ _ _ => pe_call GT (hr.mono (by decide)) (by rfl) mT FT.kp bT .nil pass0 (pa_cons (pv 1) (pa_cons pe_int pa_nil)))) pa_nil))
          (pa_cons (pe_callTy call_tuple_of (by rfl) B.tuple (by decide +kernel) (pa_cons (pe_lc (own := [("_law_person", 18)]) (g := gName 18) (tt := tYes) rfl scLw.nd (pi_range1 (by rfl) B.range (pa_cons (pv 4) pa_nil))
            (blkOk_by (N := nLw) (sc := defScope sLw) (by decide +kernel)) (fun _ _ _ _ _ => pg_name (i := 18) scLw.nd rfl (Or.inl rfl)) (fun _ _ _ _ _ => pts_nil)
            (fun _ _ _ _ _ => pe_call GT (hr.mono (by decide)) (by rfl) mT FT.kp bT .nil pass0 (pa_cons (pv 1) (pa_cons pe_int pa_nil)))) pa_nil)) pa_nil)))
          (pg_tup rfl (pgs_cons (pg_name (i := 7) scLw.nd rfl (Or.inl rfl)) (pgs_cons (pg_name (i := 8) scLw.nd rfl (Or.inr rfl)) pgs_nil))))
      (pss_cons (ps_par (i := 9) (j := 10) rfl scLw.nd rfl rfl (by decide) rfl rfl (pa_cons (pe_op op_repZ (pe_tup (pa_cons pe_int pa_nil)) (pv 4)) (pa_cons (pe_op op_repZ (pe_tup (pa_cons pe_int pa_nil)) (pv 4)) pa_nil)) (by rfl))
      (pss_cons (ps_if (pt_cmpR op_ne (pe_ix ix_tup (pe_call GB hr (by rfl) mB FB.kp bB .nil pass0 (pa_cons (pv 2) (pa_cons (pv 5) (pa_cons (pv 9) (pa_cons (pv 8) pa_nil))))) pe_int (fun _ _ => rfl)) (pe_ix ix_tup (pe_call GBG hr (by rfl) mBG FBG.kp bBG .nil pass0 (pa_cons (pv 2) (pa_cons (pv 8) pa_nil))) pe_int (fun _ _ => rfl)) (nomark _)) pss_never pss_nil)
      (pss_cons (ps_set (i := 11) scLw.nd rfl (.inl rfl) (pe_callB (cr_sum rfl) (by rfl) B.sum (by decide +kernel) (pa_cons (pe_lc (own := [("_law_person", 18)]) (g := gName 18) (tt := tYes) rfl scLw.nd (pi_tup (pv 5))
            (blkOk_by (N := nLw) (sc := defScope sLw) (by decide +kernel)) (fun _ _ _ _ _ => pg_name (i := 18) scLw.nd rfl (Or.inl rfl)) (fun _ _ _ _ _ => pts_nil)
            (fun _ _ _ _ _ => pe_ix (ixT_in (K := K) rfl) (pv 8) (pv 18) (fun _ _ => rfl))) pa_nil)))
      (pss_cons (ps_if (pw_or (pt_cmpR op_ne (pe_ix ix_tup (pe_call GB hr (by rfl) mB FB.kp bB .nil pass0 (pa_cons (pv 2) (pa_cons (pv 5) (pa_cons (pv 10) (pa_cons (pv 8) pa_nil))))) pe_int (fun _ _ => rfl)) (pv 11) (nomark _))
          (pw_or1 (pt_cmpR op_isnot_bl (pe_call GSB hr (by rfl) mSB FSB.kp bSB .nil pass0 (pa_cons (pv 2) (pa_cons (pv 5) (pa_cons (pv 10) (pa_cons (pv 8) (pa_cons (pe_tup (pa_cons (pv 11) (pa_cons (pe_tup pa_nil) pa_nil))) pa_nil)))))) pe_bl (nomark _)))).pt pss_never pss_nil)
      (pss_cons (ps_par (i := 12) (j := 13) rfl scLw.nd rfl rfl (by decide) rfl rfl (pa_cons (pe_call GCh hr (by rfl) mCh FCh.kp bCh .nil pass0 (pa_cons (pv 2) (pa_cons (pv 5) (pa_cons (pv 6) (pa_cons (pe_op op_repZ (pe_tup (pa_cons pe_int pa_nil)) (pv 4)) pa_nil))))) (pa_cons (pe_call GD hr (by rfl) mD FD.kp bD .nil pass0 (pa_cons (pv 2) (pa_cons (pv 5) (pa_cons (pv 6) pa_nil)))) pa_nil)) (by rfl))
      (pss_cons (ps_if (pw_or (pt_cmpR op_ne (pe_cmp (pc_isN (pv 12))) (pe_cmp (pc_isN (pv 13))) (nomark _))
          (pw_or1 (pw_and (pt_cmp (pc_notN (pv 12))) (pw_and1 (pw_or (pt_cmpR op_ne (pe_ix ix_tup (pv 12) pe_int (fun _ _ => rfl)) (pv 13) (nomark _)) (pw_or1 (pt_cmpR op_ne (pe_callB call_len_seq (by rfl) B.len PySem.boot_len (pa_cons (pe_ix ix_tup (pv 12) pe_int (fun _ _ => rfl)) pa_nil)) (pv 13) (nomark _)))).pt)).pt)).pt pss_never pss_nil)
      (pss_cons (ps_asg (pe_call GB hr (by rfl) mB FB.kp bB .nil pass0 (pa_cons (pv 2) (pa_cons (pv 5) (pa_cons (pv 7) (pa_cons (pv 8) pa_nil))))) (pg_tup rfl (pgs_cons (pg_name (i := 14) scLw.nd rfl (Or.inl rfl)) (pgs_cons (pg_name (i := 15) scLw.nd rfl (Or.inl rfl)) pgs_nil))))
      (pss_cons (ps_set (i := 16) scLw.nd rfl (.inl rfl) (pe_call GDn (hr.mono (by decide)) (by rfl) mDn FDn.kp bDn .nil pass0 (pa_cons (pv 2) (pa_cons (pv 5) (pa_cons (pv 15) pa_nil)))))
      (pss_cons (ps_if (pw_or (pt_cmpR op_ne (pv 14) (pe_op op_sub (pe_callB (cr_sum rfl) (by rfl) B.sum (by decide +kernel) (pa_cons (pe_lc (own := [("_law_person", 18)]) (g := gName 18) (tt := tYes) rfl scLw.nd (pi_tup (pv 16))
            (blkOk_by (N := nLw) (sc := defScope sLw) (by decide +kernel)) (fun _ _ _ _ _ => pg_name (i := 18) scLw.nd rfl (Or.inl rfl)) (fun _ _ _ _ _ => pts_nil)
            (fun _ _ _ _ _ => pe_ix (ixT_in (K := K) rfl) (pv 8) (pv 18) (fun _ _ => rfl))) pa_nil)) (pe_ix ix_tup (pe_call GCh hr (by rfl) mCh FCh.kp bCh .nil pass0 (pa_cons (pv 2) (pa_cons (pv 5) (pa_cons (pv 16) (pa_cons (pv 7) pa_nil))))) pe_int (fun _ _ => rfl))) (nomark _))
          (pw_or1 (pt_cmpR op_lt (pv 14) (pv 11) (nomark _)))).pt pss_never pss_nil)
      (pss_cons (ps_set (i := 17) scLw.nd rfl (.inl rfl) (pe_call GCh hr (by rfl) mCh FCh.kp bCh .nil pass0 (pa_cons (pv 2) (pa_cons (pv 5) (pa_cons (pv 6) (pa_cons (pv 7) pa_nil))))))
      (pss_cons (ps_if (pw_and (pt_cmp (pc_notN (pv 17))) (pw_and1 (pt_cmpR op_lt (pv 14) (pe_op op_sub (pe_callB (cr_sum rfl) (by rfl) B.sum (by decide +kernel) (pa_cons (pe_lc (own := [("_law_person", 18)]) (g := gName 18) (tt := tYes) rfl scLw.nd (pi_tup (pv 6))
            (blkOk_by (N := nLw) (sc := defScope sLw) (by decide +kernel)) (fun _ _ _ _ _ => pg_name (i := 18) scLw.nd rfl (Or.inl rfl)) (fun _ _ _ _ _ => pts_nil)
            (fun _ _ _ _ _ => pe_ix (ixT_in (K := K) rfl) (pv 8) (pv 18) (fun _ _ => rfl))) pa_nil)) (pe_ix ix_tup (pv 17) pe_int (fun _ _ => rfl))) (nomark _)))).pt pss_never pss_nil)
      (pss_one (ps_ret (pe_and (pe_cmpR op_eq (pe_ix ix_tup (pe_call GCh hr (by rfl) mCh FCh.kp bCh .nil pass0 (pa_cons (pv 2) (pa_cons (pv 5) (pa_cons (pv 5) (pa_cons (pv 7) pa_nil))))) pe_int (fun _ _ => rfl)) pe_int (nomark _))
        (pe_one (pe_cmpR op_is_bl (pe_call GSC hr (by rfl) mSC FSC.kp bSC .nil pass0 (pa_cons (pv 2) (pa_cons (pv 5) (pa_cons (pv 5) (pa_cons (pv 7) (pa_cons (pe_tup (pa_cons pe_int (pa_cons (pe_tup pa_nil) pa_nil))) pa_nil)))))) pe_bl (nomark _))))))))))))))))))))), ?_⟩
    -- _law_row_here
    refine ⟨_, rfl, (by show 4 ≤ sizeLine; decide), fun l nl => ?_⟩
    have R1 : RowAt K (upd H l (.lst [.ref sc, .int 0, .int 13566, .int 0])) l sc ns := ⟨SqS.new hS nl, hlen, 0, 13566, 0, upd_same, by decide, by decide, by decide, by decide⟩
    have T1 : Tb T (upd H l (.lst [.ref sc, .int 0, .int 13566, .int 0])) := hT.same (Same.new (Same.refl _) nl)
    generalize upd H l (.lst [.ref sc, .int 0, .int 13566, .int 0]) = H1 at R1 T1 ⊢
    obtain ⟨i1, sd1, rr1, hl1, _⟩ := R1.in_
    -- the web
    refine ⟨_, rfl, l, sc, ns, rfl, R1, fun H2 a W k2 R2 ok hW2 => ?_⟩
    have T2 := T1.kb k2 hl1
    obtain ⟨i2, sd2, rr2, hl2, _⟩ := R2.in_
    -- the gatherings
    refine ⟨_, rfl, a, W, rfl, hW2, ok, fun H3 p ts e3 np ⟨tl3, tt3⟩ hts => ?_⟩
    have R3 := R2.same e3
    have T3 := T2.same e3
    have W3 := hW2.same e3
    have hl3 := e3 _ _ hl2
    have npl : p ≠ l := fun z => by rw [z, hl2] at np; cases np
    obtain ⟨bb, ps, w1, w2, w3, w4⟩ := id W3
    refine ⟨_, rfl, _, _, _, _, rfl, rfl, SqT.of w1, rfl, _, _, rfl, ?_⟩
    -- start and goal
    have hlen : ts.length ≤ 32 := by
      have h1 := hts.length_eq
      have h2 := List.length_filter_le (isG W) (lotsF W.n)
      rw [lots_len] at h2
      rw [List.length_map] at h1
      have := pow5 ok.hi
      unfold gaths at h1
      omega
    have hne : ts.map (fun t => V.ref t.1) ≠ [] := fun z => by
      have h0 := hts.mem_iff.mpr (nil_gath W)
      obtain ⟨x, hx, _⟩ := List.mem_map.mp h0
      have := List.mem_map_of_mem (f := fun t : Addr × List Int => V.ref t.1) hx
      rw [z] at this
      cases this
    refine ⟨_, rfl, _, rfl, l, sc, p, ns, _, rfl, R3, npl, tl3, hne, by rw [List.length_map]; omega, fun H4 v hv k4 R4 => ?_⟩
    obtain ⟨⟨g, s⟩, hg, rfl⟩ := List.mem_map.mp hv
    have T4 := T3.kb k4 hl3
    obtain ⟨i4, sd4, rr4, hl4, _⟩ := R4.in_
    refine ⟨_, rfl, _, rfl, l, sc, p, ns, _, rfl, R4, npl, k4 p _ npl tl3, hne, by rw [List.length_map]; omega, fun H5 v' hv' k5 R5 => ?_⟩
    obtain ⟨⟨o, t⟩, ho, rfl⟩ := List.mem_map.mp hv'
    have T5 := T4.kb k5 hl4
    obtain ⟨i5, sd5, rr5, hl5, _⟩ := R5.in_
    obtain ⟨ls, gs0⟩ := (mem_gaths ok).mp (hts.mem_iff.mp (List.mem_map_of_mem (f := fun t : Addr × List Int => t.2) hg))
    obtain ⟨lt, gt0⟩ := (mem_gaths ok).mp (hts.mem_iff.mp (List.mem_map_of_mem (f := fun t : Addr × List Int => t.2) ho))
    have ls : Lot W.n s := ls
    have gs0 : isG W s = true := gs0
    have lt : Lot W.n t := lt
    have gt0 : isG W t = true := gt0
    have W5 : WebAt H5 a W := (W3.elim fun _ _ => KB.webL k4 hl3 W3) |> fun h => KB.webL k5 hl4 h
    have st5 : TI H5 g s := KB.tupL k5 hl4 (KB.tupL k4 hl3 (tt3 _ hg))
    have go5 : TI H5 o t := KB.tupL k5 hl4 (KB.tupL k4 hl3 (tt3 _ ho))
    refine ⟨_, _, rfl, ?_⟩
    clear hne hlen
    -- costs
    dsimp only
    refine rd_seq (rd_asg (rd_tup (rd_cons (rd_cb (rd_cons (taken_list (σ := [some (.ref sc), some (.ref l), some (.ref a), some (.ref p), some (.int (W.n : Int)), some (.ref g), some (.ref o), none, none, none, none, none, none, none, none, none, none, none, none]) (K := K) (l := l) (sc := sc) (ns := ns) (n := W.n) (m := 6) rfl rfl (by show 18 < 19; decide) ok.hi (by decide) (by decide) R5 fun D H6 cs nD k6 R6 dl cl crg => ?_))))))
    have T6 := T5.kb k6 hl5
    obtain ⟨i6, sd6, rr6, hl6, _⟩ := R6.in_
    refine ⟨D, _, rfl, .inl ⟨SqL.of dl, fun c nc => ?_⟩⟩
    have e7 : Same H6 (upd H6 c (.tup (cs.map V.int))) := Same.new (Same.refl _) nc
    have tc7 : TI (upd H6 c (.tup (cs.map V.int))) c cs := upd_same
    generalize upd H6 c (.tup (cs.map V.int)) = H7 at e7 tc7 ⊢
    have R7 := R6.same e7
    have T7 := T6.same e7
    -- gains
    dsimp only
    refine rd_cons (rd_cb (rd_cons (taken_list (σ := [some (.ref sc), some (.ref l), some (.ref a), some (.ref p), some (.int (W.n : Int)), some (.ref g), some (.ref o), none, none, none, none, none, none, none, none, none, none, none, none]) (K := K) (l := l) (sc := sc) (ns := ns) (n := W.n) (m := 12) rfl rfl (by show 18 < 19; decide) ok.hi (by decide) (by decide) R7 fun D' H8 gs nD' k8 R8 dl' gl grg => ?_)))
    have hl7 := e7 _ _ hl6
    have T8 := T7.kb k8 hl7
    refine ⟨D', _, rfl, .inl ⟨SqL.of dl', fun b nb => ⟨(by show 2 ≤ sizeLine; decide), fun pr npr => ?_⟩⟩⟩
    have up8 : ∀ {d : Addr} {xs : List V}, H5 d = some (.tup xs) → H8 d = some (.tup xs) := fun e => KB.tupL k8 hl7 (e7 _ _ (KB.tupL k6 hl5 e))
    have e9 : Same H8 (upd (upd H8 b (.tup (gs.map V.int))) pr (.tup [.ref c, .ref b])) := Same.new (Same.new (Same.refl _) nb) npr
    have tg9 : TI (upd (upd H8 b (.tup (gs.map V.int))) pr (.tup [.ref c, .ref b])) b gs := by
      show upd _ pr _ b = _
      have h1 : upd H8 b (.tup (gs.map V.int)) b = some (.tup (gs.map V.int)) := upd_same
      rw [upd_ne (ne_of_none h1 npr)]
      exact h1
    refine ⟨pr, _, rfl, SqT.of upd_same, rfl, _, _, rfl, _, _, rfl, rfl, ?_⟩
    generalize upd (upd H8 b (.tup (gs.map V.int))) pr (.tup [.ref c, .ref b]) = H9 at e9 tg9 ⊢
    have W9 : WebAt H9 a W := (KB.webL k8 hl7 ((KB.webL k6 hl5 W5).same e7)).same e9
    have T9 := T8.same e9
    have tc9 : TI H9 c cs := e9 _ _ (KB.tupL k8 hl7 tc7)
    have st9 : TI H9 g s := e9 _ _ (up8 st5)
    have go9 : TI H9 o t := e9 _ _ (up8 go5)
    have hn1 : 1 ≤ (W.n : Int) := by have := ok.lo; omega
    have hn5 : (W.n : Int) ≤ 1000 := by have := ok.hi; omega
    -- free, dear
    refine ⟨(by show 1 ≤ sizeLine; decide), fun q0 m0 => ⟨_, rfl, q0, _, _, rfl, rfl, upd_same, hn1, hn5, fun z0 H10 e10 hz0 => ?_⟩⟩
    have e910 : Same H9 H10 := (Same.new (Same.refl _) m0).trans e10
    refine ⟨(by show 1 ≤ sizeLine; decide), fun q1 m1 => ⟨_, rfl, q1, _, _, rfl, rfl, upd_same, hn1, hn5, fun z1 H11 e11 hz1 => ⟨_, _, rfl, ?_⟩⟩⟩
    have e1011 : Same H10 H11 := (Same.new (Same.refl _) m1).trans e11
    have e911 := e910.trans e1011
    rw [Int.toNat_natCast] at hz0 hz1
    have L : LS T H11 a g o c b z0 z1 W s t cs gs := ⟨W9.same e911, e911 _ _ st9, e911 _ _ go9, e911 _ _ tc9, e911 _ _ tg9, TI.rep (e1011 _ _ hz0), TI.rep hz1, T9.same e911⟩
    have nc : Nums W cs := ⟨cl, fun x hx => by have := crg x hx; omega⟩
    have ng : Nums W gs := ⟨gl, fun x hx => by have := grg x hx; omega⟩
    have ng11 : ∀ x ∈ gs, 0 ≤ x ∧ x ≤ 11 := fun x hx => by have := grg x hx; omega
    have n0 : Nums W (List.replicate W.n 0) := rep_nums (by decide)
    have n1 : Nums W (List.replicate W.n 1000) := rep_nums (by decide)
    have nu1 : Nums W (ones W.n) := rep_nums (by decide)
    show tSeq _ _ _ [some (.ref sc), some (.ref l), some (.ref a), some (.ref p), some (.int (W.n : Int)), some (.ref g), some (.ref o), some (.ref c), some (.ref b), some (.ref z0), some (.ref z1), none, none, none, none, none, none, none, none] H11
    clear e911 e1011 e910 e11 e10 hz0 hz1 W9 T9 tc9 st9 go9 e9 tg9 up8 T8 T7 R7 R8 k8 tc7 e7 T6 R6 k6 W5 st5 go5 T5 R5 k5 T4 R4 k4 T3 R3 W3 T2 R2 T1 R1 hts tl3 tt3
    -- 1: free
    refine ⟨_, rfl, _, rfl, _, rfl, _, rfl, a, g, z0, b, W, s, _, gs, rfl, ⟨L.web, ok, L.st, ls, gs0, L.fr, n0, L.tb⟩, L.tg, ng, fun H12 m net row e12 hp hnet => ?_⟩
    obtain ⟨r12, hm12, _⟩ := id hp
    have L12 := L.ev e12
    refine ⟨_, _, _, _, rfl, rfl, SqT.of hm12, rfl, _, rfl, _, rfl, a, W, b, gs, rfl, L12.web, ok, L12.tg, ng, L12.tb, fun H13 m' z ms e13 hp' h1 h2 h3 => ?_⟩
    obtain ⟨r13, hm13, _⟩ := id hp'
    have L13 := L12.ev e13
    have hz := free_best ok ls gs0 ng hnet h1 h2 h3
    refine ⟨_, _, _, _, rfl, rfl, SqT.of hm13, rfl, rfl, _, rfl, iteNS (by rw [hz]) ?_⟩
    -- own
    have lsl := lot_len ls
    have h5 := ok.hi
    refine gsum_read (K := K) (b := b) (g := g) (gs := gs) (ns := s) (i := 5) rfl rfl (by show 18 < 19; decide) L13.tg L13.st (by rw [gl]; exact ls.rg) (by omega) fun H14 e14 => ?_
    have L14 := L13.ev (.of_same e14)
    -- 2: dear
    refine ⟨_, rfl, _, rfl, _, rfl, _, rfl, a, g, z1, b, W, s, _, gs, rfl, ⟨L14.web, ok, L14.st, ls, gs0, L14.de, n1, L14.tb⟩, L14.tg, ng, fun H15 m2 net2 row2 e15 hp2 hnet2 => ?_⟩
    obtain ⟨r15, hm15, _⟩ := id hp2
    have L15 := L14.ev e15
    have hz2 := dear_own ls ok ng11 hnet2
    refine ⟨_, _, _, _, rfl, rfl, SqT.of hm15, rfl, _, rfl, rfl, _, rfl, iteNS (by rw [hz2]) ?_⟩
    -- shows_best_row
    refine ⟨_, rfl, _, rfl, _, rfl, _, rfl, _, rfl, (by show 0 ≤ sizeLine; decide), fun t0 k0 => ⟨(by show 2 ≤ sizeLine; decide), fun v0 k1 => ?_⟩⟩
    have eq0 : Same H15 (upd (upd H15 t0 (.tup [])) v0 (.tup [.int (sumAt gs s), .ref t0])) := Same.new (Same.new (Same.refl _) k0) k1
    have hv0 : PairAt (upd (upd H15 t0 (.tup [])) v0 (.tup [.int (sumAt gs s), .ref t0])) v0 (sumAt gs s) [] := by
      refine ⟨t0, upd_same, ?_⟩
      show upd _ v0 _ t0 = _
      rw [upd_ne (ne_of_none upd_same k1), upd_same]
      rfl
    generalize upd (upd H15 t0 (.tup [])) v0 (.tup [.int (sumAt gs s), .ref t0]) = H16 at eq0 hv0 ⊢
    have L16 := L15.ev (.of_same eq0)
    refine ⟨a, g, z1, b, v0, W, s, _, gs, _, [], rfl, ⟨L16.web, ok, L16.st, ls, gs0, L16.de, n1, L16.tb⟩, L16.tg, ng, hv0, (fun x hx => nomatch hx), Nat.zero_le _, fun H17 net3 row3 e17 hnet3 => ?_⟩
    have L17 := L16.ev e17
    have hz3 := dear_own ls ok ng11 hnet3
    have hb3 : (decide (sumAt gs s = net3) && decide (sumAt gs (run W s []) - sumAt (List.replicate W.n 1000) [] = net3)) = true := by
      rw [hz3]
      have : sumAt (List.replicate W.n 1000) [] = 0 := rfl
      rw [this]
      show (decide (sumAt gs s = sumAt gs s) && decide (sumAt gs s - 0 = sumAt gs s)) = true
      simp
    rw [hb3]
    refine ⟨_, _, rfl, rfl, _, rfl, iteNS rfl ?_⟩
    -- found, far
    refine ⟨_, rfl, _, rfl, _, rfl, (by show 1 ≤ sizeLine; decide), fun q2 m2 => ⟨_, rfl, q2, _, _, rfl, rfl, upd_same, hn1, hn5, fun z2 Hw ew hz2 => ?_⟩⟩
    rw [Int.toNat_natCast] at hz2
    have Lw : LS T Hw a g o c b z0 z1 W s t cs gs := L17.ev (.of_same ((Same.new (Same.refl _) m2).trans ew))
    have hz2 : TI Hw z2 (ones W.n) := TI.rep hz2
    refine ⟨a, g, o, z2, W, s, t, _, rfl, ⟨Lw.web, ok, Lw.st, ls, gs0, hz2, nu1, Lw.tb⟩, Lw.go, lt, gt0, fun Hv es1 ev dn1 hno1 => ?_, fun Hv es1 en1 mv ev dn1 hen1 hk1 hp1 => ?_⟩
    · have Lv := Lw.ev ev
      refine ⟨_, rfl, _, rfl, _, rfl, a, g, o, W, s, t, rfl, Lv.web, ok, Lv.st, ls, gs0, Lv.go, lt, gt0, Lv.tb, fun Hu es2 eu dn2 hno2 => ?_, fun Hu es2 en2 eu dn2 hen2 hk2 => ?_⟩
      · have L18 := Lv.ev eu
        refine ⟨_, _, rfl, ?_⟩
        refine ⟨_, rfl, _, rfl, rfl, _, rfl, iteNS rfl ⟨_, rfl, _, rfl, iteF (iteF ?_)⟩⟩
        refine ⟨_, rfl, _, rfl, _, rfl, _, rfl, a, g, c, b, W, s, cs, gs, rfl, ⟨L18.web, ok, L18.st, ls, gs0, L18.tc, nc, L18.tb⟩, L18.tg, ng, fun H19 m4 net4 row4 e19 hp4 hnet4 => ?_⟩
        obtain ⟨r4, hm4, hr4⟩ := id hp4
        have L19 := L18.ev e19
        refine ⟨m4, _, rfl, SqT.of hm4, rfl, _, _, rfl, _, _, rfl, rfl, ?_⟩
        have own4 := net_own hnet4
        obtain ⟨es4, dn4, ⟨en4, hen4, hz4, hrw4⟩, mx4⟩ := hnet4
        obtain ⟨ld1, ld2, ld3, ld4⟩ := dn4.lead en4 hen4
        -- end
        refine ⟨_, rfl, _, rfl, _, rfl, a, W, g, s, r4, row4, rfl, L19.web, ok, L19.st, ls, gs0, hr4, (by rw [hrw4]; exact ld3), (by rw [hrw4]; exact ld4), L19.tb, fun H20 t4 e20 ht4 => ?_⟩
        have L20 := L19.ev e20
        have ht4 : TI H20 t4 en4.key := by
          rw [hrw4, ld1] at ht4
          exact ht4
        have lot4 : Lot W.n en4.key := by
          rw [← ld1]
          exact run_lot ls ld3
        have ga4 : isG W en4.key = true := by
          rw [← ld1]
          exact run_G ok gs0
        have lot4l := lot_len lot4
        refine ⟨_, rfl, rd_op (gsum_read (K := K) (b := b) (g := t4) (gs := gs) (ns := en4.key) (i := 16) rfl rfl (by show 18 < 19; decide) L20.tg ht4 (by rw [gl]; exact lot4.rg) (by omega) fun H21 e21 => ?_)⟩
        have L21 := L20.ev (.of_same e21)
        refine ⟨_, rfl, _, rfl, _, rfl, _, rfl, a, g, t4, c, W, s, en4.key, cs, rfl, ⟨L21.web, ok, L21.st, ls, gs0, L21.tc, nc, L21.tb⟩, e21 _ _ ht4, lot4, ga4, fun H22 es5 e22 dn5 hno5 => ?_, fun H22 es5 en5 m5 e22 dn5 hen5 hk5 hp5 => ?_⟩
        · obtain ⟨x, hx, hxk, _⟩ := dn4.has dn5 hen4
          exact absurd hxk (hno5 x hx)
        have L22 := L21.ev e22
        obtain ⟨r5, hm5, _⟩ := id hp5
        have hc5 : en5.cost = en4.cost := (dn4.cost_eq dn5 hen4 hen5 hk5.symm).symm
        refine ⟨_, _, _, _, rfl, rfl, SqT.of hm5, rfl, _, _, rfl, rfl, rfl, _, rfl, iteNS (by rw [hz4, hc5]) ?_⟩
        refine ⟨_, rfl, _, rfl, _, _, rfl, rfl, _, rfl, ite2 (fun hlt => ?_) (fun _ => ?_)⟩
        · have hlt : net4 < sumAt gs s := by simpa using hlt
          omega
        -- cheap
        have ltl := lot_len lt
        refine ⟨_, rfl, _, rfl, _, rfl, _, rfl, a, g, o, c, W, s, t, cs, rfl, ⟨L22.web, ok, L22.st, ls, gs0, L22.tc, nc, L22.tb⟩, L22.go, lt, gt0, fun H23 es6 e23 dn6 hno6 => ?_, fun H23 es6 en6 m6 e23 dn6 hen6 hk6 hp6 => ?_⟩
        · have L23 := L22.ev e23
          refine ⟨_, rfl, _, rfl, iteF (iteF ?_)⟩
          refine ⟨_, rfl, _, rfl, _, rfl, _, rfl, a, g, g, c, W, s, s, cs, rfl, ⟨L23.web, ok, L23.st, ls, gs0, L23.tc, nc, L23.tb⟩, L23.st, ls, gs0, fun Hz es0 ez dn0 hno0 => ?_, fun Hz es0 en0 mz ez dn0 hm0 hk0 hp0 => ?_⟩
          · exact absurd rfl (hno0 _ dn0.st)
          · have hc0 : en0 = ⟨s, 0, []⟩ := dn0.uniq hm0 dn0.st hk0
            obtain ⟨rz, hz1, _⟩ := id hp0
            rw [hc0] at hz1
            have Lz := L23.ev ez
            refine ⟨_, _, _, _, rfl, rfl, SqT.of hz1, rfl, rfl, _, rfl, iteT ?_⟩
            refine ⟨_, rfl, _, rfl, _, rfl, _, rfl, (by show 0 ≤ sizeLine; decide), fun t0 k0 => ⟨(by show 2 ≤ sizeLine; decide), fun v0 k1 => ?_⟩⟩
            have eq0 : Same Hz (upd (upd Hz t0 (.tup [])) v0 (.tup [.int 0, .ref t0])) := Same.new (Same.new (Same.refl _) k0) k1
            have hv0 : PairAt (upd (upd Hz t0 (.tup [])) v0 (.tup [.int 0, .ref t0])) v0 0 [] := by
              refine ⟨t0, upd_same, ?_⟩
              show upd _ v0 _ t0 = _
              rw [upd_ne (ne_of_none upd_same k1), upd_same]
              rfl
            generalize upd (upd Hz t0 (.tup [])) v0 (.tup [.int 0, .ref t0]) = Hy at eq0 hv0 ⊢
            have Ly := Lz.ev (.of_same eq0)
            exact ⟨a, g, c, v0, W, s, cs, rfl, ⟨Ly.web, ok, Ly.st, ls, gs0, Ly.tc, nc, Ly.tb⟩, hv0, fun Hx ex => ⟨_, _, rfl, rfl, q _⟩⟩
        · have L23 := L22.ev e23
          obtain ⟨r6, hm6, _⟩ := id hp6
          refine ⟨_, rfl, _, rfl, iteT ⟨_, rfl, rd_op (gsum_read (K := K) (b := b) (g := o) (gs := gs) (ns := t) (i := 6) rfl rfl (by show 18 < 19; decide) L23.tg L23.go (by rw [gl]; exact lt.rg) (by omega) fun H24 e24 => ?_)⟩⟩
          have L24 := L23.ev (.of_same e24)
          refine ⟨_, rfl, _, _, _, _, rfl, rfl, SqT.of (e24 _ _ hm6), rfl, _, _, rfl, rfl, _, _, rfl, rfl, _, rfl, ite2 (fun hlt => ?_) (fun _ => ?_)⟩
          · have hlt : net4 < sumAt gs t - en6.cost := by simpa using hlt
            exfalso
            obtain ⟨x, hx, hxk, hxc⟩ := dn6.has dn4 hen6
            have := mx4 x hx
            rw [hxk, hk6, hxc] at this
            omega
          refine ⟨_, rfl, _, rfl, _, rfl, _, rfl, a, g, g, c, W, s, s, cs, rfl, ⟨L24.web, ok, L24.st, ls, gs0, L24.tc, nc, L24.tb⟩, L24.st, ls, gs0, fun Hz es0 ez dn0 hno0 => ?_, fun Hz es0 en0 mz ez dn0 hm0 hk0 hp0 => ?_⟩
          · exact absurd rfl (hno0 _ dn0.st)
          · have hc0 : en0 = ⟨s, 0, []⟩ := dn0.uniq hm0 dn0.st hk0
            obtain ⟨rz, hz1, _⟩ := id hp0
            rw [hc0] at hz1
            have Lz := L24.ev ez
            refine ⟨_, _, _, _, rfl, rfl, SqT.of hz1, rfl, rfl, _, rfl, iteT ?_⟩
            refine ⟨_, rfl, _, rfl, _, rfl, _, rfl, (by show 0 ≤ sizeLine; decide), fun t0 k0 => ⟨(by show 2 ≤ sizeLine; decide), fun v0 k1 => ?_⟩⟩
            have eq0 : Same Hz (upd (upd Hz t0 (.tup [])) v0 (.tup [.int 0, .ref t0])) := Same.new (Same.new (Same.refl _) k0) k1
            have hv0 : PairAt (upd (upd Hz t0 (.tup [])) v0 (.tup [.int 0, .ref t0])) v0 0 [] := by
              refine ⟨t0, upd_same, ?_⟩
              show upd _ v0 _ t0 = _
              rw [upd_ne (ne_of_none upd_same k1), upd_same]
              rfl
            generalize upd (upd Hz t0 (.tup [])) v0 (.tup [.int 0, .ref t0]) = Hy at eq0 hv0 ⊢
            have Ly := Lz.ev (.of_same eq0)
            exact ⟨a, g, c, v0, W, s, cs, rfl, ⟨Ly.web, ok, Ly.st, ls, gs0, Ly.tc, nc, Ly.tb⟩, hv0, fun Hx ex => ⟨_, _, rfl, rfl, q _⟩⟩
      · obtain ⟨x, hx, hxk, _⟩ := dn2.has dn1 hen2
        exact absurd (hxk.trans hk2) (hno1 x hx)
    · have Lv := Lw.ev ev
      refine ⟨_, rfl, _, rfl, _, rfl, a, g, o, W, s, t, rfl, Lv.web, ok, Lv.st, ls, gs0, Lv.go, lt, gt0, Lv.tb, fun Hu es2 eu dn2 hno2 => ?_, fun Hu es2 en2 eu dn2 hen2 hk2 => ?_⟩
      · obtain ⟨x, hx, hxk, _⟩ := dn1.has dn2 hen1
        exact absurd (hxk.trans hk1) (hno2 x hx)
      · have L18 := Lv.ev eu
        obtain ⟨rv, hv1, hv2⟩ := hp1.ev eu
        have hc1 : en1.cost = (en2.row.length : Int) := by
          rw [dn1.cost_eq dn2 hen1 hen2 (hk1.trans hk2.symm)]
          exact unit_cost dn2 hen2
        have hl1 : (en1.row.length : Int) = (en2.row.length : Int) := by
          rw [← unit_cost dn1 hen1, hc1]
        refine ⟨_, _, rfl, ?_⟩
        refine ⟨_, rfl, _, rfl, rfl, _, rfl, iteNS (by simp) ⟨_, rfl, _, rfl, iteT ?_⟩⟩
        refine ⟨_, rfl, _, _, _, _, rfl, rfl, SqT.of hv1, rfl, _, rfl, rfl, _, rfl, iteNS (by rw [hc1]) ?_⟩
        refine ⟨_, rfl, _, _, _, _, rfl, rfl, SqT.of hv1, rfl, _, _, rfl, .inr (SqT.of hv2), _, rfl, rfl, _, rfl, iteNS (by rw [List.length_map, hl1]) ?_⟩
        refine ⟨_, rfl, _, rfl, _, rfl, _, rfl, a, g, c, b, W, s, cs, gs, rfl, ⟨L18.web, ok, L18.st, ls, gs0, L18.tc, nc, L18.tb⟩, L18.tg, ng, fun H19 m4 net4 row4 e19 hp4 hnet4 => ?_⟩
        obtain ⟨r4, hm4, hr4⟩ := id hp4
        have L19 := L18.ev e19
        refine ⟨m4, _, rfl, SqT.of hm4, rfl, _, _, rfl, _, _, rfl, rfl, ?_⟩
        have own4 := net_own hnet4
        obtain ⟨es4, dn4, ⟨en4, hen4, hz4, hrw4⟩, mx4⟩ := hnet4
        obtain ⟨ld1, ld2, ld3, ld4⟩ := dn4.lead en4 hen4
        -- end
        refine ⟨_, rfl, _, rfl, _, rfl, a, W, g, s, r4, row4, rfl, L19.web, ok, L19.st, ls, gs0, hr4, (by rw [hrw4]; exact ld3), (by rw [hrw4]; exact ld4), L19.tb, fun H20 t4 e20 ht4 => ?_⟩
        have L20 := L19.ev e20
        have ht4 : TI H20 t4 en4.key := by
          rw [hrw4, ld1] at ht4
          exact ht4
        have lot4 : Lot W.n en4.key := by
          rw [← ld1]
          exact run_lot ls ld3
        have ga4 : isG W en4.key = true := by
          rw [← ld1]
          exact run_G ok gs0
        have lot4l := lot_len lot4
        refine ⟨_, rfl, rd_op (gsum_read (K := K) (b := b) (g := t4) (gs := gs) (ns := en4.key) (i := 16) rfl rfl (by show 18 < 19; decide) L20.tg ht4 (by rw [gl]; exact lot4.rg) (by omega) fun H21 e21 => ?_)⟩
        have L21 := L20.ev (.of_same e21)
        refine ⟨_, rfl, _, rfl, _, rfl, _, rfl, a, g, t4, c, W, s, en4.key, cs, rfl, ⟨L21.web, ok, L21.st, ls, gs0, L21.tc, nc, L21.tb⟩, e21 _ _ ht4, lot4, ga4, fun H22 es5 e22 dn5 hno5 => ?_, fun H22 es5 en5 m5 e22 dn5 hen5 hk5 hp5 => ?_⟩
        · obtain ⟨x, hx, hxk, _⟩ := dn4.has dn5 hen4
          exact absurd hxk (hno5 x hx)
        have L22 := L21.ev e22
        obtain ⟨r5, hm5, _⟩ := id hp5
        have hc5 : en5.cost = en4.cost := (dn4.cost_eq dn5 hen4 hen5 hk5.symm).symm
        refine ⟨_, _, _, _, rfl, rfl, SqT.of hm5, rfl, _, _, rfl, rfl, rfl, _, rfl, iteNS (by rw [hz4, hc5]) ?_⟩
        refine ⟨_, rfl, _, rfl, _, _, rfl, rfl, _, rfl, ite2 (fun hlt => ?_) (fun _ => ?_)⟩
        · have hlt : net4 < sumAt gs s := by simpa using hlt
          omega
        -- cheap
        have ltl := lot_len lt
        refine ⟨_, rfl, _, rfl, _, rfl, _, rfl, a, g, o, c, W, s, t, cs, rfl, ⟨L22.web, ok, L22.st, ls, gs0, L22.tc, nc, L22.tb⟩, L22.go, lt, gt0, fun H23 es6 e23 dn6 hno6 => ?_, fun H23 es6 en6 m6 e23 dn6 hen6 hk6 hp6 => ?_⟩
        · have L23 := L22.ev e23
          refine ⟨_, rfl, _, rfl, iteF (iteF ?_)⟩
          refine ⟨_, rfl, _, rfl, _, rfl, _, rfl, a, g, g, c, W, s, s, cs, rfl, ⟨L23.web, ok, L23.st, ls, gs0, L23.tc, nc, L23.tb⟩, L23.st, ls, gs0, fun Hz es0 ez dn0 hno0 => ?_, fun Hz es0 en0 mz ez dn0 hm0 hk0 hp0 => ?_⟩
          · exact absurd rfl (hno0 _ dn0.st)
          · have hc0 : en0 = ⟨s, 0, []⟩ := dn0.uniq hm0 dn0.st hk0
            obtain ⟨rz, hz1, _⟩ := id hp0
            rw [hc0] at hz1
            have Lz := L23.ev ez
            refine ⟨_, _, _, _, rfl, rfl, SqT.of hz1, rfl, rfl, _, rfl, iteT ?_⟩
            refine ⟨_, rfl, _, rfl, _, rfl, _, rfl, (by show 0 ≤ sizeLine; decide), fun t0 k0 => ⟨(by show 2 ≤ sizeLine; decide), fun v0 k1 => ?_⟩⟩
            have eq0 : Same Hz (upd (upd Hz t0 (.tup [])) v0 (.tup [.int 0, .ref t0])) := Same.new (Same.new (Same.refl _) k0) k1
            have hv0 : PairAt (upd (upd Hz t0 (.tup [])) v0 (.tup [.int 0, .ref t0])) v0 0 [] := by
              refine ⟨t0, upd_same, ?_⟩
              show upd _ v0 _ t0 = _
              rw [upd_ne (ne_of_none upd_same k1), upd_same]
              rfl
            generalize upd (upd Hz t0 (.tup [])) v0 (.tup [.int 0, .ref t0]) = Hy at eq0 hv0 ⊢
            have Ly := Lz.ev (.of_same eq0)
            exact ⟨a, g, c, v0, W, s, cs, rfl, ⟨Ly.web, ok, Ly.st, ls, gs0, Ly.tc, nc, Ly.tb⟩, hv0, fun Hx ex => ⟨_, _, rfl, rfl, q _⟩⟩
        · have L23 := L22.ev e23
          obtain ⟨r6, hm6, _⟩ := id hp6
          refine ⟨_, rfl, _, rfl, iteT ⟨_, rfl, rd_op (gsum_read (K := K) (b := b) (g := o) (gs := gs) (ns := t) (i := 6) rfl rfl (by show 18 < 19; decide) L23.tg L23.go (by rw [gl]; exact lt.rg) (by omega) fun H24 e24 => ?_)⟩⟩
          have L24 := L23.ev (.of_same e24)
          refine ⟨_, rfl, _, _, _, _, rfl, rfl, SqT.of (e24 _ _ hm6), rfl, _, _, rfl, rfl, _, _, rfl, rfl, _, rfl, ite2 (fun hlt => ?_) (fun _ => ?_)⟩
          · have hlt : net4 < sumAt gs t - en6.cost := by simpa using hlt
            exfalso
            obtain ⟨x, hx, hxk, hxc⟩ := dn6.has dn4 hen6
            have := mx4 x hx
            rw [hxk, hk6, hxc] at this
            omega
          refine ⟨_, rfl, _, rfl, _, rfl, _, rfl, a, g, g, c, W, s, s, cs, rfl, ⟨L24.web, ok, L24.st, ls, gs0, L24.tc, nc, L24.tb⟩, L24.st, ls, gs0, fun Hz es0 ez dn0 hno0 => ?_, fun Hz es0 en0 mz ez dn0 hm0 hk0 hp0 => ?_⟩
          · exact absurd rfl (hno0 _ dn0.st)
          · have hc0 : en0 = ⟨s, 0, []⟩ := dn0.uniq hm0 dn0.st hk0
            obtain ⟨rz, hz1, _⟩ := id hp0
            rw [hc0] at hz1
            have Lz := L24.ev ez
            refine ⟨_, _, _, _, rfl, rfl, SqT.of hz1, rfl, rfl, _, rfl, iteT ?_⟩
            refine ⟨_, rfl, _, rfl, _, rfl, _, rfl, (by show 0 ≤ sizeLine; decide), fun t0 k0 => ⟨(by show 2 ≤ sizeLine; decide), fun v0 k1 => ?_⟩⟩
            have eq0 : Same Hz (upd (upd Hz t0 (.tup [])) v0 (.tup [.int 0, .ref t0])) := Same.new (Same.new (Same.refl _) k0) k1
            have hv0 : PairAt (upd (upd Hz t0 (.tup [])) v0 (.tup [.int 0, .ref t0])) v0 0 [] := by
              refine ⟨t0, upd_same, ?_⟩
              show upd _ v0 _ t0 = _
              rw [upd_ne (ne_of_none upd_same k1), upd_same]
              rfl
            generalize upd (upd Hz t0 (.tup [])) v0 (.tup [.int 0, .ref t0]) = Hy at eq0 hv0 ⊢
            have Ly := Lz.ev (.of_same eq0)
            exact ⟨a, g, c, v0, W, s, cs, rfl, ⟨Ly.web, ok, Ly.st, ls, gs0, Ly.tc, nc, Ly.tb⟩, hv0, fun Hx ex => ⟨_, _, rfl, rfl, q _⟩⟩
end
end Fo

end FoL4
section FoEnd
set_option Elab.async false
set_option linter.all false
set_option maxRecDepth 100000
set_option maxHeartbeats 0
/-! The head, by facts, and the end. -/
namespace Fo
open PySem PySem.Spec PyProof.Rows L2 FoS PySem.W
def tabN8 : List Str := ["need_web", "is_lot", "is_gathering", "is_row", "cost_of", "gain_of", "need_gains", "need_row_costs"]
def tabN9 : List Str := ["need_web", "is_lot", "is_gathering", "is_row", "cost_of", "gain_of", "need_gains", "need_row_costs", "rows_from"]
def noTab : Option Obj → Bool
  | some ⟨.none, none, .fields vs, sl⟩ => vs.isEmpty && sl.isEmpty
  | _ => false
theorem noTab_ok {o : Option Obj} (h : noTab o = true) : o = some { cls := .none, data := .fields #[] } := by
  unfold noTab at h
  split at h
  · rename_i vs sl
    obtain ⟨h1, h2⟩ := He.ba h
    rw [Array.isEmpty_iff.mp h1, Array.isEmpty_iff.mp h2]
  · cases h
/-- the code object of the def called x and its table -/
def tabC (K : Frag) (x : Str) : Addr × Addr := (PySem.W.tabIn K x).getD (0, 0)
def tabB1 (K : Frag) (g : Addr → Option Obj) (x : Str) : Bool := (PySem.W.tabIn K x).isSome && (PySem.W.codeHdIn K (tabC K x).1 (tabC K x).2 && ((K.lookup (tabC K x).2).isNone && noTab (g (tabC K x).2)))
def tabsB (K : Frag) (g : Addr → Option Obj) : Bool := (tabN9.all fun x => tabB1 K g x) && !((tabN8.map fun x => (tabC K x).2).contains (tabC K "rows_from").2)
structure Tab1 (K : Frag) (h : Heap) (x : Str) : Prop where
  at_ : PySem.W.tabIn K x = some (tabC K x)
  hd : PySem.W.codeHdIn K (tabC K x).1 (tabC K x).2 = true
  out : K.lookup (tabC K x).2 = none
  emp : h.get? (tabC K x).2 = some { cls := .none, data := .fields #[] }
theorem tab1_of {K : Frag} {h : Heap} {x : Str} (e : tabB1 K h.get? x = true) : Tab1 K h x := by
  obtain ⟨e1, e2⟩ := He.ba e
  obtain ⟨e3, e4⟩ := He.ba e2
  obtain ⟨e5, e6⟩ := He.ba e4
  refine ⟨?_, e3, Option.isNone_iff_eq_none.mp e5, noTab_ok e6⟩
  unfold tabC
  cases q : PySem.W.tabIn K x with
  | none =>
    rw [q] at e1
    cases e1
  | some p => rfl
structure Tabs (K : Frag) (h : Heap) : Prop where
  all : ∀ x ∈ tabN9, Tab1 K h x
  nd : (tabC K "rows_from").2 ∉ tabN8.map fun x => (tabC K x).2
theorem tabs_of {K : Frag} {h : Heap} (e : tabsB K h.get? = true) : Tabs K h := by
  obtain ⟨e1, e2⟩ := He.ba e
  refine ⟨fun x hx => tab1_of (List.all_eq_true.mp e1 x hx), fun z => ?_⟩
  rw [List.contains_iff_mem.mpr z] at e2
  cases e2
theorem Tabs.keeps {K : Frag} {h h' : Heap} (t : Tabs K h) (k : ∀ b o, h.get? b = some o → h'.get? b = some o) : Tabs K h' :=
  ⟨fun x hx => ⟨(t.all x hx).at_, (t.all x hx).hd, (t.all x hx).out, k _ _ (t.all x hx).emp⟩, t.nd⟩
/-- what the names reach, without the tables -/
def reach (n : Nat) (g : Addr → Option Obj) : Frag := He.frG g (He.asD g n)
def hookF (n : Nat) (fa : List He.Fa) (fn : List He.DefD) : PySem.W.Hook where
  α := He.AlD × Bool
  obs := fun s => (He.obsD fa fn (reach n s.heap.get?), tabsB (reach n s.heap.get?) s.heap.get?)
  val := fun _ => (He.valD fn, true)
  says := fun _ h => ∃ K : PySem.W.Frag, K.In h ∧ He.SaysD fa fn K ∧ Tabs K h
  of := fun _ _ e => ⟨_, He.frG_in, (Prod.mk.inj e).1, tabs_of (Prod.mk.inj e).2⟩
  keeps := fun _ _ _ ⟨K, hK, c, t⟩ k => ⟨K, PySem.W.Frag.In.keeps hK k, c, t.keeps k⟩
def obF (n : Nat) (fa : List He.Fa) (fn : List He.DefD) (g : Addr → Option Obj) : He.AlD × Bool := (He.obsD fa fn (reach n g), tabsB (reach n g) g)
theorem obF_eq {n : Nat} {fa : List He.Fa} {fn : List He.DefD} {g : Addr → Option Obj} {s : Shared} (h : ∀ a, g a = s.heap.get? a) : obF n fa fn g = (hookF n fa fn).obs s := by
  have e : g = s.heap.get? := funext h
  rw [e] <;> rfl
theorem own_code {K : Frag} {x : Str} {st : Stmt} {fd : FuncData} {c P : Addr} (F : FnP K x st (He.ga K x) fd) (g : (He.Fa.glo x).ok K = true) (t : PySem.W.tabIn K x = some (c, P)) : fd.code = .ref c := by
  obtain ⟨oc, od, dV, kV, doc, pm, an, cdv, ct, osl, rfl, lk, hcd, hD, hK⟩ := F.ex
  unfold PySem.W.tabIn at t
  rw [He.eqO_ok g] at t
  dsimp only at t
  rw [lk] at t
  cases cdv with
  | ref c2 =>
    dsimp only [PySem.W.fnOf] at t ⊢
    split at t
    · split at t
      · cases t
        rfl
      · cases t
    · cases t
  | _ => cases t
theorem mem89 {x : Str} (h : x ∈ tabN8) : x ∈ tabN9 := by
  have e : tabN9 = tabN8 ++ [("rows_from" : Str)] := rfl
  rw [e]
  exact List.mem_append_left _ h
/-! ### the data -/
def d_is_in : He.DefD := ⟨("is_in", none), "is_in", "is_in", defArgs sIsIn, defBody sIsIn, defScope sIsIn, [], []⟩
def d_need_web : He.DefD := ⟨("need_web", none), "need_web", "need_web", defArgs sNW, defBody sNW, defScope sNW, [], []⟩
def d_are_foes : He.DefD := ⟨("are_foes", none), "are_foes", "are_foes", defArgs sFoes, defBody sFoes, defScope sFoes, [], []⟩
def d_is_lot : He.DefD := ⟨("is_lot", none), "is_lot", "is_lot", defArgs sIsLot, defBody sIsLot, defScope sIsLot, [], []⟩
def d_is_gathering : He.DefD := ⟨("is_gathering", none), "is_gathering", "is_gathering", defArgs sIsG, defBody sIsG, defScope sIsG, [], []⟩
def d_need_gathering : He.DefD := ⟨("need_gathering", none), "need_gathering", "need_gathering", defArgs sNG, defBody sNG, defScope sNG, [], []⟩
def d_all_lots : He.DefD := ⟨("all_lots", none), "all_lots", "all_lots", defArgs sLots, defBody sLots, defScope sLots, [], []⟩
def d_all_gatherings : He.DefD := ⟨("all_gatherings", none), "all_gatherings", "all_gatherings", defArgs sGaths, defBody sGaths, defScope sGaths, [], []⟩
def d_came : He.DefD := ⟨("came", none), "came", "came", defArgs sCame, defBody sCame, defScope sCame, [], []⟩
def d_is_row : He.DefD := ⟨("is_row", none), "is_row", "is_row", defArgs sIsRow, defBody sIsRow, defScope sIsRow, [], []⟩
def d_need_row : He.DefD := ⟨("need_row", none), "need_row", "need_row", defArgs sNR, defBody sNR, defScope sNR, [], []⟩
def d_trace : He.DefD := ⟨("trace", none), "trace", "trace", defArgs sTrace, defBody sTrace, defScope sTrace, [], []⟩
def d_done : He.DefD := ⟨("done", none), "done", "done", defArgs sDone, defBody sDone, defScope sDone, [], []⟩
def d_cost_of : He.DefD := ⟨("cost_of", none), "cost_of", "cost_of", defArgs sCost, defBody sCost, defScope sCost, [], []⟩
def d_gain_of : He.DefD := ⟨("gain_of", none), "gain_of", "gain_of", defArgs sGain, defBody sGain, defScope sGain, [], []⟩
def d_need_gains : He.DefD := ⟨("need_gains", none), "need_gains", "need_gains", defArgs sNGn, defBody sNGn, defScope sNGn, [], []⟩
def d_need_row_costs : He.DefD := ⟨("need_row_costs", none), "need_row_costs", "need_row_costs", defArgs sNRC, defBody sNRC, defScope sNRC, [], []⟩
def d_best_of : He.DefD := ⟨("best_of", none), "best_of", "best_of", defArgs sBest, defBody sBest, defScope sBest, [], []⟩
def d_best_gathering : He.DefD := ⟨("best_gathering", none), "best_gathering", "best_gathering", defArgs sBG, defBody sBG, defScope sBG, [], []⟩
def d_cheapest_rows : He.DefD := ⟨("cheapest_rows", none), "cheapest_rows", "cheapest_rows", defArgs sRows, defBody sRows, defScope sRows, [], []⟩
def d_rows_from : He.DefD := ⟨("rows_from", none), "rows_from", "rows_from", defArgs sRF, defBody sRF, defScope sRF, [], []⟩
def d_need_net : He.DefD := ⟨("need_net", none), "need_net", "need_net", defArgs sNN, defBody sNN, defScope sNN, [], []⟩
def d_net_of : He.DefD := ⟨("net_of", none), "net_of", "net_of", defArgs sNetOf, defBody sNetOf, defScope sNetOf, [], []⟩
def d_best_row : He.DefD := ⟨("best_row", none), "best_row", "best_row", defArgs sBR, defBody sBR, defScope sBR, [], []⟩
def d_shows_best_row : He.DefD := ⟨("shows_best_row", none), "shows_best_row", "shows_best_row", defArgs sSB, defBody sSB, defScope sSB, [], []⟩
def d_need_priced : He.DefD := ⟨("need_priced", none), "need_priced", "need_priced", defArgs sNP, defBody sNP, defScope sNP, [], []⟩
def d_cheap_row : He.DefD := ⟨("cheap_row", none), "cheap_row", "cheap_row", defArgs sCh, defBody sCh, defScope sCh, [], []⟩
def d_shows_cheap_row : He.DefD := ⟨("shows_cheap_row", none), "shows_cheap_row", "shows_cheap_row", defArgs sSC, defBody sSC, defScope sSC, [], []⟩
def d_need_ends : He.DefD := ⟨("need_ends", none), "need_ends", "need_ends", defArgs sNE, defBody sNE, defScope sNE, [], []⟩
def d_distance : He.DefD := ⟨("distance", none), "distance", "distance", defArgs sDist, defBody sDist, defScope sDist, [], []⟩
def d__law_taken : He.DefD := ⟨("_law_taken", none), "_law_taken", "_law_taken", defArgs sTk, defBody sTk, defScope sTk, [], []⟩
def d__law_pick : He.DefD := ⟨("_law_pick", none), "_law_pick", "_law_pick", defArgs sPk, defBody sPk, defScope sPk, [], []⟩
def d__law_web : He.DefD := ⟨("_law_web", none), "_law_web", "_law_web", defArgs sWb, defBody sWb, defScope sWb, [], []⟩
def d__law_lots : He.DefD := ⟨("_law_lots", none), "_law_lots", "_law_lots", defArgs sLL, defBody sLL, defScope sLL, [], []⟩
def d__law_is_gathering : He.DefD := ⟨("_law_is_gathering", none), "_law_is_gathering", "_law_is_gathering", defArgs sLI, defBody sLI, defScope sLI, [], []⟩
def d__law_gatherings : He.DefD := ⟨("_law_gatherings", none), "_law_gatherings", "_law_gatherings", defArgs sLG, defBody sLG, defScope sLG, [], []⟩
def d_law : He.DefD := ⟨("law", none), "law", "law", defArgs sLw, defBody sLw, defScope sLw, [], []⟩
def fnL0 : List He.DefD := [d_is_in, d_need_web, d_are_foes, d_is_lot, d_is_gathering, d_need_gathering, d_all_lots, d_all_gatherings, d_came, d_is_row, d_need_row, d_trace, d_done, d_cost_of, d_gain_of, d_need_gains, d_need_row_costs, d_best_of, d_best_gathering, d_cheapest_rows, d_rows_from, d_need_net, d_net_of, d_best_row, d_shows_best_row, d_need_priced, d_cheap_row, d_shows_cheap_row, d_need_ends, d_distance]
def fnL1 : List He.DefD := [d__law_taken, d__law_pick, d__law_web, d__law_lots, d__law_is_gathering, d__law_gatherings, d_law]
def fnL : List He.DefD := fnL0 ++ fnL1
def faL0 : List He.Fa := [.glo "is_in", .glo "need_web", .glo "are_foes", .glo "is_lot", .glo "is_gathering", .glo "need_gathering", .glo "all_lots", .glo "all_gatherings", .glo "came", .glo "is_row", .glo "need_row", .glo "trace", .glo "done", .glo "cost_of", .glo "gain_of", .glo "need_gains", .glo "need_row_costs", .glo "best_of", .glo "best_gathering", .glo "cheapest_rows", .glo "rows_from", .glo "need_net", .glo "net_of", .glo "best_row", .glo "shows_best_row", .glo "need_priced", .glo "cheap_row", .glo "shows_cheap_row", .glo "need_ends", .glo "distance"]
def faL1 : List He.Fa := [.glo "_law_taken", .glo "_law_pick", .glo "_law_web", .glo "_law_lots", .glo "_law_is_gathering", .glo "_law_gatherings", .glo "law", .free "isinstance", .free "int", .free "bool", .free "tuple", .free "len", .free "range", .free "any", .free "all", .free "sum", .free "sorted", .free "max", .free "min", .int "MOST_PEOPLE" 7, .int "MOST_ROW" 30, .int "MOST_GAIN" 1000, .int "MOST_COST" 1000]
def faL : List He.Fa := faL0 ++ faL1
def looseL0 : List Str := ["__name__", "FoeError", "BadWeb", "BadGathering", "BadRow", "BadCosts", "BadGains", "MOST_PEOPLE", "MOST_ROW", "is_in", "need_web", "are_foes", "is_lot", "is_gathering", "need_gathering", "all_lots", "all_gatherings", "came", "is_row", "need_row", "trace", "done", "MOST_COST", "cost_of", "MOST_GAIN", "need_gains", "gain_of", "best_of", "best_gathering", "need_row_costs"]
def looseL1 : List Str := ["cheapest_rows", "need_net", "net_of", "best_row", "shows_best_row", "need_priced", "cheap_row", "shows_cheap_row", "rows_from", "need_ends", "distance", "_law_taken", "_law_pick", "_law_alike", "_law_web", "_law_foes", "_law_come", "_law_done", "_law_lots", "_law_is_gathering", "_law_gatherings", "_law_row", "_law_deed", "_law_made"]
def looseL : List Str := looseL0 ++ looseL1
/-! ### the facts -/
theorem facts {P : Program} {w : World} {K : PySem.W.Frag} {h : Heap} {mg : Str → Option Value} {f : Addr} (X : K.In h) (G : h.Ns mainGlobals mg) (hfa : mg ("law" : Str) = some (.ref f)) (c : He.SaysD faL fnL K) (t : Tabs K h) :
    ∃ (fd : FuncData) (T : TT), T.G = (tabN8.map fun x => (tabC K x).2) ∧ T.L = (tabC K "rows_from").2 ∧ (∀ (s : Shared) (v : Value), BindsTo s fd ⟨[v], []⟩ [("_law_script", v)]) ∧
      ∀ base : Heap, K.In base → base.Ns mainGlobals mg → (∀ p ∈ tabN9.map (tabC K), LamX.TabB base mg p.1 p.2) → FnOk P w K mg base CX0 8 f fd ["_law_script"] (spLaw (T := T) K) := by
  obtain ⟨fd_is_in, F_is_in⟩ := c.def_ 0 (d := d_is_in) rfl
  replace F_is_in : FnP K "is_in" sIsIn (He.ga K "is_in") fd_is_in := F_is_in
  have k_is_in := c.fact 0 (f := .glo "is_in") rfl
  have m_is_in : mg "is_in" = some (.ref (He.ga K "is_in")) := He.glo_ok X G k_is_in
  obtain ⟨fd_need_web, F_need_web⟩ := c.def_ 1 (d := d_need_web) rfl
  replace F_need_web : FnP K "need_web" sNW (He.ga K "need_web") fd_need_web := F_need_web
  have k_need_web := c.fact 1 (f := .glo "need_web") rfl
  have m_need_web : mg "need_web" = some (.ref (He.ga K "need_web")) := He.glo_ok X G k_need_web
  obtain ⟨fd_are_foes, F_are_foes⟩ := c.def_ 2 (d := d_are_foes) rfl
  replace F_are_foes : FnP K "are_foes" sFoes (He.ga K "are_foes") fd_are_foes := F_are_foes
  have k_are_foes := c.fact 2 (f := .glo "are_foes") rfl
  have m_are_foes : mg "are_foes" = some (.ref (He.ga K "are_foes")) := He.glo_ok X G k_are_foes
  obtain ⟨fd_is_lot, F_is_lot⟩ := c.def_ 3 (d := d_is_lot) rfl
  replace F_is_lot : FnP K "is_lot" sIsLot (He.ga K "is_lot") fd_is_lot := F_is_lot
  have k_is_lot := c.fact 3 (f := .glo "is_lot") rfl
  have m_is_lot : mg "is_lot" = some (.ref (He.ga K "is_lot")) := He.glo_ok X G k_is_lot
  obtain ⟨fd_is_gathering, F_is_gathering⟩ := c.def_ 4 (d := d_is_gathering) rfl
  replace F_is_gathering : FnP K "is_gathering" sIsG (He.ga K "is_gathering") fd_is_gathering := F_is_gathering
  have k_is_gathering := c.fact 4 (f := .glo "is_gathering") rfl
  have m_is_gathering : mg "is_gathering" = some (.ref (He.ga K "is_gathering")) := He.glo_ok X G k_is_gathering
  obtain ⟨fd_need_gathering, F_need_gathering⟩ := c.def_ 5 (d := d_need_gathering) rfl
  replace F_need_gathering : FnP K "need_gathering" sNG (He.ga K "need_gathering") fd_need_gathering := F_need_gathering
  have k_need_gathering := c.fact 5 (f := .glo "need_gathering") rfl
  have m_need_gathering : mg "need_gathering" = some (.ref (He.ga K "need_gathering")) := He.glo_ok X G k_need_gathering
  obtain ⟨fd_all_lots, F_all_lots⟩ := c.def_ 6 (d := d_all_lots) rfl
  replace F_all_lots : FnP K "all_lots" sLots (He.ga K "all_lots") fd_all_lots := F_all_lots
  have k_all_lots := c.fact 6 (f := .glo "all_lots") rfl
  have m_all_lots : mg "all_lots" = some (.ref (He.ga K "all_lots")) := He.glo_ok X G k_all_lots
  obtain ⟨fd_all_gatherings, F_all_gatherings⟩ := c.def_ 7 (d := d_all_gatherings) rfl
  replace F_all_gatherings : FnP K "all_gatherings" sGaths (He.ga K "all_gatherings") fd_all_gatherings := F_all_gatherings
  have k_all_gatherings := c.fact 7 (f := .glo "all_gatherings") rfl
  have m_all_gatherings : mg "all_gatherings" = some (.ref (He.ga K "all_gatherings")) := He.glo_ok X G k_all_gatherings
  obtain ⟨fd_came, F_came⟩ := c.def_ 8 (d := d_came) rfl
  replace F_came : FnP K "came" sCame (He.ga K "came") fd_came := F_came
  have k_came := c.fact 8 (f := .glo "came") rfl
  have m_came : mg "came" = some (.ref (He.ga K "came")) := He.glo_ok X G k_came
  obtain ⟨fd_is_row, F_is_row⟩ := c.def_ 9 (d := d_is_row) rfl
  replace F_is_row : FnP K "is_row" sIsRow (He.ga K "is_row") fd_is_row := F_is_row
  have k_is_row := c.fact 9 (f := .glo "is_row") rfl
  have m_is_row : mg "is_row" = some (.ref (He.ga K "is_row")) := He.glo_ok X G k_is_row
  obtain ⟨fd_need_row, F_need_row⟩ := c.def_ 10 (d := d_need_row) rfl
  replace F_need_row : FnP K "need_row" sNR (He.ga K "need_row") fd_need_row := F_need_row
  have k_need_row := c.fact 10 (f := .glo "need_row") rfl
  have m_need_row : mg "need_row" = some (.ref (He.ga K "need_row")) := He.glo_ok X G k_need_row
  obtain ⟨fd_trace, F_trace⟩ := c.def_ 11 (d := d_trace) rfl
  replace F_trace : FnP K "trace" sTrace (He.ga K "trace") fd_trace := F_trace
  have k_trace := c.fact 11 (f := .glo "trace") rfl
  have m_trace : mg "trace" = some (.ref (He.ga K "trace")) := He.glo_ok X G k_trace
  obtain ⟨fd_done, F_done⟩ := c.def_ 12 (d := d_done) rfl
  replace F_done : FnP K "done" sDone (He.ga K "done") fd_done := F_done
  have k_done := c.fact 12 (f := .glo "done") rfl
  have m_done : mg "done" = some (.ref (He.ga K "done")) := He.glo_ok X G k_done
  obtain ⟨fd_cost_of, F_cost_of⟩ := c.def_ 13 (d := d_cost_of) rfl
  replace F_cost_of : FnP K "cost_of" sCost (He.ga K "cost_of") fd_cost_of := F_cost_of
  have k_cost_of := c.fact 13 (f := .glo "cost_of") rfl
  have m_cost_of : mg "cost_of" = some (.ref (He.ga K "cost_of")) := He.glo_ok X G k_cost_of
  obtain ⟨fd_gain_of, F_gain_of⟩ := c.def_ 14 (d := d_gain_of) rfl
  replace F_gain_of : FnP K "gain_of" sGain (He.ga K "gain_of") fd_gain_of := F_gain_of
  have k_gain_of := c.fact 14 (f := .glo "gain_of") rfl
  have m_gain_of : mg "gain_of" = some (.ref (He.ga K "gain_of")) := He.glo_ok X G k_gain_of
  obtain ⟨fd_need_gains, F_need_gains⟩ := c.def_ 15 (d := d_need_gains) rfl
  replace F_need_gains : FnP K "need_gains" sNGn (He.ga K "need_gains") fd_need_gains := F_need_gains
  have k_need_gains := c.fact 15 (f := .glo "need_gains") rfl
  have m_need_gains : mg "need_gains" = some (.ref (He.ga K "need_gains")) := He.glo_ok X G k_need_gains
  obtain ⟨fd_need_row_costs, F_need_row_costs⟩ := c.def_ 16 (d := d_need_row_costs) rfl
  replace F_need_row_costs : FnP K "need_row_costs" sNRC (He.ga K "need_row_costs") fd_need_row_costs := F_need_row_costs
  have k_need_row_costs := c.fact 16 (f := .glo "need_row_costs") rfl
  have m_need_row_costs : mg "need_row_costs" = some (.ref (He.ga K "need_row_costs")) := He.glo_ok X G k_need_row_costs
  obtain ⟨fd_best_of, F_best_of⟩ := c.def_ 17 (d := d_best_of) rfl
  replace F_best_of : FnP K "best_of" sBest (He.ga K "best_of") fd_best_of := F_best_of
  have k_best_of := c.fact 17 (f := .glo "best_of") rfl
  have m_best_of : mg "best_of" = some (.ref (He.ga K "best_of")) := He.glo_ok X G k_best_of
  obtain ⟨fd_best_gathering, F_best_gathering⟩ := c.def_ 18 (d := d_best_gathering) rfl
  replace F_best_gathering : FnP K "best_gathering" sBG (He.ga K "best_gathering") fd_best_gathering := F_best_gathering
  have k_best_gathering := c.fact 18 (f := .glo "best_gathering") rfl
  have m_best_gathering : mg "best_gathering" = some (.ref (He.ga K "best_gathering")) := He.glo_ok X G k_best_gathering
  obtain ⟨fd_cheapest_rows, F_cheapest_rows⟩ := c.def_ 19 (d := d_cheapest_rows) rfl
  replace F_cheapest_rows : FnP K "cheapest_rows" sRows (He.ga K "cheapest_rows") fd_cheapest_rows := F_cheapest_rows
  have k_cheapest_rows := c.fact 19 (f := .glo "cheapest_rows") rfl
  have m_cheapest_rows : mg "cheapest_rows" = some (.ref (He.ga K "cheapest_rows")) := He.glo_ok X G k_cheapest_rows
  obtain ⟨fd_rows_from, F_rows_from⟩ := c.def_ 20 (d := d_rows_from) rfl
  replace F_rows_from : FnP K "rows_from" sRF (He.ga K "rows_from") fd_rows_from := F_rows_from
  have k_rows_from := c.fact 20 (f := .glo "rows_from") rfl
  have m_rows_from : mg "rows_from" = some (.ref (He.ga K "rows_from")) := He.glo_ok X G k_rows_from
  obtain ⟨fd_need_net, F_need_net⟩ := c.def_ 21 (d := d_need_net) rfl
  replace F_need_net : FnP K "need_net" sNN (He.ga K "need_net") fd_need_net := F_need_net
  have k_need_net := c.fact 21 (f := .glo "need_net") rfl
  have m_need_net : mg "need_net" = some (.ref (He.ga K "need_net")) := He.glo_ok X G k_need_net
  obtain ⟨fd_net_of, F_net_of⟩ := c.def_ 22 (d := d_net_of) rfl
  replace F_net_of : FnP K "net_of" sNetOf (He.ga K "net_of") fd_net_of := F_net_of
  have k_net_of := c.fact 22 (f := .glo "net_of") rfl
  have m_net_of : mg "net_of" = some (.ref (He.ga K "net_of")) := He.glo_ok X G k_net_of
  obtain ⟨fd_best_row, F_best_row⟩ := c.def_ 23 (d := d_best_row) rfl
  replace F_best_row : FnP K "best_row" sBR (He.ga K "best_row") fd_best_row := F_best_row
  have k_best_row := c.fact 23 (f := .glo "best_row") rfl
  have m_best_row : mg "best_row" = some (.ref (He.ga K "best_row")) := He.glo_ok X G k_best_row
  obtain ⟨fd_shows_best_row, F_shows_best_row⟩ := c.def_ 24 (d := d_shows_best_row) rfl
  replace F_shows_best_row : FnP K "shows_best_row" sSB (He.ga K "shows_best_row") fd_shows_best_row := F_shows_best_row
  have k_shows_best_row := c.fact 24 (f := .glo "shows_best_row") rfl
  have m_shows_best_row : mg "shows_best_row" = some (.ref (He.ga K "shows_best_row")) := He.glo_ok X G k_shows_best_row
  obtain ⟨fd_need_priced, F_need_priced⟩ := c.def_ 25 (d := d_need_priced) rfl
  replace F_need_priced : FnP K "need_priced" sNP (He.ga K "need_priced") fd_need_priced := F_need_priced
  have k_need_priced := c.fact 25 (f := .glo "need_priced") rfl
  have m_need_priced : mg "need_priced" = some (.ref (He.ga K "need_priced")) := He.glo_ok X G k_need_priced
  obtain ⟨fd_cheap_row, F_cheap_row⟩ := c.def_ 26 (d := d_cheap_row) rfl
  replace F_cheap_row : FnP K "cheap_row" sCh (He.ga K "cheap_row") fd_cheap_row := F_cheap_row
  have k_cheap_row := c.fact 26 (f := .glo "cheap_row") rfl
  have m_cheap_row : mg "cheap_row" = some (.ref (He.ga K "cheap_row")) := He.glo_ok X G k_cheap_row
  obtain ⟨fd_shows_cheap_row, F_shows_cheap_row⟩ := c.def_ 27 (d := d_shows_cheap_row) rfl
  replace F_shows_cheap_row : FnP K "shows_cheap_row" sSC (He.ga K "shows_cheap_row") fd_shows_cheap_row := F_shows_cheap_row
  have k_shows_cheap_row := c.fact 27 (f := .glo "shows_cheap_row") rfl
  have m_shows_cheap_row : mg "shows_cheap_row" = some (.ref (He.ga K "shows_cheap_row")) := He.glo_ok X G k_shows_cheap_row
  obtain ⟨fd_need_ends, F_need_ends⟩ := c.def_ 28 (d := d_need_ends) rfl
  replace F_need_ends : FnP K "need_ends" sNE (He.ga K "need_ends") fd_need_ends := F_need_ends
  have k_need_ends := c.fact 28 (f := .glo "need_ends") rfl
  have m_need_ends : mg "need_ends" = some (.ref (He.ga K "need_ends")) := He.glo_ok X G k_need_ends
  obtain ⟨fd_distance, F_distance⟩ := c.def_ 29 (d := d_distance) rfl
  replace F_distance : FnP K "distance" sDist (He.ga K "distance") fd_distance := F_distance
  have k_distance := c.fact 29 (f := .glo "distance") rfl
  have m_distance : mg "distance" = some (.ref (He.ga K "distance")) := He.glo_ok X G k_distance
  obtain ⟨fd__law_taken, F__law_taken⟩ := c.def_ 30 (d := d__law_taken) rfl
  replace F__law_taken : FnP K "_law_taken" sTk (He.ga K "_law_taken") fd__law_taken := F__law_taken
  have k__law_taken := c.fact 30 (f := .glo "_law_taken") rfl
  have m__law_taken : mg "_law_taken" = some (.ref (He.ga K "_law_taken")) := He.glo_ok X G k__law_taken
  obtain ⟨fd__law_pick, F__law_pick⟩ := c.def_ 31 (d := d__law_pick) rfl
  replace F__law_pick : FnP K "_law_pick" sPk (He.ga K "_law_pick") fd__law_pick := F__law_pick
  have k__law_pick := c.fact 31 (f := .glo "_law_pick") rfl
  have m__law_pick : mg "_law_pick" = some (.ref (He.ga K "_law_pick")) := He.glo_ok X G k__law_pick
  obtain ⟨fd__law_web, F__law_web⟩ := c.def_ 32 (d := d__law_web) rfl
  replace F__law_web : FnP K "_law_web" sWb (He.ga K "_law_web") fd__law_web := F__law_web
  have k__law_web := c.fact 32 (f := .glo "_law_web") rfl
  have m__law_web : mg "_law_web" = some (.ref (He.ga K "_law_web")) := He.glo_ok X G k__law_web
  obtain ⟨fd__law_lots, F__law_lots⟩ := c.def_ 33 (d := d__law_lots) rfl
  replace F__law_lots : FnP K "_law_lots" sLL (He.ga K "_law_lots") fd__law_lots := F__law_lots
  have k__law_lots := c.fact 33 (f := .glo "_law_lots") rfl
  have m__law_lots : mg "_law_lots" = some (.ref (He.ga K "_law_lots")) := He.glo_ok X G k__law_lots
  obtain ⟨fd__law_is_gathering, F__law_is_gathering⟩ := c.def_ 34 (d := d__law_is_gathering) rfl
  replace F__law_is_gathering : FnP K "_law_is_gathering" sLI (He.ga K "_law_is_gathering") fd__law_is_gathering := F__law_is_gathering
  have k__law_is_gathering := c.fact 34 (f := .glo "_law_is_gathering") rfl
  have m__law_is_gathering : mg "_law_is_gathering" = some (.ref (He.ga K "_law_is_gathering")) := He.glo_ok X G k__law_is_gathering
  obtain ⟨fd__law_gatherings, F__law_gatherings⟩ := c.def_ 35 (d := d__law_gatherings) rfl
  replace F__law_gatherings : FnP K "_law_gatherings" sLG (He.ga K "_law_gatherings") fd__law_gatherings := F__law_gatherings
  have k__law_gatherings := c.fact 35 (f := .glo "_law_gatherings") rfl
  have m__law_gatherings : mg "_law_gatherings" = some (.ref (He.ga K "_law_gatherings")) := He.glo_ok X G k__law_gatherings
  obtain ⟨fd_law, F_law⟩ := c.def_ 36 (d := d_law) rfl
  replace F_law : FnP K "law" sLw (He.ga K "law") fd_law := F_law
  have k_law := c.fact 36 (f := .glo "law") rfl
  have m_law : mg "law" = some (.ref (He.ga K "law")) := He.glo_ok X G k_law
  have B : Bt mg := ⟨He.free_ok X G (c.fact 37 (f := .free "isinstance") rfl), He.free_ok X G (c.fact 38 (f := .free "int") rfl), He.free_ok X G (c.fact 39 (f := .free "bool") rfl), He.free_ok X G (c.fact 40 (f := .free "tuple") rfl), He.free_ok X G (c.fact 41 (f := .free "len") rfl), He.free_ok X G (c.fact 42 (f := .free "range") rfl), He.free_ok X G (c.fact 43 (f := .free "any") rfl), He.free_ok X G (c.fact 44 (f := .free "all") rfl), He.free_ok X G (c.fact 45 (f := .free "sum") rfl), He.free_ok X G (c.fact 46 (f := .free "sorted") rfl), He.free_ok X G (c.fact 47 (f := .free "max") rfl), He.free_ok X G (c.fact 48 (f := .free "min") rfl), He.int_ok X G (c.fact 49 (f := .int "MOST_PEOPLE" 7) rfl), He.int_ok X G (c.fact 50 (f := .int "MOST_ROW" 30) rfl), He.int_ok X G (c.fact 51 (f := .int "MOST_GAIN" 1000) rfl), He.int_ok X G (c.fact 52 (f := .int "MOST_COST" 1000) rfl)⟩
  have e := hfa.symm.trans m_law
  cases e
  have bind := FunD.bindsA (ps := ["_law_script"]) F_law fun _ _ _ _ _ _ us hl => match us, hl with | [_], _ => rfl
  let T : TT := ⟨tabN8.map fun x => (tabC K x).2, (tabC K "rows_from").2, ("rows_from.<locals>.<lambda>" : Str), t.nd⟩
  refine ⟨fd_law, T, rfl, rfl, fun s v => bind s [v] rfl, fun base Xb Gb hT => ?_⟩
  have n_need_web : ("need_web" : Str) ∈ tabN9 := List.mem_of_getElem? (i := 0) rfl
  have O_need_web : Own base mg fd_need_web (tabC K "need_web").1 (tabC K "need_web").2 := ⟨own_code F_need_web k_need_web (t.all _ n_need_web).at_, hT _ (List.mem_map_of_mem n_need_web)⟩
  have h_need_web : (tabC K "need_web").2 ∈ T.G := List.mem_map_of_mem (f := fun x => (tabC K x).2) (show ("need_web" : Str) ∈ tabN8 from List.mem_of_getElem? (i := 0) rfl)
  have n_is_lot : ("is_lot" : Str) ∈ tabN9 := List.mem_of_getElem? (i := 1) rfl
  have O_is_lot : Own base mg fd_is_lot (tabC K "is_lot").1 (tabC K "is_lot").2 := ⟨own_code F_is_lot k_is_lot (t.all _ n_is_lot).at_, hT _ (List.mem_map_of_mem n_is_lot)⟩
  have h_is_lot : (tabC K "is_lot").2 ∈ T.G := List.mem_map_of_mem (f := fun x => (tabC K x).2) (show ("is_lot" : Str) ∈ tabN8 from List.mem_of_getElem? (i := 1) rfl)
  have n_is_gathering : ("is_gathering" : Str) ∈ tabN9 := List.mem_of_getElem? (i := 2) rfl
  have O_is_gathering : Own base mg fd_is_gathering (tabC K "is_gathering").1 (tabC K "is_gathering").2 := ⟨own_code F_is_gathering k_is_gathering (t.all _ n_is_gathering).at_, hT _ (List.mem_map_of_mem n_is_gathering)⟩
  have h_is_gathering : (tabC K "is_gathering").2 ∈ T.G := List.mem_map_of_mem (f := fun x => (tabC K x).2) (show ("is_gathering" : Str) ∈ tabN8 from List.mem_of_getElem? (i := 2) rfl)
  have n_is_row : ("is_row" : Str) ∈ tabN9 := List.mem_of_getElem? (i := 3) rfl
  have O_is_row : Own base mg fd_is_row (tabC K "is_row").1 (tabC K "is_row").2 := ⟨own_code F_is_row k_is_row (t.all _ n_is_row).at_, hT _ (List.mem_map_of_mem n_is_row)⟩
  have h_is_row : (tabC K "is_row").2 ∈ T.G := List.mem_map_of_mem (f := fun x => (tabC K x).2) (show ("is_row" : Str) ∈ tabN8 from List.mem_of_getElem? (i := 3) rfl)
  have n_cost_of : ("cost_of" : Str) ∈ tabN9 := List.mem_of_getElem? (i := 4) rfl
  have O_cost_of : Own base mg fd_cost_of (tabC K "cost_of").1 (tabC K "cost_of").2 := ⟨own_code F_cost_of k_cost_of (t.all _ n_cost_of).at_, hT _ (List.mem_map_of_mem n_cost_of)⟩
  have h_cost_of : (tabC K "cost_of").2 ∈ T.G := List.mem_map_of_mem (f := fun x => (tabC K x).2) (show ("cost_of" : Str) ∈ tabN8 from List.mem_of_getElem? (i := 4) rfl)
  have n_gain_of : ("gain_of" : Str) ∈ tabN9 := List.mem_of_getElem? (i := 5) rfl
  have O_gain_of : Own base mg fd_gain_of (tabC K "gain_of").1 (tabC K "gain_of").2 := ⟨own_code F_gain_of k_gain_of (t.all _ n_gain_of).at_, hT _ (List.mem_map_of_mem n_gain_of)⟩
  have h_gain_of : (tabC K "gain_of").2 ∈ T.G := List.mem_map_of_mem (f := fun x => (tabC K x).2) (show ("gain_of" : Str) ∈ tabN8 from List.mem_of_getElem? (i := 5) rfl)
  have n_need_gains : ("need_gains" : Str) ∈ tabN9 := List.mem_of_getElem? (i := 6) rfl
  have O_need_gains : Own base mg fd_need_gains (tabC K "need_gains").1 (tabC K "need_gains").2 := ⟨own_code F_need_gains k_need_gains (t.all _ n_need_gains).at_, hT _ (List.mem_map_of_mem n_need_gains)⟩
  have h_need_gains : (tabC K "need_gains").2 ∈ T.G := List.mem_map_of_mem (f := fun x => (tabC K x).2) (show ("need_gains" : Str) ∈ tabN8 from List.mem_of_getElem? (i := 6) rfl)
  have n_need_row_costs : ("need_row_costs" : Str) ∈ tabN9 := List.mem_of_getElem? (i := 7) rfl
  have O_need_row_costs : Own base mg fd_need_row_costs (tabC K "need_row_costs").1 (tabC K "need_row_costs").2 := ⟨own_code F_need_row_costs k_need_row_costs (t.all _ n_need_row_costs).at_, hT _ (List.mem_map_of_mem n_need_row_costs)⟩
  have h_need_row_costs : (tabC K "need_row_costs").2 ∈ T.G := List.mem_map_of_mem (f := fun x => (tabC K x).2) (show ("need_row_costs" : Str) ∈ tabN8 from List.mem_of_getElem? (i := 7) rfl)
  have n_rows_from : ("rows_from" : Str) ∈ tabN9 := List.mem_of_getElem? (i := 8) rfl
  have O_rows_from : Own base mg fd_rows_from (tabC K "rows_from").1 (tabC K "rows_from").2 := ⟨own_code F_rows_from k_rows_from (t.all _ n_rows_from).at_, hT _ (List.mem_map_of_mem n_rows_from)⟩
  have G_is_in : FnOk P w K mg base CX0 1 (He.ga K "is_in") fd_is_in ["value", "least", "most"] spIsIn := ok_isIn F_is_in B
  have G_need_web : FnOk P w K mg base CX0 2 (He.ga K "need_web") fd_need_web ["web"] (spNeedWeb T) := ok_needWeb F_need_web F_is_in m_is_in O_need_web h_need_web B
  have G_are_foes : FnOk P w K mg base CX0 1 (He.ga K "are_foes") fd_are_foes ["web", "one", "other"] spFoes := ok_foes F_are_foes B
  have G_is_lot : FnOk P w K mg base CX0 3 (He.ga K "is_lot") fd_is_lot ["web", "value"] (spIsLot T) := ok_isLot F_is_lot F_is_in m_is_in O_is_lot h_is_lot B
  have G_is_gathering : FnOk P w K mg base CX0 4 (He.ga K "is_gathering") fd_is_gathering ["web", "value"] (spIsG T) := ok_isG F_is_gathering F_is_lot m_is_lot G_is_lot O_is_gathering h_is_gathering B
  have G_need_gathering : FnOk P w K mg base CX0 5 (He.ga K "need_gathering") fd_need_gathering ["web", "gathering"] (spNeedG T) := ok_needG F_need_gathering F_is_gathering m_is_gathering G_is_gathering F_need_web m_need_web G_need_web
  have G_all_lots : FnOk P w K mg base CX0 1 (He.ga K "all_lots") fd_all_lots ["web"] spLots := ok_lots F_all_lots B
  have G_all_gatherings : FnOk P w K mg base CX0 5 (He.ga K "all_gatherings") fd_all_gatherings ["web"] (spGaths T) := ok_gaths F_all_gatherings F_all_lots m_all_lots G_all_lots F_is_gathering m_is_gathering G_is_gathering
  have G_came : FnOk P w K mg base CX0 2 (He.ga K "came") fd_came ["web", "gathering", "person"] spCame := ok_came F_came F_are_foes m_are_foes B
  have G_is_row : FnOk P w K mg base CX0 3 (He.ga K "is_row") fd_is_row ["web", "value"] (spIsRow T) := ok_isRow F_is_row F_is_in m_is_in O_is_row h_is_row B
  have G_need_row : FnOk P w K mg base CX0 4 (He.ga K "need_row") fd_need_row ["web", "row"] (spNeedRow T) := ok_needRow F_need_row F_is_row m_is_row G_is_row
  have G_trace : FnOk P w K mg base CX0 3 (He.ga K "trace") fd_trace ["web", "gathering", "row"] spTrace := ok_trace F_trace F_came m_came G_came
  have G_done : FnOk P w K mg base CX0 6 (He.ga K "done") fd_done ["web", "gathering", "row"] (spDone T) := ok_done F_done F_need_gathering m_need_gathering G_need_gathering F_need_row m_need_row G_need_row F_trace m_trace G_trace
  have G_cost_of : FnOk P w K mg base CX0 1 (He.ga K "cost_of") fd_cost_of ["costs", "lot"] (spSum T) := ok_cost F_cost_of O_cost_of h_cost_of B
  have G_gain_of : FnOk P w K mg base CX0 1 (He.ga K "gain_of") fd_gain_of ["gains", "gathering"] (spSum T) := ok_gain F_gain_of O_gain_of h_gain_of B
  have G_need_gains : FnOk P w K mg base CX0 3 (He.ga K "need_gains") fd_need_gains ["web", "gains"] (spNeedN T) := ok_needGains F_need_gains F_is_in m_is_in O_need_gains h_need_gains B
  have G_need_row_costs : FnOk P w K mg base CX0 3 (He.ga K "need_row_costs") fd_need_row_costs ["web", "costs"] (spNeedN T) := ok_needCosts F_need_row_costs F_is_in m_is_in O_need_row_costs h_need_row_costs B
  have G_best_of : FnOk P w K mg base CX0 6 (He.ga K "best_of") fd_best_of ["web", "gains"] (spBest T) := ok_best F_best_of F_all_gatherings m_all_gatherings G_all_gatherings F_gain_of m_gain_of G_gain_of B
  have G_best_gathering : FnOk P w K mg base CX0 7 (He.ga K "best_gathering") fd_best_gathering ["web", "gains"] (spBest T) := ok_bestG F_best_gathering F_need_web m_need_web G_need_web F_need_gains m_need_gains G_need_gains F_best_of m_best_of G_best_of
  have G_cheapest_rows : FnOk P w K mg base CX0 3 (He.ga K "cheapest_rows") fd_cheapest_rows ["web", "start", "costs"] (spRows T) := ok_rows F_cheapest_rows F_came m_came G_came B
  have G_rows_from : FnOk P w K mg base CX0 3 (He.ga K "rows_from") fd_rows_from ["web", "start"] (spRowsFrom T) := ok_rowsFrom (Pt := (tabC K "rows_from").2) F_rows_from F_came m_came G_came O_rows_from rfl B
  have G_need_net : FnOk P w K mg base CX0 6 (He.ga K "need_net") fd_need_net ["web", "start", "costs", "gains"] (spNeedNet T) := ok_needNet F_need_net F_need_gathering m_need_gathering G_need_gathering F_need_row_costs m_need_row_costs G_need_row_costs F_need_gains m_need_gains G_need_gains
  have G_net_of : FnOk P w K mg base CX0 4 (He.ga K "net_of") fd_net_of ["web", "start", "costs", "gains"] (spNet T) := ok_netOf F_net_of F_cheapest_rows m_cheapest_rows G_cheapest_rows F_gain_of m_gain_of G_gain_of B
  have G_best_row : FnOk P w K mg base CX0 7 (He.ga K "best_row") fd_best_row ["web", "start", "costs", "gains"] (spNet T) := ok_bestRow F_best_row F_need_net m_need_net G_need_net F_net_of m_net_of G_net_of
  have G_shows_best_row : FnOk P w K mg base CX0 7 (He.ga K "shows_best_row") fd_shows_best_row ["web", "start", "costs", "gains", "value"] (spShowsNet T) := ok_showsBest F_shows_best_row F_need_net m_need_net G_need_net F_net_of m_net_of G_net_of F_is_in m_is_in F_is_row m_is_row G_is_row F_gain_of m_gain_of G_gain_of F_trace m_trace G_trace F_cost_of m_cost_of G_cost_of B
  have G_need_priced : FnOk P w K mg base CX0 6 (He.ga K "need_priced") fd_need_priced ["web", "start", "goal", "costs"] (spNeedPr T) := ok_needPr F_need_priced F_need_gathering m_need_gathering G_need_gathering F_is_gathering m_is_gathering G_is_gathering F_need_row_costs m_need_row_costs G_need_row_costs
  have G_cheap_row : FnOk P w K mg base CX0 7 (He.ga K "cheap_row") fd_cheap_row ["web", "start", "goal", "costs"] (spCheap T) := ok_cheap F_cheap_row F_need_priced m_need_priced G_need_priced F_cheapest_rows m_cheapest_rows G_cheapest_rows
  have G_shows_cheap_row : FnOk P w K mg base CX0 7 (He.ga K "shows_cheap_row") fd_shows_cheap_row ["web", "start", "goal", "costs", "value"] (spShowsCheap T) := ok_showsCheap F_shows_cheap_row F_need_priced m_need_priced G_need_priced F_cheapest_rows m_cheapest_rows G_cheapest_rows F_is_in m_is_in F_is_row m_is_row G_is_row F_trace m_trace G_trace F_cost_of m_cost_of G_cost_of B
  have G_need_ends : FnOk P w K mg base CX0 6 (He.ga K "need_ends") fd_need_ends ["web", "start", "goal"] (spNeedEnds T) := ok_needEnds F_need_ends F_need_gathering m_need_gathering G_need_gathering F_is_gathering m_is_gathering G_is_gathering
  have G_distance : FnOk P w K mg base CX0 7 (He.ga K "distance") fd_distance ["web", "start", "goal"] (spDist T) := ok_dist F_distance F_need_ends m_need_ends G_need_ends F_rows_from m_rows_from G_rows_from B
  have G__law_taken : FnOk P w K mg base CX0 1 (He.ga K "_law_taken") fd__law_taken ["_law_row_here", "_law_many"] (spTaken K) := ok_taken F__law_taken B
  have G__law_pick : FnOk P w K mg base CX0 2 (He.ga K "_law_pick") fd__law_pick ["_law_row_here", "_law_things"] (spPick K) := ok_pick F__law_pick F__law_taken m__law_taken G__law_taken B
  have G__law_web : FnOk P w K mg base CX0 2 (He.ga K "_law_web") fd__law_web ["_law_row_here", "_law_most"] (spWeb K) := ok_web F__law_web F__law_taken m__law_taken G__law_taken B
  have G__law_lots : FnOk P w K mg base CX0 1 (He.ga K "_law_lots") fd__law_lots ["_law_web_here"] spLots := ok_lawLots F__law_lots B
  have G__law_is_gathering : FnOk P w K mg base CX0 1 (He.ga K "_law_is_gathering") fd__law_is_gathering ["_law_web_here", "_law_lot"] spLIsG := ok_lawIsG F__law_is_gathering B
  have G__law_gatherings : FnOk P w K mg base CX0 2 (He.ga K "_law_gatherings") fd__law_gatherings ["_law_web_here"] spLG := ok_lawG F__law_gatherings F__law_lots m__law_lots G__law_lots F__law_is_gathering m__law_is_gathering G__law_is_gathering
  exact ok_law F_law F__law_taken m__law_taken G__law_taken F__law_pick m__law_pick G__law_pick F__law_web m__law_web G__law_web F__law_gatherings m__law_gatherings G__law_gatherings F_best_row m_best_row G_best_row F_best_gathering m_best_gathering G_best_gathering F_shows_best_row m_shows_best_row G_shows_best_row F_cheap_row m_cheap_row G_cheap_row F_distance m_distance G_distance F_done m_done G_done F_shows_cheap_row m_shows_cheap_row G_shows_cheap_row B
abbrev RR : PySem.W.OpenRow := PySem.W.OpenLaw.row PySem.Challenge.rw_foescome_k66_across_net_rows
abbrev hk : PySem.W.Hook := hookF 2 faL fnL
def ob (s : PySem.W.SharedT) : He.AlD × Bool := obF 2 faL fnL (HandSHeadRun.getT s)
theorem ob_eq (s : PySem.W.SharedT) : ob s = hk.obs s.abs := obF_eq (HandSHeadRun.getT_eq s)
theorem headRun (w : World) : HandSHeadRun.RunEq RR (PySem.W.view RR.prog [60]) hk ob 4000 looseL w := by
  intro os
  kernel_rfl
end Fo
open PySem PySem.W PySem.Calls PyProof.Rows
theorem PySem.Challenge.cw_foescome_k66_across_net_rows_holds : PySem.Challenge.rw_foescome_k66_across_net_rows.Holds := by
  w_on; o_law
  refine HandSHeadRun.head_any (r := OpenLaw.row PySem.Challenge.rw_foescome_k66_across_net_rows) (q := view (OpenLaw.row PySem.Challenge.rw_foescome_k66_across_net_rows).prog [60]) (H := Fo.hk) (ob := Fo.ob) (M := 4000) (loose := Fo.looseL) (d := HandSHeadRun.topDef (OpenLaw.row PySem.Challenge.rw_foescome_k66_across_net_rows).prog 60) (kwd := []) Fo.ob_eq
    (by kernel_rfl) (fun s => by kernel_rfl) Fo.headRun (by kernel_rfl) (by kernel_rfl) (by kernel_rfl) (by rfl) (by first | assumption | decide +kernel) (by decide +kernel) ⟨rfl, rfl, rfl, rfl, rfl, by decide +kernel⟩ ?hw ?hc
  case hw => w_witness2
  case hc =>
    refine LamX.walk_ofTsE (l := PySem.Challenge.rw_foescome_k66_across_net_rows) (n := 63) (k := 8) (x := "_law_script") (CX := fun _ => L2.CX0) rfl (by decide) (by kernel_rfl) ⟨rfl, by decide, by decide⟩ ?F (fun _ _ _ _ _ z => z)
    intro w mg fa h Y G hmg0
    obtain ⟨K, KX, c, t⟩ := Y
    have hmg : mg ("law" : PySem.Str) = some (.ref fa) := by
      have e : (HandSHeadRun.topDef (OpenLaw.row PySem.Challenge.rw_foescome_k66_across_net_rows).prog 60).name = ("law" : PySem.Str) := by kernel_rfl
      rw [← e]
      exact hmg0
    obtain ⟨fd, T, hG, hL, hb, hF⟩ := Fo.facts (P := (PySem.Challenge.rw_foescome_k66_across_net_rows).prog) (w := w) KX G hmg c t
    have mem9 : ∀ p ∈ Fo.tabN9.map (Fo.tabC K), ∃ x ∈ Fo.tabN9, Fo.tabC K x = p := fun p hp => List.mem_map.mp hp
    refine ⟨K, KX, fd, Fo.tabN9.map (Fo.tabC K), Fo.spLaw (T := T) K, fun p hp => ?_, fun p hp => ?_, fun p hp => ?_, hb, fun H a ns hl _ hT hS => ⟨a, ns, rfl, hS, hl, ⟨fun Q hQ => ?_, ?_⟩, fun _ => rfl⟩, hF⟩
    · obtain ⟨x, hx, rfl⟩ := mem9 p hp
      exact (t.all x hx).emp
    · obtain ⟨x, hx, rfl⟩ := mem9 p hp
      exact (t.all x hx).out
    · obtain ⟨x, hx, rfl⟩ := mem9 p hp
      exact codeHd_of_K KX (t.all x hx).hd
    · rw [hG] at hQ
      obtain ⟨x, hx, rfl⟩ := List.mem_map.mp hQ
      exact ⟨#[], hT _ (List.mem_map_of_mem (f := Fo.tabC K) (Fo.mem89 hx)), trivial⟩
    · rw [hL]
      exact LamX.TabS.nil (hT _ (List.mem_map_of_mem (f := Fo.tabC K) (show ("rows_from" : PySem.Str) ∈ Fo.tabN9 from List.mem_of_getElem? (i := 8) rfl)))

end FoEnd
