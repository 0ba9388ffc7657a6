import PyProof.Rows.All
import Wide.All
import OpenK.AllK
import Wide.FinOn
import HandS.ForMost
import HandS.AnyAll
import HandS.GenList
import HandS.Walk
import PyProof.WalksMore
import KE.SortData
import HandS.Star
import HandS.TupAny
import HandS.IsInst
import HandS.Conv
import HandS.Strs
import KE.GoesEnum
import KE.GoesMore
import KE.DataMinMax
import HandS.SetFor
import HandS.Words
import HandS.WordsList
import HandS.HeadHook4
import HandS.EndTab
import KE.KStateDown
import HandS.Head0
import HandS.Head1
import HandS.Head2
import HandS.HeadEnd
import HandS.HeadWalk
import PySem.Challenge.RW_groupdeeds_k25_whole_told_pairs
set_option Elab.async false
set_option linter.all false
set_option maxRecDepth 100000
set_option maxHeartbeats 0
/-! all(e for x in it), any(e for x in it): the element any reading of the layer (it may call defs, make objects, grow tables). -/
namespace Tg
open PySem PySem.Spec PyProof.Rows L2 GxR GenW

/-- the names of a generator expression's own scope: like a comprehension's block, no cell among them -/
structure GenOk (N : List Str) (sc scope : Scope) (own : List (Str × Nat)) : Prop where
  blk : BlkOk N sc scope own
  co : scope.isCoroutine = false
  nocell : ∀ y ∈ scope.names, y.2 ≠ .cell
  dot : scope.names.lookup (".0" : Str) = some NameKind.local

abbrev genv (X : Cx) (scope : Scope) (C : Addr) (code : Value) : Env := genEnv scope (cloFrom X.env.cells scope.names []) C code builtinsNs X.env

/-- the context of a generator expression's frame that was made at s -/
abbrev gcx (X : Cx) (A : Around) (s : Shared) (H : Hp) (cenv : Env) (fp : List Addr) (pn : List (Addr × Obj)) : Cx :=
  { X with A := A, s_0 := s, H_0 := H, env := cenv, outer := X.stack, stack := cenv :: X.stack, ex := fp, fn := fun _ => false, calm := true, pn := pn, xe := fun _ _ => False }

section
variable {X : Cx} {pins : List (Addr × Obj)} {σ : L2.St} {H : Hp} {s : Shared}
theorem GenOk.has {N : List Str} {scope : Scope} {own : List (Str × Nat)} (g : GenOk N X.env.scope scope own) (ok : X.Ok) : ∀ y ∈ scope.names, y.2 = .free → ∃ c, X.env.cells.lookup y.1 = some c := fun y hy e => by
  rcases g.blk.free y hy e with k | k
  · exact ok.has _ (.inl k)
  · exact ok.has _ (.inr k)

theorem gen_start {scope : Scope} {own : List (Str × Nat)} {fp : List Addr} {A : Around} {code : Value} {a : Addr} {go : Obj} {s5 : Shared} {m : Str → Option Value} (I : Inv X pins σ H s) (g : GenOk X.N X.env.scope scope own) (hN : X.N.Nodup)
    (hfp : ∀ b ∈ fp, FpOk X pins H b ∧ b < s.heap.objs.size) (hA : A.handled = none) (hfr : A.frames = some (genv X scope s.heap.objs.size code :: X.stack))
    (kp : ∀ b o, s.heap.get? b = some o → s5.heap.get? b = some o) (hns : s5.heap.Ns s.heap.objs.size m) (ha : s5.heap.get? a = some go) (hal : s.heap.objs.size < a) (god : ∀ v, go.data ≠ .cell v) (hos : s5.os = s.os) (hb : AllBare s5.gens) :
    Inv (gcx X A s H (genv X scope s.heap.objs.size code) fp [(a, go)]) [] (wipe σ (own.map (·.2))) H s5 := by
  have hfree := g.has I.ok
  have cm : ∀ {y c}, (cloFrom X.env.cells scope.names []).lookup y = some c → X.env.cells.lookup y = some c := fun {y c} e => by
    rcases cloFrom_mem (PySem.mem_of_lookup e) with hm | ⟨h1, h2⟩
    · cases hm
    · obtain ⟨c1, hc⟩ := hfree _ h1 rfl
      have hc : X.env.cells.lookup y = some c1 := hc
      have e2 : c = c1 := by
        rw [h2, hc] <;> rfl
      rw [e2]
      exact hc
  have look : ∀ {y}, scope.names.lookup y = some .free → ∃ c, (cloFrom X.env.cells scope.names []).lookup y = some c := fun {y} hl => by
    have hy : (y, NameKind.free) ∈ scope.names := PySem.mem_of_lookup hl
    exact mem_lookup (cloFrom_has (cells := X.env.cells) (acc := []) hy)
  have cellK : ∀ {c : Addr} {v : Option Value}, s.heap.IsCell c v → s5.heap.IsCell c v := fun {c v} ⟨o, ho, hd⟩ => ⟨o, kp _ _ ho, hd⟩
  have hlt : X.env.locals < s.heap.objs.size := I.lt
  refine ⟨⟨I.ok.mod, g.blk.kind, I.ok.glob, rfl, Nat.le_refl _, fun y z c e1 e2 => I.ok.inj y z c (cm e1) (cm e2), fun y hy => ?_, fun y c z _ => ?_, fun _ => hA, hfr, .inr ⟨rfl, rfl⟩, fun b hb => ⟨?_, fun y c e z => ?_⟩, I.bs, Nat.le_trans I.ok.bsz I.sz, fun b o e hb => ?_, fun b hb z => ?_, I.stack, I.stkFree⟩,
    hos, hb, Un.kept kp, ⟨m, hns, fun i y v e1 e2 e3 => ?_⟩, fun y c e => ?_, I.hok.fresh (Nat.le_refl _), fun y c e => ?_, fun p hp => ?_, I.hok.kept kp, by rw [wipe_length]; exact I.len⟩
  · have hy : scope.names.lookup y = some .cell ∨ scope.names.lookup y = some .free := hy
    rcases hy with hy | hy
    · exact absurd rfl (g.nocell _ (PySem.mem_of_lookup hy))
    · exact look hy
  · have z : false = true := z
    cases z
  · show b ≠ s.heap.objs.size
    exact Nat.ne_of_lt (hfp b hb).2
  · exact (hfp b hb).1.2.2.2.2.1 y c (cm e) z
  · rcases (hfp b hb).1.2.2.2.1 with z | z
    · exact I.ok.noex b o e z
    · exact absurd (Nat.lt_of_lt_of_le (Heap.lt_size e) (Nat.le_trans I.ok.bsz z)) (Nat.lt_irrefl _)
  · rcases List.mem_cons.mp (I.stkSub b z) with z | z
    · exact (hfp b hb).1.2.1 z
    · exact (hfp b hb).1.2.2.1 z
  · obtain ⟨e2, hne⟩ := wipe_some e2
    have no : ∀ k, scope.names.lookup y = some k → ¬ (k = .local ∨ k = .cell) := fun k e hh => by
      rcases g.blk.own _ (PySem.mem_of_lookup e) hh with e' | e'
      · obtain ⟨p, hp, hpy⟩ := List.mem_map.mp e'
        have e3 := g.blk.ix p hp
        have : p.1 = y := hpy
        rw [this] at e3
        exact hne (List.mem_map.mpr ⟨p, hp, nodup_ix hN e3 e1⟩)
      · exact e' (List.mem_of_getElem? e1)
    have e3 : Vis scope y := e3
    rcases e3 with k | k | k
    · exact absurd (.inl rfl) (no _ k)
    · exact absurd (.inr rfl) (no _ k)
    · obtain ⟨m', hn, hl⟩ := I.loc
      have hvis : Vis X.env.scope y := (g.blk.free _ (PySem.mem_of_lookup k) rfl).elim (fun k => .inr (.inl k)) (fun k => .inr (.inr k))
      obtain ⟨w', r, q⟩ := hl i y v e1 e2 hvis
      obtain ⟨c2, h2⟩ := look k
      refine ⟨w', r, .inr ⟨.inr k, c2, h2, ?_⟩⟩
      have c1 := cm h2
      rcases q with ⟨k', _⟩ | ⟨_, c3, e', z⟩
      · have k' : X.env.scope.names.lookup y = some .local := k'
        rcases g.blk.free _ (PySem.mem_of_lookup k) rfl with k2 | k2 <;> rw [show X.env.scope.names.lookup y = _ from k2] at k' <;> cases k'
      · rw [c1] at e'
        cases e'
        exact cellK z
  · obtain ⟨w', z⟩ := I.cell y c (cm e)
    exact ⟨w', cellK z⟩
  · exact I.freeC y c (cm e)
  · have hp : p ∈ [(a, go)] := by simpa using hp
    rw [List.mem_singleton.mp hp]
    refine ⟨ha, I.hok.fresh (Nat.le_of_lt hal), Nat.ne_of_gt hal, fun z => ?_, god⟩
    rcases List.mem_cons.mp (I.stkSub a z) with z | z
    · rw [z] at hal
      exact absurd (Nat.lt_trans hal hlt) (Nat.lt_irrefl _)
    · exact I.nofs (Nat.le_of_lt hal) z
end

theorem over_gen {A : Around} {elt tg iter : Expr} {ifs : List Expr} {scope : Scope} {pos : Pos} {it acc : Value} {env : Env} :
    A.over (.compLoop (.GeneratorExp elt [⟨tg, iter, ifs, 0⟩] scope pos) 0 it acc env) [] = A.deeper env := by
  first
    | rfl
    | (obtain ⟨hd, d, fr, gs, u⟩ := A; simp [Around.over, Around.deeper, marksOver, frameCount, unitsOf, envsOf, guardsOf, pushEnvs, pushGuards, Code.envs, Code.env?, Code.isFrame, Code.guards, Code.isGuard, Code.weight, Code.frames, Code.isCreation, Code.isCaller, Code.cUnits])
theorem over_gen0 {A : Around} {elt tg iter : Expr} {ifs : List Expr} {scope : Scope} {pos : Pos} {it acc : Value} {env : Env} :
    A.over (.compStart (.GeneratorExp elt [⟨tg, iter, ifs, 0⟩] scope pos) 0 it acc env) [] = A.deeper env := by
  first
    | rfl
    | (obtain ⟨hd, d, fr, gs, u⟩ := A; simp [Around.over, Around.deeper, marksOver, frameCount, unitsOf, envsOf, guardsOf, pushEnvs, pushGuards, Code.envs, Code.env?, Code.isFrame, Code.guards, Code.isGuard, Code.weight, Code.frames, Code.isCreation, Code.isCaller, Code.cUnits])

/-- what is known of the generator's frame at a pause or at the end -/
def GIv (G : Cx) (H : Hp) (s : Shared) : Prop := ∃ pins σ, Inv G pins σ H s
/-- the consumer's own objects (at pS) stand as they stood at s0 -/
def HeldS (pS : List Addr) (s0 s : Shared) : Prop := ∀ b ∈ pS, ∀ o, s0.heap.get? b = some o → s.heap.get? b = some o
/-- the end of the items -/
def FinG (G : Cx) (pS : List Addr) (Q : Hp → Prop) (s0 s : Shared) : Prop := HeldS pS s0 s ∧ ∃ H, GIv G H s ∧ Q H
/-- while the generator sleeps the consumer changes its own objects alone -/
structure SleptS (pS : List Addr) (s s' : Shared) : Prop where
  os : s'.os = s.os
  bare : AllBare s'.gens
  keep : ∀ b o, b ∉ pS → s.heap.get? b = some o → s'.heap.get? b = some o
  own : ∀ b ∈ pS, ∃ o, s'.heap.get? b = some o ∧ ∀ v, o.data ≠ .cell v
/-- an item is given out: y, the heap; kap: the generator may go on -/
def YieldG (G : Cx) (pS : List Addr) (Y : V → Hp → (Prop) → Prop) : Protocol := fun _ s0 v s kap =>
  HeldS pS s0 s ∧ ∃ y H, RelV y v ∧ GIv G H s ∧ Y y H (∀ s', SleptS pS s s' → kap (.send .none) s')
/-- where the consumer's objects stand -/
def PsOk (G : Cx) (pS : List Addr) : Prop := ∀ b ∈ pS, G.s_0.heap.objs.size ≤ b ∧ b ≠ G.env.locals ∧ (∀ x c, G.env.cells.lookup x = some c → c ≠ b) ∧ (∀ p ∈ G.pn, p.1 ≠ b) ∧ b ∉ G.fs ∧ b ∉ G.ex

theorem pinsAt_mem {fp : List Addr} {h : Heap} {p : Addr × Obj} (hp : p ∈ pinsAt fp h) : p.1 ∈ fp := (of_pinsAt hp).1

theorem Inv.slept {G : Cx} {pl pS : List (Addr × Obj)} {ps : List Addr} {σ : L2.St} {H : Hp} {s s' : Shared} (I : Inv G pl σ H s) (ok : PsOk G ps) (hn : ∀ b ∈ ps, H b = none) (z : SleptS ps s s') : Inv G (pinsAt ps s'.heap) σ H s' := by
  have I0 : Inv G [] σ H s := I.pins_of fun p hp => absurd hp (by simp)
  obtain ⟨z1, z2, z3, z4⟩ := z
  obtain ⟨hh, g, d, t, o⟩ := s'
  have ho : o = s.os := z1
  subst ho
  have J : Inv G [] σ H { s with heap := hh, gens := g, drawn := d, toks := t } := by
    refine I0.step (g' := g) (t' := t) (d' := d) (ch := ps) (fun b hb => ?_)
      (fun b ob _ _ hc q _ => z3 b ob hc q) (fun b ob _ _ hc q _ => ⟨ob.slots, z3 b ob hc q⟩) (fun _ _ _ _ n => n) (fun b ob hc q => ⟨ob, z3 b ob hc q⟩)
      (fun _ _ q => q) (fun _ _ _ q => q) (fun b ps q => ⟨#[], by rw [q]; simp⟩) (fun m hm => ?_) (fun b u q => ?_) z2
    · obtain ⟨a1, a2, a3, a4, _, _⟩ := ok b hb
      exact ⟨.inr a1, a2, a3, fun p hp => a4 p (by simpa using hp)⟩
    · obtain ⟨ob, es, ep, ho, r⟩ := hm
      exact ⟨ob, es, ep, z3 _ ob (fun q => (ok _ q).2.1 rfl) ho, r⟩
    · have nt : ∀ c v, H c = some v → c ∉ ps := fun c v e q => by rw [hn c q] at e; cases e
      refine (I0.hok b u q).stay (fun c v hc y => z3 c v ?_ y) (fun _ y => y) fun _ _ y => y
      rcases hc with y | y
      · rw [y]; exact nt b u q
      · exact nt c _ y
  refine J.pins_of fun p hp => ?_
  obtain ⟨h1, h2⟩ := of_pinsAt hp
  obtain ⟨a1, a2, a3, a4, a5, a6⟩ := ok _ h1
  obtain ⟨o, e, d⟩ := z4 _ h1
  have h2' : hh.get? p.1 = some p.2 := h2
  have e' : hh.get? p.1 = some o := e
  rw [h2'] at e'
  cases e'
  exact ⟨h2, hn _ h1, a2, a5, d⟩

/-- the reading of a generator that is walked to its end, or left before: W by the turn and a measure; QE: behind the last item; go: what is wanted of an item that the walk goes on from, to reach Nx -/
def GenRun (J : It) (g : TG) (te : TE) (vs : List Nat) (σ : L2.St) (QE : Hp → Prop) (QY : V → Hp → (Hp → Prop) → Prop) (W : Nat → Nat → Hp → Prop) : Prop :=
  ∀ i m H, W i m H → (J.stop i H ∧ QE H) ∨ (J.go i H ∧ ∃ Nx : Hp → Prop, (∀ H', Nx H' → ∃ m', m' < m ∧ W (i + 1) m' H') ∧ ∀ x H', J.yld i H x H' → g x (wipe σ vs) H' fun σ2 H2 => wipe σ2 vs = wipe σ vs ∧ te σ2 H2 fun y H3 => QY y H3 Nx)

section
variable {X : Cx} {pins : List (Addr × Obj)} {σ : L2.St} {H : Hp} {s : Shared}
/-- the loop of the generator's body. pr: what an item's reading gives is what the walk wants of it -/
theorem seg_gen {elt tg iter : Expr} {scope : Scope} {own : List (Str × Nat)} {pos : Pos} {J : It} {fp pS : List Addr} {it : Addr} {tn : Nat → Heap → Prop} {g : TG} {te : TE} {A : Around} {s4 : Shared} {H4 : Hp} {cenv : Env} {pn : List (Addr × Obj)} {QE : Hp → Prop} {QY : V → Hp → (Hp → Prop) → Prop} {Yw : V → Hp → Prop → Prop} {W : Nat → Nat → Hp → Prop}
    (hco : cenv.scope.isCoroutine = false) (T : Turn X.prog X.w X.K tg J fp it tn) (R : GenRun J g te (own.map (·.2)) σ QE QY W)
    (hpg : PG (gcx X (A.deeper cenv) s4 H4 cenv fp pn) tg g) (hpe : PE (gcx X (A.deeper cenv) s4 H4 cenv fp pn) elt te) (hpn : ∀ p ∈ pn, p.1 ∉ fp) (hpS : PsOk (gcx X (A.deeper cenv) s4 H4 cenv fp pn) pS)
    (pr : ∀ y H' Nx (K : Prop), QY y H' Nx → (Nx H' → K) → Yw y H' K) :
    ∀ (n : Nat) (s0 s : Shared) (i m : Nat) (H : Hp), m < n → W i m H → Inv (gcx X (A.deeper cenv) s4 H4 cenv fp pn) (pinsAt pS s.heap) (wipe σ (own.map (·.2))) H s → tn i s.heap → (∀ b ∈ fp, H b = none) → HeldS pS s0 s → (∀ b ∈ pS, ∃ o, s.heap.get? b = some o) →
      Seg (model X.prog X.w) A (fun _ s0 r s1 => r = .ok .next ∧ FinG (gcx X (A.deeper cenv) s4 H4 cenv fp pn) pS QE s0 s1) (YieldG (gcx X (A.deeper cenv) s4 H4 cenv fp pn) pS Yw) n s0
        (.compLoop (.GeneratorExp elt [⟨tg, iter, [], 0⟩] scope pos) 0 (.ref it) .none cenv) ((model X.prog X.w).den (.compLoop (.GeneratorExp elt [⟨tg, iter, [], 0⟩] scope pos) 0 (.ref it) .none cenv)) [] s := by
  generalize hG : gcx X (A.deeper cenv) s4 H4 cenv fp pn = G at hpg hpe hpS
  have gP : G.prog = X.prog := by rw [← hG]
  have gw : G.w = X.w := by rw [← hG]
  have gK : G.K = X.K := by rw [← hG]
  have gc : G.calm = true := by rw [← hG]
  have gA : G.A = A.deeper cenv := by rw [← hG]
  have ge : G.env = cenv := by rw [← hG]
  have gx : G.ex = fp := by rw [← hG]
  have gpn : G.pn = pn := by rw [← hG]
  have gxe : G.xe = fun _ _ => False := by rw [← hG]
  have stat : ∀ {h : Heap} {σ' : L2.St} {H' : Hp} {s' : Shared}, Inv G (pinsAt pS h) σ' H' s' → (∀ b ∈ fp, H' b = none) → ∀ b ∈ fp, FpOk G (pinsAt pS h) H' b := fun {h σ' H' s'} I' hn b hb =>
    ⟨hn b hb, (I'.ok.exf b (by rw [gx]; exact hb)).1, I'.ok.exfs b (by rw [gx]; exact hb), .inl (by rw [gx]; exact hb), fun x c e => (I'.ok.exf b (by rw [gx]; exact hb)).2 x c e, fun p hp z => by
      rcases List.mem_append.mp hp with hp | hp
      · rw [gpn] at hp
        exact hpn p hp (by rw [z]; exact hb)
      · exact (hpS _ (pinsAt_mem hp)).2.2.2.2.2 (by rw [gx, z]; exact hb)⟩
  intro n
  induction n with
  | zero => intro _ _ _ m _ hm; exact absurd hm (Nat.not_lt_zero _)
  | succ n ih =>
    intro s0 s i m H hm w I st hfpn hheld hS
    -- what is pinned of the consumer's objects stands
    have held' : ∀ {pl : List (Addr × Obj)} {σ' : L2.St} {H' : Hp} {s' : Shared}, Inv G (pinsAt pS s.heap ++ pl) σ' H' s' → HeldS pS s0 s' := fun {pl σ' H' s'} I' b hb o e =>
      (I'.pin (b, o) (List.mem_append_right _ (List.mem_append_left _ (mem_pinsAt hb (hheld b hb o e))))).1
    have none' : ∀ {pl : List (Addr × Obj)} {σ' : L2.St} {H' : Hp} {s' : Shared}, Inv G (pinsAt pS s.heap ++ pl) σ' H' s' → ∀ b ∈ pS, H' b = none := fun {pl σ' H' s'} I' b hb => by
      obtain ⟨o, e⟩ := hS b hb
      exact (I'.pin (b, o) (List.mem_append_right _ (List.mem_append_left _ (mem_pinsAt hb e)))).2.1
    show Seg _ A _ _ _ s0 _ ((compTurn (.GeneratorExp elt [⟨tg, iter, [], 0⟩] scope pos) 0 (.ref it) .none cenv).onRaise (leaving cenv)) [] s
    rw [compTurn_gen, Sem.onRaise_eq_wrap]
    refine seg_bind_wrap (wpAny_standAt ?_)
    rcases R i m H w with ⟨stop, qe⟩ | ⟨go, Nx, hNx, step⟩
    · have td := T.done G gP gw gK gc i _ s _ H (fun _ _ => False) I (stat I hfpn) st stop
      rw [gA] at td
      refine seg_bind_wrap ?_
      rw [over_gen]
      refine wpAny_mono td (fun r s6 ⟨hr, I6⟩ => ?_) fun _ _ z => z.elim
      subst hr
      exact seg_end (.ok .next) ⟨rfl, held' (pl := []) (by rw [List.append_nil]; exact I6), H, ⟨_, _, I6⟩, qe⟩
    · have ti := T.item G gP gw gK gc i _ s _ H (fun _ _ => False) I (stat I hfpn) st go
      rw [gA] at ti
      refine seg_bind_wrap ?_
      rw [over_gen]
      refine wpAny_mono ti (fun r s6 ⟨u, hr, h6⟩ => ?_) fun _ _ z => z.elim
      subst hr
      refine seg_bind_wrap ?_
      rw [over_gen]
      refine wpAny_mono h6 (fun _ s7 ⟨x, H7, I7, r7, y7, st7, n7⟩ => ?_) fun _ _ z => z.elim
      have I7' := I7.pinned (stat I7 n7) (T.obj _ _ st7)
      have hg7 := hpg.run _ s7 _ H7 x u _ I7' r7 (step x H7 y7)
      rw [gP, gw, gA, ge, gxe] at hg7
      refine seg_bind_wrap ?_
      rw [over_gen]
      refine wpAny_mono hg7 (fun _ s8 ⟨σ8, H8, I8, hw8, q8⟩ => ?_) fun _ _ z => z.elim
      refine seg_bind_wrap (wpAny_tests_nil ?_)
      have he8 := hpe.run _ s8 σ8 H8 _ I8 q8
      rw [gP, gw, gA, ge, gxe] at he8
      have hy : ∀ v, yieldOut cenv v = yieldValue v := fun v => by simp only [yieldOut, hco, Bool.false_eq_true, if_false]
      simp only [if_true, hy]
      rw [Sem.bind_eq_wrap', Sem.bind_eq_wrap', Sem.wrap_wrap, Sem.wrap_wrap]
      refine seg_wrap ?_
      rw [over_gen]
      refine wpAny_mono he8 (fun v s9 ⟨y, H9, I9, r9, q9⟩ => ?_) fun _ _ z => z.elim
      refine seg_at (seg_yield rfl rfl rfl ⟨held' I9, y, H9, r9, ⟨_, _, I9⟩, pr y H9 Nx _ q9 fun nx s10 zz => ?_⟩)
      obtain ⟨m', hm', w'⟩ := hNx H9 nx
      have I10 : Inv G (pinsAt pS s10.heap) σ8 H9 s10 := Inv.slept (pS := []) I9 hpS (none' I9) zz
      have pin' : ∀ b ∈ fp, ∀ o, s7.heap.get? b = some o → s10.heap.get? b = some o ∧ H9 b = none := fun b hb o e =>
        let z := I9.pin (b, o) (List.mem_append_right _ (List.mem_append_right _ (mem_pinsAt hb e)))
        ⟨zz.keep b o (fun q => (hpS b q).2.2.2.2.2 (by rw [gx]; exact hb)) z.1, z.2.1⟩
      have hl : (wipe σ (own.map (·.2))).length = σ8.length := by rw [← hw8, wipe_length]
      refine seg_again rfl (ih s10 s10 (i + 1) m' H9 (by omega) w' (I10.weak hl (fun j v e => ?_)) (T.keep _ _ _ st7 fun b hb o e => (pin' b hb o e).1) (fun b hb => ?_) (fun _ _ _ e => e) fun b hb => ?_)
      · rw [← hw8] at e
        exact (wipe_some e).1
      · obtain ⟨o, e, _⟩ := T.obj _ _ st7 b hb
        exact (pin' b hb o e).2
      · obtain ⟨o, e, _⟩ := zz.own b hb
        exact ⟨o, e⟩
end
end Tg
namespace Tg
open PySem PySem.Spec PyProof.Rows L2 GxR GenW

section
variable {X : Cx} {pins : List (Addr × Obj)} {σ : L2.St} {H : Hp} {s : Shared}

theorem seg_gen0 {elt tg iter : Expr} {scope : Scope} {pos : Pos} {it : Addr} {A : Around} {cenv : Env} {J : It} {fp : List Addr} {tn : Nat → Heap → Prop} {R : GenEnd} {Y : Protocol} {n : Nat} {s0 : Shared}
    (T : Turn X.prog X.w X.K tg J fp it tn) (st : tn 0 s.heap)
    (loop : Seg (model X.prog X.w) A R Y n s0 (.compLoop (.GeneratorExp elt [⟨tg, iter, [], 0⟩] scope pos) 0 (.ref it) .none cenv) ((model X.prog X.w).den (.compLoop (.GeneratorExp elt [⟨tg, iter, [], 0⟩] scope pos) 0 (.ref it) .none cenv)) [] s) :
    Seg (model X.prog X.w) A R Y n s0 (.compStart (.GeneratorExp elt [⟨tg, iter, [], 0⟩] scope pos) 0 (.ref it) .none cenv) ((model X.prog X.w).den (.compStart (.GeneratorExp elt [⟨tg, iter, [], 0⟩] scope pos) 0 (.ref it) .none cenv)) [] s := by
  show Seg _ A _ _ _ s0 _ ((compStart (.GeneratorExp elt [⟨tg, iter, [], 0⟩] scope pos) 0 (.ref it) .none cenv).onRaise (leaving cenv)) [] s
  unfold compStart
  rw [Sem.onRaise_eq_wrap]
  show Seg _ A _ _ _ s0 _ ((ask >>= _).wrap _ _ _ _) [] s
  refine seg_bind_wrap (wpAny_askSetting ?_)
  split
  · exact seg_again rfl loop
  · first
      | exact seg_bind_wrap (wpAny_rule (seg_bind_wrap (wpAny_standAt (seg_bind_wrap (T.self _ 0 s _ _ st (seg_again rfl loop))))))
      | (refine seg_bind_wrap (wpAny_rule ?_); show Seg _ A _ _ _ s0 _ ((standAt iter.pos >>= _).wrap _ _ _ _) [] s; exact seg_bind_wrap (wpAny_standAt (seg_bind_wrap (T.self _ 0 s _ _ st (seg_again rfl loop)))))

/-- a generator that has not begun: it may be walked from any later state -/
structure GMadeE (X : Cx) (pins : List (Addr × Obj)) (σ : L2.St) (k : Nat) (QE : Hp → Prop) (Yw : V → Hp → Prop → Prop) (a : Addr) (s5 : Shared) (G : Around → Cx) (n g : Nat) (c : Code) : Prop where
  gen : s5.heap.IsGen a g
  at_ : s5.gens[g]? = some (.fresh c)
  os : ∀ A : Around, s5.os = (G A).s_0.os
  bare : AllBare s5.gens
  lim : s5.heap.NoLimit
  pin : ∀ (A : Around) (h : Heap), (∀ p ∈ (G A).pn, h.get? p.1 = some p.2) → h.IsGen a g
  back : ∀ (A : Around) (H' : Hp) (s' : Shared), s'.os = (G A).s_0.os → Un (G A).fs (G A).ex (G A).H_0 H' (G A).s_0.heap s'.heap → HOk X.prog X.w H' s'.heap → AllBare s'.gens → Inv X pins σ H' s'
  same : ∀ A : Around, (G A).prog = X.prog ∧ (G A).w = X.w
  go : ∀ (A : Around) (pS : List Addr) (s6 : Shared), Room (k + 1) A → A.frames = some X.stack → (∀ b o, s5.heap.get? b = some o → s6.heap.get? b = some o) → s6.os = s5.os → AllBare s6.gens →
    (∀ b ∈ pS, s5.heap.objs.size ≤ b ∧ ∃ o, s6.heap.get? b = some o ∧ ∀ v, o.data ≠ .cell v) →
    Seg (model X.prog X.w) A (fun _ s0 r s1 => r = .ok .next ∧ FinG (G A) pS QE s0 s1) (YieldG (G A) pS Yw) n s6 c ((model X.prog X.w).den c) [] s6

/-- the reading of a generator expression: the walked thing, then, with the table grown, the run -/
def tGen (P : Addr) (wi : TI) (g : TG) (te : TE) (vs : List Nat) (QE : Hp → Prop) (QY : V → Hp → (Hp → Prop) → Prop) : L2.St → Hp → Prop := fun σ H =>
  wi σ H fun J H1 => TabG H1 P ∧ ∀ H2, Tabbed P H1 H2 → ∃ W : Nat → Nat → Hp → Prop, (∃ m, W 0 m H2) ∧ GenRun J g te vs σ QE QY W

theorem gen_make {c P : Addr} {elt tg iter : Expr} {scope : Scope} {own : List (Str × Nat)} {gpos : Pos} {wi : TI} {g : TG} {te : TE} {k : Nat} {QE : Hp → Prop} {QY : V → Hp → (Hp → Prop) → Prop} {Yw : V → Hp → Prop → Prop} {Q' : Value → Shared → Prop}
    (hc : X.calm = true) (hN : X.N.Nodup) (hr : Room k X.A) (TB : TabB X.base X.mg c P) (hcode : X.env.code = .ref c) (S : GenOk X.N X.env.scope scope own) (hi : PI X tg iter wi)
    (hpg : ∀ (s : Shared) (H : Hp) (C : Addr) (cl : List (Str × Addr)) (code : Value) (fp : List Addr) (pn : List (Addr × Obj)) (A : Around), PG (gcx X A s H (genEnv scope cl C code builtinsNs X.env) fp pn) tg g)
    (hpe : ∀ (s : Shared) (H : Hp) (C : Addr) (cl : List (Str × Addr)) (code : Value) (fp : List Addr) (pn : List (Addr × Obj)) (A : Around), Room k A → PE (gcx X A s H (genEnv scope cl C code builtinsNs X.env) fp pn) elt te)
    (pr : ∀ y H' Nx (K : Prop), QY y H' Nx → (Nx H' → K) → Yw y H' K)
    (hs : ∀ v, genFold iter X.env v = pure v) (I : Inv X pins σ H s) (h : tGen P wi g te (own.map (·.2)) QE QY σ H)
    (hQ : ∀ a s5 G n gi c, GMadeE X pins σ k QE Yw a s5 G n gi c → Q' (.ref a) s5) :
    wpAny (model X.prog X.w) X.A (eval (.GeneratorExp elt [⟨tg, iter, [], 0⟩] scope gpos) X.env) Q' X.xe s := by
  have hfree := S.has I.ok
  refine wpAny_GeneratorExp_make S.co (closure_ok hfree) S.nocell S.dot S.blk.kind (by have := hr.dp; omega) ?_ hs
  refine thn (hi.run pins s σ H _ I h) fun xv s1 hx => thn hx fun itv s2 h2 => ?_
  obtain ⟨it, fp, tn, J, H1, e, I1, T, st1, f1, ⟨ps, hP, ht⟩, q1⟩ := h2
  subst e
  have hPs : s2.heap.get? P = some { cls := .none, data := .fields ps } := I1.hok P _ hP
  have cd : PySem.W.CodeHd s2.heap c P := TB.code.keeps I1.bk
  have nP : ∀ b ∈ fp, b ≠ P := fun b hb z => by
    have q := (f1 b hb).1
    rw [z, hP] at q
    cases q
  have cont : ∀ (code : Value) (h3 : Heap) (tk : Nat) (ps' : Array Value), Heap.ExtBut P s2.heap h3 → s2.heap.objs.size ≤ h3.objs.size → h3.get? P = some { cls := .none, data := .fields ps' } → (∃ more, ps' = ps ++ more) → TriplesOk ps'.toList →
      wpAny (model X.prog X.w) X.A (builtinsFor X.env.globals X.env.builtins) (fun bi s₄ =>
        ∀ h', h'.Ns s₄.heap.objs.size (fun y => if y = ".0" then some (.ref it) else none) → Heap.SameBut s₄.heap.objs.size (s₄.heap.push { cls := .type "frame", data := .dict #[] }) h' →
          Q' (.ref h'.objs.size) { s₄ with
            gens := s₄.gens.push (.fresh (.compStart (.GeneratorExp elt [⟨tg, iter, [], 0⟩] scope gpos) 0 (.ref it) .none (genEnv scope (cloFrom X.env.cells scope.names []) s₄.heap.objs.size code bi X.env))),
            toks := s₄.toks + 1 + 1 + 1,
            heap := h'.push { cls := .type "generator", data := .fields #[.int s₄.gens.size 0, .str "<genexpr>" (s₄.toks + 1), .str (X.env.qual ++ "<genexpr>") (s₄.toks + 1 + 1)] } }) X.xe { s2 with heap := h3, toks := tk } := by
    intro code h3 tk ps' hx hsz hP3 hmore ht3
    obtain ⟨bm, ob, e1, e2, e3, e4, e5, e6, e7, e8⟩ := TB.bm
    have keep3 : ∀ b u, b ≠ P → s2.heap.get? b = some u → h3.get? b = some u := fun b u hb e => hx b u hb e
    refine wpAny_builtinsFor (m := X.mg) (by rw [I1.ok.glob]; exact (I1.mod.glob.keeps I1.bk).extBut hx TB.gP) e1 e2 (keep3 _ _ e4 (I1.bk _ _ e5)) e6 e7 e8 ?_
    obtain ⟨more, em⟩ := hmore
    subst em
    have I4 : Inv X pins σ (upd H1 P (.tbl (ps ++ more))) { s2 with heap := h3, toks := tk } := inv_tab (g' := s2.gens) (d' := s2.drawn) I1 hP keep3 hP3 I1.bare
    generalize hs4 : ({ s2 with heap := h3, toks := tk } : Shared) = s4 at I4 ⊢
    have h4 : s4.heap = h3 := by rw [← hs4]
    generalize hH2 : upd H1 P (.tbl (ps ++ more)) = H2 at I4
    have tb : Tabbed P H1 H2 := by
      rw [← hH2]
      exact ⟨⟨ps ++ more, upd_same, ht3⟩, fun b hb => upd_ne hb⟩
    obtain ⟨W, ⟨m0, w0⟩, run⟩ := q1 H2 tb
    have f4 : ∀ b ∈ fp, FpOk X pins H2 b ∧ b < s4.heap.objs.size := fun b hb => by
      refine ⟨⟨?_, (f1 b hb).2⟩, ?_⟩
      · rw [tb.2 b (nP b hb)]
        exact (f1 b hb).1
      · obtain ⟨o, e, _⟩ := T.obj _ _ st1 b hb
        rw [h4]
        exact Nat.lt_of_lt_of_le (Heap.lt_size e) hsz
    have st4 : tn 0 s4.heap := T.keep _ _ _ st1 fun b hb o e => by rw [h4]; exact keep3 b o (nP b hb) e
    intro h' hn' hs'
    have hsz' : h'.objs.size = s4.heap.objs.size + 1 := by rw [hs'.1, Heap.size_push]
    have kp' : ∀ b o, s4.heap.get? b = some o → h'.get? b = some o := fun b o e => hs'.extBut b o (Nat.ne_of_lt (Heap.lt_size e)) (Heap.get?_push_of_some _ e)
    generalize hgo : ({ cls := .type "generator", data := .fields #[.int s4.gens.size 0, .str "<genexpr>" (s4.toks + 1), .str (X.env.qual ++ "<genexpr>") (s4.toks + 1 + 1)] } : Obj) = go
    have hgd : go.data = .fields #[.int s4.gens.size 0, .str "<genexpr>" (s4.toks + 1), .str (X.env.qual ++ "<genexpr>") (s4.toks + 1 + 1)] := by rw [← hgo]
    have hgc : go.cls = .type "generator" := by rw [← hgo]
    have hgs : go.slots = #[] := by rw [← hgo]
    have hga : (h'.push go).get? h'.objs.size = some go := Heap.get?_push_size _ (by rw [← hgo]; rfl)
    have isg : ∀ h : Heap, h.get? h'.objs.size = some go → h.IsGen h'.objs.size s4.gens.size := fun h e => ⟨go, _, _, e, hgc, hgd, hgs⟩
    have kp5 : ∀ b o, s4.heap.get? b = some o → (h'.push go).get? b = some o := fun b o e => Heap.get?_push_of_some _ (kp' b o e)
    have hal : s4.heap.objs.size < h'.objs.size := by rw [hsz']; exact Nat.lt_succ_self _
    refine hQ h'.objs.size _ (fun A => gcx X (A.deeper (genv X scope s4.heap.objs.size code)) s4 H2 (genv X scope s4.heap.objs.size code) fp [(h'.objs.size, go)]) (m0 + 1) s4.gens.size _ ⟨isg _ hga, Array.getElem?_push_size .., fun _ => rfl, I4.bare.push rfl, I4.nolimit.keeps kp5, fun A h hp => isg h (hp _ (List.mem_singleton.mpr rfl)),
      fun A H' s' ho hu hok hb => ?_, fun _ => ⟨rfl, rfl⟩, fun A pS s6 hrA hfA hk6 ho6 hb6 hpS => ?_⟩
    · exact I4.call' (ch := fp) ho hu hok hb fun b hb => ⟨(f4 b hb).1.2.2.2.1, (f4 b hb).1.2.1, (f4 b hb).1.2.2.2.2.1, (f4 b hb).1.2.2.2.2.2⟩
    · have kp6 : ∀ b o, s4.heap.get? b = some o → s6.heap.get? b = some o := fun b o e => hk6 b o (kp5 b o e)
      have st6 : tn 0 s6.heap := T.keep _ _ _ st4 fun b _ o e => kp6 b o e
      have ns6 : s6.heap.Ns s4.heap.objs.size (fun y => if y = ".0" then some (.ref it) else none) := hn'.keeps fun b o e => hk6 b o (Heap.get?_push_of_some _ e)
      have I6 : Inv (gcx X (A.deeper (genv X scope s4.heap.objs.size code)) s4 H2 (genv X scope s4.heap.objs.size code) fp [(h'.objs.size, go)]) [] (wipe σ (own.map (·.2))) H2 s6 :=
        gen_start (A := A.deeper (genv X scope s4.heap.objs.size code)) I4 S hN f4 hrA.hd (Around.frames_deeper hfA) kp6 ns6 (hk6 _ _ hga) hal (fun v z => by rw [hgd] at z; cases z) ho6 hb6
      have lt5 : ∀ b, (h'.push go).objs.size ≤ b → s4.heap.objs.size < b ∧ h'.objs.size < b := fun b hb => by
        rw [Heap.size_push] at hb
        exact ⟨Nat.lt_trans hal hb, hb⟩
      have young : ∀ b, s4.heap.objs.size < b → b ∉ frs X.stack ∧ b ∉ fp ∧ H2 b = none := fun b hb => ⟨fun z => by
        rcases List.mem_cons.mp (I4.stkSub b z) with z | z
        · rw [z] at hb
          exact absurd (Nat.lt_trans hb I4.lt) (Nat.lt_irrefl _)
        · exact I4.nofs (Nat.le_of_lt hb) z, fun z => absurd (Nat.lt_trans hb (f4 b z).2) (Nat.lt_irrefl _), I4.hok.fresh (Nat.le_of_lt hb)⟩
      have hpn : ∀ p ∈ [(h'.objs.size, go)], p.1 ∉ fp := fun p hp hf => by
        rw [List.mem_singleton.mp hp] at hf
        exact absurd (Nat.lt_trans hal (f4 _ hf).2) (Nat.lt_irrefl _)
      have ok6 : PsOk (gcx X (A.deeper (genv X scope s4.heap.objs.size code)) s4 H2 (genv X scope s4.heap.objs.size code) fp [(h'.objs.size, go)]) pS := fun b hb => by
        obtain ⟨l1, l2⟩ := lt5 b (hpS b hb).1
        obtain ⟨y1, y2, _⟩ := young b l1
        refine ⟨Nat.le_of_lt l1, Nat.ne_of_gt l1, fun x c e z => ?_, fun p hp => ?_, y1, y2⟩
        · obtain ⟨v, ob, ho, _⟩ := I6.cell x c e
          rw [z] at e
          rcases cloFrom_mem (PySem.mem_of_lookup e) with hm | ⟨h1, h2⟩
          · cases hm
          · obtain ⟨c1, hc1⟩ := hfree _ h1 rfl
            obtain ⟨v1, q1⟩ := I4.cell _ _ hc1
            have hc1' : X.env.cells.lookup x = some c1 := hc1
            rw [hc1'] at h2
            have h3 : b = c1 := h2
            rw [h3] at l1
            exact absurd (Nat.lt_trans l1 q1.lt) (Nat.lt_irrefl _)
        · rw [List.mem_singleton.mp hp]
          exact Nat.ne_of_lt l2
      have I7 : Inv (gcx X (A.deeper (genv X scope s4.heap.objs.size code)) s4 H2 (genv X scope s4.heap.objs.size code) fp [(h'.objs.size, go)]) (pinsAt pS s6.heap) (wipe σ (own.map (·.2))) H2 s6 :=
        Inv.slept (pS := []) I6 ok6 (fun b hb => (young b (lt5 b (hpS b hb).1).1).2.2) ⟨rfl, hb6, fun _ _ _ e => e, fun b hb => (hpS b hb).2⟩
      exact seg_gen0 (X := X) T st6 (seg_gen (A := A) (pos := gpos) (cenv := genv X scope s4.heap.objs.size code) S.co T run (hpg _ _ _ _ _ _ _ _) (hpe _ _ _ _ _ _ _ _ (hrA.deeper _)) hpn ok6 pr (m0 + 1) s6 s6 0 m0 H2 (Nat.lt_succ_self _) w0 I7 st6 (fun b hb => (f4 b hb).1.1) (fun _ _ _ e => e) fun b hb => let ⟨o, e, _⟩ := (hpS b hb).2; ⟨o, e⟩)
  refine ⟨I1.nolimit, ?_⟩
  cases hf : codeAmong gpos ps.toList with
  | none =>
    refine wpAny_genexprCodeX hcode (cd.code hPs ht) (cd.tab hPs) hf fun c' h' tk hx hge hlt hco' _ htab' _ => ?_
    obtain ⟨o1, vs, f1, tf, fl, tg, inF, tx, tt, op, _, _, _, _, _, _, _, _, _, htr, _⟩ := hco'
    exact cont _ h' tk _ hx (Nat.le_trans hge (Nat.le_of_lt hlt)) htab'.2 ⟨_, rfl⟩ htr
  | some cv =>
    refine wpAny_genexprCode_hit hcode (cd.code hPs ht) hf ?_
    exact cont cv s2.heap s2.toks ps (Heap.ExtBut.refl _ _) (Nat.le_refl _) hPs ⟨#[], by simp⟩ ht
end
end Tg
namespace Tg
open PySem PySem.Spec PyProof.Rows L2 GxR GenW

/-- where a walk over a generator has come to its end -/
def DoneG (G : Cx) (Q : Hp → Prop) (s' : Shared) : Prop := ∃ H, s'.os = G.s_0.os ∧ AllBare s'.gens ∧ Un G.fs G.ex G.H_0 H G.s_0.heap s'.heap ∧ HOk G.prog G.w H s'.heap ∧ Q H
theorem GIv.done {G : Cx} {H : Hp} {s s' : Shared} {Q : Hp → Prop} (I : GIv G H s) (ho : s'.os = s.os) (hb : AllBare s'.gens) (kp : ∀ b o, s.heap.get? b = some o → s'.heap.get? b = some o) (q : Q H) : DoneG G Q s' := by
  obtain ⟨pl, σ, I⟩ := I
  exact ⟨H, ho.trans I.os, hb, I.base.trans (Un.kept kp), I.hok.kept kp, q⟩
theorem GIv.bare {G : Cx} {H : Hp} {s : Shared} (I : GIv G H s) : AllBare s.gens := let ⟨_, _, J⟩ := I; J.bare
theorem GIv.lim {G : Cx} {H : Hp} {s : Shared} (I : GIv G H s) : s.heap.NoLimit := let ⟨_, _, J⟩ := I; J.nolimit
theorem GIv.pn {G : Cx} {H : Hp} {s : Shared} (I : GIv G H s) : ∀ p ∈ G.pn, s.heap.get? p.1 = some p.2 := fun p hp => let ⟨_, _, J⟩ := I; (J.pin p (List.mem_append_left _ hp)).1

/-- what any (stop = true), all (stop = false) want of an item -/
def YwB (stop : Bool) (Q : Bool → Hp → Prop) : V → Hp → Prop → Prop := fun y H K => ∃ b, y = .bl b ∧ if b = stop then Q stop H else K
def QyB (stop : Bool) (Q : Bool → Hp → Prop) : V → Hp → (Hp → Prop) → Prop := fun y H Nx => ∃ b, y = .bl b ∧ if b = stop then Q stop H else Nx H
theorem prB {stop : Bool} {Q : Bool → Hp → Prop} (y : V) (H' : Hp) (Nx : Hp → Prop) (K : Prop) (h : QyB stop Q y H' Nx) (k : Nx H' → K) : YwB stop Q y H' K := by
  obtain ⟨b, e, h⟩ := h
  refine ⟨b, e, ?_⟩
  by_cases hb : b = stop
  · rw [if_pos hb] at h ⊢; exact h
  · rw [if_neg hb] at h ⊢; exact k h

section
variable {P : Program} {w : World} {A : Around} {R : Result → Shared → Prop} {G : Cx} {a : Addr} {g : Nat} {Q : Bool → Hp → Prop}
theorem any_loopG (hh : A.handled = none) (hd : A.depth < recursionLimit) (hpin : ∀ h : Heap, (∀ p ∈ G.pn, h.get? p.1 = some p.2) → h.IsGen a g) (hR : ∀ b s', DoneG G (Q b) s' → R (.ok (.ret (.bool b))) s') :
    ∀ (n : Nat) (s : Shared), s.heap.IsGen a g → s.heap.NoLimit →
      (∃ gs, s.gens[g]? = some gs ∧ gs.Goes (model P w) A.in1.in1 (fun _ s0 r s1 => r = .ok .next ∧ FinG G [] (Q false) s0 s1) (YieldG G [] (YwB true Q)) n (.send .none) (s.setGen g .running)) →
      codeAny (model P w) A (.builtin "any.loop" ⟨[.ref a], []⟩) R s := by
  intro n
  induction n with
  | zero =>
    intro s hg hl ⟨gs, hgs, hgo⟩
    refine codeAny_builtin F.entry_any_loop ?_
    rw [Around.under_plainId F.plain_any_loop _]
    show wpAny _ A.in1 (pyNext (.ref a) >>= _) _ _ s
    refine wpAny_bind (wpAny_pyNext_genexpQ (A := A.in1) (P := fun _ s0 s1 => FinG G [] (Q false) s0 s1) hh hl hd hg hgs hgo (fun v s₁ gs' hbare hv => ?_) (fun s₁ hp h' hk => ?_))
    · obtain ⟨_, y, H, ry, I, b, ey, hyw⟩ := hv
      subst ey
      cases ry
      refine wpAny_bind (wpAny_holding (wpAny_truthy_bool ?_))
      refine wpAny_bind (wpAny_letGo ?_)
      by_cases hb : b = true
      · rw [if_pos hb] at hyw
        subst hb
        simp only [if_true]
        exact wpAny_bind (wpAny_rule (wpAny_pure (hR _ _ (I.done rfl (allBare_setGen I.bare hbare) (fun _ _ e => e) hyw))))
      · rw [if_neg hb] at hyw
        exact False.elim (hyw s₁ ⟨rfl, I.bare, fun _ _ _ e => e, fun b hb => absurd hb (by simp)⟩)
    · obtain ⟨_, H, I, q⟩ := hp
      exact wpAny_bind (wpAny_rule (wpAny_pure (hR _ _ (I.done rfl (allBare_setGen I.bare rfl) hk q))))
  | succ n ih =>
    intro s hg hl ⟨gs, hgs, hgo⟩
    have hgl : g < s.gens.size := (Array.getElem?_eq_some_iff.mp hgs).1
    refine codeAny_builtin F.entry_any_loop ?_
    rw [Around.under_plainId F.plain_any_loop _]
    show wpAny _ A.in1 (pyNext (.ref a) >>= _) _ _ s
    refine wpAny_bind (wpAny_gsz (n := g + 1) hgl (wpAny_pyNext_genexpQ (A := A.in1) (P := fun _ s0 s1 => FinG G [] (Q false) s0 s1) hh hl hd hg hgs hgo (fun v s₁ gs' hbare hv => ?_) (fun s₁ hp h' hk => ?_)))
    · intro hsz
      obtain ⟨_, y, H, ry, I, b, ey, hyw⟩ := hv
      subst ey
      cases ry
      refine wpAny_bind (wpAny_holding (wpAny_truthy_bool ?_))
      refine wpAny_bind (wpAny_letGo ?_)
      by_cases hb : b = true
      · rw [if_pos hb] at hyw
        subst hb
        simp only [if_true]
        exact wpAny_bind (wpAny_rule (wpAny_pure (hR _ _ (I.done rfl (allBare_setGen I.bare hbare) (fun _ _ e => e) hyw))))
      · rw [if_neg hb] at hyw
        have eb : b = false := by simpa using hb
        subst eb
        simp only [Bool.false_eq_true, if_false]
        have hsz1 : g < s₁.gens.size := by
          have q : (s₁.setGen g gs').gens.size = s₁.gens.size := setGen_size _ _ _
          have hsz' : g + 1 ≤ (s₁.setGen g gs').gens.size := hsz
          omega
        refine wpAny_pure ⟨plainId_quiet F.plain_any_loop _, ih (s₁.setGen g gs') (hpin _ I.pn) I.lim ⟨gs', setGen_at hsz1, ?_⟩⟩
        exact hyw _ ⟨rfl, allBare_setGen (s := s₁.setGen g gs') (allBare_setGen I.bare hbare) rfl, fun _ _ _ e => e, fun b hb => absurd hb (by simp)⟩
    · intro _
      obtain ⟨_, H, I, q⟩ := hp
      exact wpAny_bind (wpAny_rule (wpAny_pure (hR _ _ (I.done rfl (allBare_setGen I.bare rfl) hk q))))
theorem all_loopG (hh : A.handled = none) (hd : A.depth < recursionLimit) (hpin : ∀ h : Heap, (∀ p ∈ G.pn, h.get? p.1 = some p.2) → h.IsGen a g) (hR : ∀ b s', DoneG G (Q b) s' → R (.ok (.ret (.bool b))) s') :
    ∀ (n : Nat) (s : Shared), s.heap.IsGen a g → s.heap.NoLimit →
      (∃ gs, s.gens[g]? = some gs ∧ gs.Goes (model P w) A.in1.in1 (fun _ s0 r s1 => r = .ok .next ∧ FinG G [] (Q true) s0 s1) (YieldG G [] (YwB false Q)) n (.send .none) (s.setGen g .running)) →
      codeAny (model P w) A (.builtin "all.loop" ⟨[.ref a], []⟩) R s := by
  intro n
  induction n with
  | zero =>
    intro s hg hl ⟨gs, hgs, hgo⟩
    refine codeAny_builtin F.entry_all_loop ?_
    rw [Around.under_plainId F.plain_all_loop _]
    show wpAny _ A.in1 (pyNext (.ref a) >>= _) _ _ s
    refine wpAny_bind (wpAny_pyNext_genexpQ (A := A.in1) (P := fun _ s0 s1 => FinG G [] (Q true) s0 s1) hh hl hd hg hgs hgo (fun v s₁ gs' hbare hv => ?_) (fun s₁ hp h' hk => ?_))
    · obtain ⟨_, y, H, ry, I, b, ey, hyw⟩ := hv
      subst ey
      cases ry
      refine wpAny_bind (wpAny_holding (wpAny_truthy_bool ?_))
      refine wpAny_bind (wpAny_letGo ?_)
      by_cases hb : b = false
      · rw [if_pos hb] at hyw
        subst hb
        simp only [Bool.false_eq_true, if_false]
        exact wpAny_bind (wpAny_rule (wpAny_pure (hR _ _ (I.done rfl (allBare_setGen I.bare hbare) (fun _ _ e => e) hyw))))
      · rw [if_neg hb] at hyw
        exact False.elim (hyw s₁ ⟨rfl, I.bare, fun _ _ _ e => e, fun b hb => absurd hb (by simp)⟩)
    · obtain ⟨_, H, I, q⟩ := hp
      exact wpAny_bind (wpAny_rule (wpAny_pure (hR _ _ (I.done rfl (allBare_setGen I.bare rfl) hk q))))
  | succ n ih =>
    intro s hg hl ⟨gs, hgs, hgo⟩
    have hgl : g < s.gens.size := (Array.getElem?_eq_some_iff.mp hgs).1
    refine codeAny_builtin F.entry_all_loop ?_
    rw [Around.under_plainId F.plain_all_loop _]
    show wpAny _ A.in1 (pyNext (.ref a) >>= _) _ _ s
    refine wpAny_bind (wpAny_gsz (n := g + 1) hgl (wpAny_pyNext_genexpQ (A := A.in1) (P := fun _ s0 s1 => FinG G [] (Q true) s0 s1) hh hl hd hg hgs hgo (fun v s₁ gs' hbare hv => ?_) (fun s₁ hp h' hk => ?_)))
    · intro hsz
      obtain ⟨_, y, H, ry, I, b, ey, hyw⟩ := hv
      subst ey
      cases ry
      refine wpAny_bind (wpAny_holding (wpAny_truthy_bool ?_))
      refine wpAny_bind (wpAny_letGo ?_)
      by_cases hb : b = false
      · rw [if_pos hb] at hyw
        subst hb
        simp only [Bool.false_eq_true, if_false]
        exact wpAny_bind (wpAny_rule (wpAny_pure (hR _ _ (I.done rfl (allBare_setGen I.bare hbare) (fun _ _ e => e) hyw))))
      · rw [if_neg hb] at hyw
        have eb : b = true := by simpa using hb
        subst eb
        simp only [if_true]
        have hsz1 : g < s₁.gens.size := by
          have q : (s₁.setGen g gs').gens.size = s₁.gens.size := setGen_size _ _ _
          have hsz' : g + 1 ≤ (s₁.setGen g gs').gens.size := hsz
          omega
        refine wpAny_pure ⟨plainId_quiet F.plain_all_loop _, ih (s₁.setGen g gs') (hpin _ I.pn) I.lim ⟨gs', setGen_at hsz1, ?_⟩⟩
        exact hyw _ ⟨rfl, allBare_setGen (s := s₁.setGen g gs') (allBare_setGen I.bare hbare) rfl, fun _ _ _ e => e, fun b hb => absurd hb (by simp)⟩
    · intro _
      obtain ⟨_, H, I, q⟩ := hp
      exact wpAny_bind (wpAny_rule (wpAny_pure (hR _ _ (I.done rfl (allBare_setGen I.bare rfl) hk q))))
end

section
variable {X : Cx} {pins : List (Addr × Obj)} {σ : L2.St} {H : Hp} {s : Shared}
theorem GMadeE.start {k : Nat} {QE : Hp → Prop} {Yw : V → Hp → Prop → Prop} {a : Addr} {s5 : Shared} {G : Around → Cx} {n g : Nat} {c : Code} (M : GMadeE X pins σ k QE Yw a s5 G n g c) (A : Around) (hr : Room (k + 1) A) (hf : A.frames = some X.stack) :
    ∃ gs, s5.gens[g]? = some gs ∧ gs.Goes (model X.prog X.w) A (fun _ s0 r s1 => r = .ok .next ∧ FinG (G A) [] QE s0 s1) (YieldG (G A) [] Yw) n (.send .none) (s5.setGen g .running) :=
  ⟨_, M.at_, rfl, M.go A [] (s5.setGen g .running) hr hf (fun _ _ e => e) rfl (allBare_setGen M.bare rfl) fun b hb => absurd hb (by simp)⟩

/-- any(..), all(..) of a generator expression -/
def tAnyG (P : Addr) (wi : TI) (g : TG) (te : TE) (vs : List Nat) : TE := fun σ H Q => tGen P wi g te vs (fun H' => Q (.bl false) H') (QyB true fun b H' => Q (.bl b) H') σ H
def tAllG (P : Addr) (wi : TI) (g : TG) (te : TE) (vs : List Nat) : TE := fun σ H Q => tGen P wi g te vs (fun H' => Q (.bl true) H') (QyB false fun b H' => Q (.bl b) H') σ H
theorem pe_anyG {c P : Addr} {elt tg iter : Expr} {scope : Scope} {own : List (Str × Nat)} {p gpos pos : Pos} {wi : TI} {g : TG} {te : TE} {k : Nat}
    (hc : X.calm = true) (hN : X.N.Nodup) (hr : Room (k + 2) X.A) (hg : Gl X "any") (hm : X.mg "any" = none) (TB : TabB X.base X.mg c P) (hcode : X.env.code = .ref c) (S : GenOk X.N X.env.scope scope own) (hi : PI X tg iter wi)
    (hpg : ∀ (s : Shared) (H : Hp) (C : Addr) (cl : List (Str × Addr)) (code : Value) (fp : List Addr) (pn : List (Addr × Obj)) (A : Around), PG (gcx X A s H (genEnv scope cl C code builtinsNs X.env) fp pn) tg g)
    (hpe : ∀ (s : Shared) (H : Hp) (C : Addr) (cl : List (Str × Addr)) (code : Value) (fp : List Addr) (pn : List (Addr × Obj)) (A : Around), Room k A → PE (gcx X A s H (genEnv scope cl C code builtinsNs X.env) fp pn) elt te)
    (hs : ∀ v, genFold iter X.env v = pure v := by intro _; rfl)
    (he : starEach [.GeneratorExp elt [⟨tg, iter, [], 0⟩] scope gpos] X.env = (false, eval (.GeneratorExp elt [⟨tg, iter, [], 0⟩] scope gpos) X.env) :: starEach [] X.env := by rfl) :
    PE X (.Call (.Name "any" p) [.GeneratorExp elt [⟨tg, iter, [], 0⟩] scope gpos] [] pos) (tAnyG P wi g te (own.map (·.2))) := by
  refine ⟨fun pins s σ H Q I h => ?_⟩
  refine wpAny_Call_Name_kw (ld_blt I hg hm boot_any ?_)
  refine PyProof.Rows.callWith_builtin1 ?_ he (by rfl)
  rw [he]
  show wpAny _ _ (spliced ((false, eval (.GeneratorExp elt [⟨tg, iter, [], 0⟩] scope gpos) X.env) :: backTo pos (starEach [] X.env))) _ _ s
  have hr0 : Room k X.A := hr.mono (by omega)
  refine Calls.spliced_cons (gen_make hc hN hr0 TB hcode S hi hpg hpe prB hs I h fun a s5 G n gi c M => ?_)
  refine Calls.spliced_nil ?_
  have hrI : Room (k + 1) X.A.in1.in1 := ⟨hr.hd, by have := hr.dp; show X.A.depth + 3 * (k + 1) + 5 < _; omega, by have := hr.un; show X.A.units + 1 + 1 + 16 * (k + 1) + 200 < _; omega⟩
  refine call_function_tree F.kind_any F.plain_any F.entry_any (F.args_any1 _) ?_
  unfold Builtin.«any»
  refine wpAny_bind (m := oneArg "any" _) (wpAny_pure ?_)
  refine wpAny_bind (wpAny_pyIter_gen M.gen ?_)
  refine wpAny_pure ⟨plainId_quiet F.plain_any_loop _, any_loopG (G := G X.A.in1.in1) (g := gi) (Q := fun b H' => Q (.bl b) H') hr.hd hr.depth (M.pin _) (fun b s' hd => ?_) n s5 M.gen M.lim (M.start _ hrI (I.ok.frames))⟩
  obtain ⟨H', ho, hb, hu, hok, hq⟩ := hd
  rw [(M.same _).1, (M.same _).2] at hok
  exact ⟨.bl b, H', M.back _ H' s' ho hu hok hb, rfl, hq⟩
theorem pe_allG {c P : Addr} {elt tg iter : Expr} {scope : Scope} {own : List (Str × Nat)} {p gpos pos : Pos} {wi : TI} {g : TG} {te : TE} {k : Nat}
    (hc : X.calm = true) (hN : X.N.Nodup) (hr : Room (k + 2) X.A) (hg : Gl X "all") (hm : X.mg "all" = none) (TB : TabB X.base X.mg c P) (hcode : X.env.code = .ref c) (S : GenOk X.N X.env.scope scope own) (hi : PI X tg iter wi)
    (hpg : ∀ (s : Shared) (H : Hp) (C : Addr) (cl : List (Str × Addr)) (code : Value) (fp : List Addr) (pn : List (Addr × Obj)) (A : Around), PG (gcx X A s H (genEnv scope cl C code builtinsNs X.env) fp pn) tg g)
    (hpe : ∀ (s : Shared) (H : Hp) (C : Addr) (cl : List (Str × Addr)) (code : Value) (fp : List Addr) (pn : List (Addr × Obj)) (A : Around), Room k A → PE (gcx X A s H (genEnv scope cl C code builtinsNs X.env) fp pn) elt te)
    (hs : ∀ v, genFold iter X.env v = pure v := by intro _; rfl)
    (he : starEach [.GeneratorExp elt [⟨tg, iter, [], 0⟩] scope gpos] X.env = (false, eval (.GeneratorExp elt [⟨tg, iter, [], 0⟩] scope gpos) X.env) :: starEach [] X.env := by rfl)
    (hb : bootBuiltins "all" = some (.builtin "all") := by decide +kernel) :
    PE X (.Call (.Name "all" p) [.GeneratorExp elt [⟨tg, iter, [], 0⟩] scope gpos] [] pos) (tAllG P wi g te (own.map (·.2))) := by
  refine ⟨fun pins s σ H Q I h => ?_⟩
  refine wpAny_Call_Name_kw (ld_blt I hg hm hb ?_)
  refine PyProof.Rows.callWith_builtin1 ?_ he (by rfl)
  rw [he]
  show wpAny _ _ (spliced ((false, eval (.GeneratorExp elt [⟨tg, iter, [], 0⟩] scope gpos) X.env) :: backTo pos (starEach [] X.env))) _ _ s
  have hr0 : Room k X.A := hr.mono (by omega)
  refine Calls.spliced_cons (gen_make hc hN hr0 TB hcode S hi hpg hpe prB hs I h fun a s5 G n gi c M => ?_)
  refine Calls.spliced_nil ?_
  have hrI : Room (k + 1) X.A.in1.in1 := ⟨hr.hd, by have := hr.dp; show X.A.depth + 3 * (k + 1) + 5 < _; omega, by have := hr.un; show X.A.units + 1 + 1 + 16 * (k + 1) + 200 < _; omega⟩
  refine call_function_tree F.kind_all F.plain_all F.entry_all (F.args_all1 _) ?_
  unfold Builtin.«all»
  refine wpAny_bind (m := oneArg "all" _) (wpAny_pure ?_)
  refine wpAny_bind (wpAny_pyIter_gen M.gen ?_)
  refine wpAny_pure ⟨plainId_quiet F.plain_all_loop _, all_loopG (G := G X.A.in1.in1) (g := gi) (Q := fun b H' => Q (.bl b) H') hr.hd hr.depth (M.pin _) (fun b s' hd => ?_) n s5 M.gen M.lim (M.start _ hrI (I.ok.frames))⟩
  obtain ⟨H', ho, hb, hu, hok, hq⟩ := hd
  rw [(M.same _).1, (M.same _).2] at hok
  exact ⟨.bl b, H', M.back _ H' s' ho hu hok hb, rfl, hq⟩
end
end Tg
/-! sum(len(x) for x in t), t a tuple of tuples. -/
namespace Tg
open PySem PySem.Spec PyProof.Rows L2 GxR GenW

def lenAt (zs : List Nat) (i : Nat) : Int := ((zs.getD i 0 : Nat) : Int)
theorem sum_get : ∀ (zs : List Nat) (i : Nat), (zs.take i).sum ≤ zs.sum
  | [], i => by simp
  | z :: zs, 0 => by simp
  | z :: zs, i + 1 => by
    have := sum_get zs i
    simp only [List.take_succ_cons, List.sum_cons]
    omega
theorem preSum_take (zs : List Nat) : ∀ i, i ≤ zs.length → preSum (lenAt zs) i = (((zs.take i).sum : Nat) : Int)
  | 0, _ => by simp [preSum]
  | i + 1, h => by
    have ih := preSum_take zs i (by omega)
    have hi : i < zs.length := by omega
    have e : zs.take (i + 1) = zs.take i ++ [zs[i]] := by
      rw [List.take_succ_eq_append_getElem hi]
    simp only [preSum]
    rw [ih, e, List.sum_append]
    unfold lenAt
    have e2 : zs.getD i 0 = zs[i] := by simp [hi]
    rw [e2]
    simp
theorem preSum_all (zs : List Nat) : preSum (lenAt zs) zs.length = ((zs.sum : Nat) : Int) := by
  rw [preSum_take zs _ (Nat.le_refl _), List.take_length]

section
variable {X : Cx} {pins : List (Addr × Obj)} {σ : L2.St} {H : Hp} {s : Shared}
/-- each item is a tuple, of these lengths -/
def LensT (K : PySem.W.Frag) (H : Hp) (ys : List V) (zs : List Nat) : Prop := Paired (fun y z => ∃ b xs, y = V.ref b ∧ SqT K H b xs ∧ xs.length = z) ys zs
def tSumLen (K : PySem.W.Frag) (P : Addr) (te : TE) : TE := fun σ H Q => te σ H fun v H1 => ∃ (a : Addr) (ys : List V) (zs : List Nat), v = .ref a ∧ SqT K H1 a ys ∧ LensT K H1 ys zs ∧ zs.sum < 1000000 ∧ TabG H1 P ∧ ∀ H2, Tabbed P H1 H2 → Q (.int ((zs.sum : Nat) : Int)) H2
theorem Paired.at' {α β : Type} {R : α → β → Prop} : ∀ {xs : List α} {ys : List β} {i : Nat} {x : α}, Paired R xs ys → xs[i]? = some x → ∃ y, ys[i]? = some y ∧ R x y
  | _, _, _, _, .nil, e => by simp at e
  | _, _, 0, _, .cons r _, e => by simp at e; subst e; exact ⟨_, rfl, r⟩
  | _, _, i + 1, x, .cons _ t, e => by
    obtain ⟨y, h1, h2⟩ := Paired.at' (i := i) t (by simpa using e)
    exact ⟨y, by simpa using h1, h2⟩
theorem pe_sumLen {c P : Addr} {x : Str} {iter : Expr} {scope : Scope} {p q1 q2 px p2 gpos pos : Pos} {te : TE} {k : Nat}
    (hr : Room k X.A) (hg : Gl X "sum") (hm : X.mg "sum" = none) (hml : X.mg "len" = none) (TB : TabB X.base X.mg c P) (hcode : X.env.code = .ref c) (S : GenS X.env scope x) (hl : scope.names.lookup ("len" : Str) = some NameKind.globalImplicit) (hi : PE X iter te)
    (hs : ∀ v, genFold iter X.env v = pure v := by intro _; rfl)
    (he : starEach [.GeneratorExp (.Call (.Name "len" q1) [.Name x q2] [] p2) [⟨.Name x px, iter, [], 0⟩] scope gpos] X.env = (false, eval (.GeneratorExp (.Call (.Name "len" q1) [.Name x q2] [] p2) [⟨.Name x px, iter, [], 0⟩] scope gpos) X.env) :: starEach [] X.env := by rfl)
    (hxd : (x == ("__debug__" : Str)) = false := by decide) (hbs : bootBuiltins "sum" = some (.builtin "sum") := by decide +kernel) :
    PE X (.Call (.Name "sum" p) [.GeneratorExp (.Call (.Name "len" q1) [.Name x q2] [] p2) [⟨.Name x px, iter, [], 0⟩] scope gpos] [] pos) (tSumLen X.K P te) := by
  refine ⟨fun pins s σ H Q I h => ?_⟩
  refine wpAny_Call_Name_kw (ld_blt I hg hm hbs ?_)
  refine PyProof.Rows.callWith_builtin1 ?_ he (by rfl)
  rw [he]
  show wpAny _ _ (spliced ((false, eval (.GeneratorExp (.Call (.Name "len" q1) [.Name x q2] [] p2) [⟨.Name x px, iter, [], 0⟩] scope gpos) X.env) :: backTo pos (starEach [] X.env))) _ _ s
  refine Calls.spliced_cons (wpAny_GeneratorExp_walksQ hr.hd S.co (closure_ok S.free) S.cell S.dot S.loc S.kind (by have := hr.dp; omega) ?_ hs)
  refine thn (hi.run pins s σ H _ I h) fun xv s1 ⟨v, H1, I1, r1, q1⟩ => ?_
  obtain ⟨a, ys, zs, ev, hys, hL, hsum, ⟨ps, hP, ht⟩, hq⟩ := q1
  subst ev
  obtain rfl : xv = Value.ref a := r1
  obtain ⟨its, rv, htup, hz⟩ := I1.tuple hys
  have hlen : its.length = zs.length := by rw [← rv.length]; exact Paired.length hL
  refine wpAny_pyIter_tuple (show s1.heap.IsTuple a its.toArray from htup) ?_
  generalize hob : ({ cls := .type "tuple_iterator", data := .fields #[Value.ref a, Value.int 0 0] } : Obj) = o
  have hPs : s1.heap.get? P = some { cls := .none, data := .fields ps } := I1.hok P _ hP
  have hPlt : P < s1.heap.objs.size := Heap.lt_size hPs
  have hP2 : (s1.heap.push o).get? P = some { cls := .none, data := .fields ps } := Heap.get?_push_of_some _ hPs
  have halt : a < s1.heap.objs.size := htup.lt
  have cd : PySem.W.CodeHd (s1.heap.push o) c P := TB.code.keeps fun b u e => Heap.get?_push_of_some _ (I1.bk b u e)
  have lim2 : (s1.heap.push o).NoLimit := I1.nolimit.push o
  have hst0 : (s1.heap.push o).IsTupleIter s1.heap.objs.size a 0 := by
    rw [← hob]
    exact ⟨_, Heap.get?_push_size _ rfl, rfl, rfl⟩
  have cont : ∀ (code : Value) (h3 : Heap) (tk : Nat) (ps' : Array Value), Heap.ExtBut P (s1.heap.push o) h3 → (s1.heap.push o).objs.size ≤ h3.objs.size → h3.get? P = some { cls := .none, data := .fields ps' } → (∃ more, ps' = ps ++ more) → TriplesOk ps'.toList →
      wpAny (model X.prog X.w) X.A (builtinsFor X.env.globals X.env.builtins) (fun bi s₄ =>
        ∃ Ia fp wr n₀ Pf St₀ pz F, Value.ref s1.heap.objs.size = .ref Ia ∧ (∀ A' : Around, A'.handled = none → Walks X.prog X.w A' Ia fp wr n₀ Pf St₀) ∧ St₀ 0 s₄.heap ∧ (∀ b ∈ fp, b < s₄.heap.objs.size) ∧ s₄.heap.NoLimit ∧ cStatics ∉ wr ∧
          (∀ href : Heap, (∀ b o, s₄.heap.get? b = some o → href.get? b = some o) →
            QuietGen X.prog X.w (genEnv scope (cloFrom X.env.cells scope.names []) s₄.heap.objs.size code bi X.env) x [] (.Call (.Name "len" q1) [.Name x q2] [] p2) (List.range s₄.heap.objs.size) wr Pf pz F href) ∧
          (∀ a h₅ tk gs, gs.bare = true → s₄.heap.objs.size < a → h₅.objs.size = a + 1 → (∀ b o, s₄.heap.get? b = some o → h₅.get? b = some o) →
            WalksS X.prog X.w X.A.in4 a (a :: s₄.heap.objs.size :: List.range s₄.heap.objs.size) (s₄.heap.objs.size :: wr) (GenOnlyQ s₄.gens.size) (passing pz n₀ 0).length
              (fun j y => ∃ i, (passing pz n₀ 0)[j]? = some i ∧ F i y) (GenAt X.prog X.w X.A.in4 a s₄.gens.size s₄.heap.objs.size (List.range s₄.heap.objs.size) wr pz n₀ F) →
            GenAt X.prog X.w X.A.in4 a s₄.gens.size s₄.heap.objs.size (List.range s₄.heap.objs.size) wr pz n₀ F 0 { s₄ with gens := s₄.gens.push gs, toks := tk, heap := h₅ } →
            wpAny (model X.prog X.w) X.A (spliced (backTo pos (starEach [] X.env))) (fun vs s₂ => wpAny (model X.prog X.w) X.A (call (.builtin "sum") (.ref a :: vs)) (EP X pins σ Q) X.xe s₂) X.xe { s₄ with gens := s₄.gens.push gs, toks := tk, heap := h₅ })) X.xe { s1 with heap := h3, toks := tk } := by
    intro code h3 tk ps' hx hsz hP3 hmore ht3
    obtain ⟨bm, ob, e1, e2, e3, e4, e5, e6, e7, e8⟩ := TB.bm
    have hcP : cStatics ≠ P := fun e => by
      obtain ⟨_, hns, _⟩ := I1.nolimit
      obtain ⟨o', es, ep, ho, hd, _⟩ := hns
      rw [e, hPs] at ho
      cases ho
      cases hd
    have hcl : cStatics < s1.heap.objs.size := let ⟨_, hns, _⟩ := I1.nolimit; hns.lt
    have sz2 : (s1.heap.push o).objs.size = s1.heap.objs.size + 1 := Heap.size_push ..
    have keep3 : ∀ b u, b ≠ P → s1.heap.get? b = some u → h3.get? b = some u := fun b u hb e => hx b u hb (Heap.get?_push_of_some _ e)
    refine wpAny_builtinsFor (m := X.mg) (by rw [I1.ok.glob]; exact ((I1.mod.glob.keeps I1.bk).push o).extBut hx TB.gP) e1 e2 (keep3 _ _ e4 (I1.bk _ _ e5)) e6 e7 e8 ?_
    have nPa : a ≠ P := fun z => by
      obtain ⟨oa, ea, ca, na, da⟩ := id htup
      rw [z, hPs] at ea
      cases ea
      cases da
    have nPb : ∀ {b : Addr} {w : Array Value}, IsTup s1.heap b w → b ≠ P := fun {b w} hb z => by
      obtain ⟨oa, ea, ca, na, da⟩ := id hb
      rw [z, hPs] at ea
      cases ea
      cases da
    have nIP : s1.heap.objs.size ≠ P := Nat.ne_of_gt hPlt
    refine ⟨s1.heap.objs.size, [s1.heap.objs.size, a], [s1.heap.objs.size], its.toArray.size, fun i v => its.toArray[i]? = some v, fun i h => h.IsTupleIter s1.heap.objs.size a i ∧ h.IsTuple a its.toArray, (fun _ => true), (fun i y => ∃ t, y = .int (lenAt zs i) t), rfl,
      fun A' hA => Walks.tuple hA _ _ (Nat.ne_of_lt halt) _, ⟨?_, ?_⟩, ?_, lim2.extBut hx hcP, ?_, ?_, ?_⟩
    · exact hst0.at fun o e => hx _ o nIP e
    · have z : IsTup h3 a its.toArray := by
        obtain ⟨oa, ea, r⟩ := id htup
        exact ⟨oa, keep3 a oa nPa ea, r⟩
      exact z
    · intro b hb
      show b < h3.objs.size
      have hs3 : s1.heap.objs.size + 1 ≤ h3.objs.size := by rw [← sz2]; exact hsz
      rcases List.mem_cons.mp hb with z | z
      · rw [z]
        exact hs3
      · rw [List.mem_singleton.mp z]
        exact Nat.lt_of_lt_of_le halt (Nat.le_trans (Nat.le_succ _) hs3)
    · intro z
      exact Nat.ne_of_lt hcl (List.mem_singleton.mp z)
    · intro href hhref
      refine ⟨fun A' E' i v s₂ m₂ hA hPv hn hm hk => ?_, fun A' E' i v s₂ m₂ hA hPv hp hn hm hk => ?_⟩
      · simp only [List.forIn_nil]
        exact wpAny_pure ⟨rfl, keeps_refl _⟩
      · have hk' : ∀ b u, b ≠ P → s1.heap.get? b = some u → s₂.heap.get? b = some u := fun b u hb e => by
          have e3' := keep3 b u hb e
          exact hk b (List.mem_range.mpr (Heap.lt_size e3')) (fun z => Nat.ne_of_lt (Heap.lt_size e) (List.mem_singleton.mp z)) u (hhref b u e3')
        have hv : its[i]? = some v := by simpa using hPv
        obtain ⟨y, hy, ry⟩ : ∃ y, ys[i]? = some y ∧ RelV y v := by
          have hi : i < ys.length := by rw [rv.length]; exact (List.getElem?_eq_some_iff.mp hv).1
          obtain ⟨u, hu, ru⟩ := rv.get (List.getElem?_eq_getElem hi)
          rw [hv] at hu
          cases hu
          exact ⟨_, List.getElem?_eq_getElem hi, ru⟩
        obtain ⟨z, hz', b, xs, ey, hb, hbl⟩ := Paired.at' hL hy
        subst ey
        obtain rfl : v = Value.ref b := ry
        obtain ⟨its2, rv2, ht2, hz2⟩ := I1.tuple hb
        have ht2' : IsTup s₂.heap b its2.toArray := by
          obtain ⟨oa, ea, r⟩ := id ht2
          exact ⟨oa, hk' b oa (nPb ht2) ea, r⟩
        have gl : s₂.heap.Ns mainGlobals X.mg := (I1.mod.glob.keeps I1.bk).at' fun o e => hk' _ o TB.gP e
        obtain ⟨mb, b1, b2⟩ := I1.mod.blt
        have nB : builtinsNs ≠ P := fun z => by
          obtain ⟨o', es, ep, ho, hd, _⟩ := b1.keeps I1.bk
          rw [z, hPs] at ho
          cases ho
          cases hd
        have bl : s₂.heap.Ns builtinsNs mb := (b1.keeps I1.bk).at' fun o e => hk' _ o nB e
        refine wpAny_Call_Name_kw (Calls.Name_function_global S.kind hl (Calls.loadGlobal_builtin (by show s₂.heap.Ns X.env.globals X.mg; rw [I1.ok.glob]; exact gl) hml bl ((b2 "len" (by decide)).trans boot_len) ?_))
        refine PyProof.Rows.callWith_builtin1 ?_ (by rfl) (by rfl)
        refine Calls.spliced_cons ?_
        refine wpAny_Name (wpAny_loadName_local S.kind S.loc hn hm ?_) hxd
        refine Calls.spliced_nil ?_
        have hl63 := line63
        have hlt := rv2.length
        refine len_tuple ht2' (by simp only [List.size_toArray]; omega) ⟨⟨s₂.toks + 1, ?_⟩, s₂.heap, _, rfl, fun _ _ e => e⟩
        have e1 : lenAt zs i = ((z : Nat) : Int) := by unfold lenAt; simp [hz']
        have e2 : its2.toArray.size = z := by rw [List.size_toArray, ← hlt, hbl]
        rw [e1, e2]
    · intro g h5 tk5 gs hgb hag hsz5 hk5 W5 hat
      simp only [GxR.passing_true, List.length_range] at W5
      refine Calls.spliced_nil ?_
      have W6 := W5.in4_1
      refine call_sum_walkS (W6.self 0 _ _ _ hat ⟨g, _, _, _, its.toArray.size, _, _, lenAt zs, rfl, W6, hat, ?_, ?_, ?_, fun s' t' hm => ?_⟩)
      · intro b hb
        show b < h5.objs.size
        rw [hsz5]
        rcases List.mem_cons.mp hb with z | z
        · rw [z]; exact Nat.lt_succ_self _
        · rcases List.mem_cons.mp z with z | z
          · rw [z]; exact Nat.lt_succ_of_lt hag
          · exact Nat.lt_succ_of_lt (Nat.lt_trans (List.mem_range.mp z) hag)
      · intro i v hP
        obtain ⟨j, hj, t, et⟩ := hP
        obtain ⟨hj', ej⟩ := List.getElem?_eq_some_iff.mp hj
        rw [List.getElem_range] at ej
        subst ej
        exact ⟨t, et⟩
      · intro j hj
        have hj' : j < zs.length := by rw [← hlen]; simpa using hj
        have a1 := preSum_take zs (j + 1) hj'
        have a2 := sum_get zs (j + 1)
        have a3 : lenAt zs j ≤ preSum (lenAt zs) (j + 1) := by
          have := preSum_take zs j (Nat.le_of_lt hj')
          simp only [preSum]
          omega
        have a4 : 0 ≤ lenAt zs j := Int.natCast_nonneg _
        refine ⟨⟨by omega, by omega⟩, by omega, by omega⟩
      · obtain ⟨more, em⟩ := hmore
        have nwr : ∀ b u, s1.heap.get? b = some u → b ∉ h3.objs.size :: [s1.heap.objs.size] := fun b u e hb => by
          have hl := Heap.lt_size e
          rcases List.mem_cons.mp hb with z | z
          · rw [z] at hl
            have h9 : (h3.objs.size : Nat) < s1.heap.objs.size := hl
            omega
          · rcases List.mem_cons.mp z with z | z
            · rw [z] at hl
              exact Nat.lt_irrefl _ hl
            · cases z
        have J := inv_tab (more := more) (h' := s'.heap) (g' := s'.gens) (d' := s'.drawn) (t' := s'.toks) I1 hP (fun b u hb e => hm.heap b u (nwr b u e) (hk5 b u (keep3 b u hb e)))
          (by rw [← em]; exact hm.heap P _ (nwr P _ hPs) (hk5 P _ hP3)) (AllBare.movedS (I1.bare.push hgb) hm)
        rw [sh_eta s1 s' hm.os] at J
        refine ⟨.int _, upd H1 P (.tbl (ps ++ more)), J, ⟨t', rfl⟩, ?_⟩
        have ee : preSum (lenAt zs) its.toArray.size = ((zs.sum : Nat) : Int) := by
          rw [List.size_toArray, hlen]
          exact preSum_all zs
        rw [ee]
        exact hq _ ⟨⟨ps ++ more, upd_same, by rw [← em]; exact ht3⟩, fun b hb => upd_ne hb⟩
  refine ⟨lim2, ?_⟩
  cases hf : codeAmong gpos ps.toList with
  | none =>
    refine wpAny_genexprCodeX hcode (cd.code hP2 ht) (cd.tab hP2) hf fun c' h' tk hx hge hlt hco' _ htab' _ => ?_
    obtain ⟨o1, vs, f1, tf, fl, tg, inF, tx, tt, op, _, _, _, _, _, _, _, _, _, htr, _⟩ := hco'
    exact cont _ h' tk _ hx (Nat.le_trans hge (Nat.le_of_lt hlt)) htab'.2 ⟨_, rfl⟩ htr
  | some cv =>
    refine wpAny_genexprCode_hit hcode (cd.code hP2 ht) hf ?_
    exact cont cv (s1.heap.push o) s1.toks ps (Heap.ExtBut.refl _ _) (Nat.le_refl _) hP2 ⟨#[], by simp⟩ ht
end
end Tg
/-! The mathematics: groupings as lists of lists of ints, plain Lean. -/
namespace Tg
abbrev Lot := List Int
abbrev Gr := List Lot

def ltL : Lot → Lot → Bool
  | [], [] => false
  | [], _ :: _ => true
  | _ :: _, [] => false
  | x :: xs, y :: ys => if x = y then ltL xs ys else decide (x < y)
def ltG : Gr → Gr → Bool
  | [], [] => false
  | [], _ :: _ => true
  | _ :: _, [] => false
  | x :: xs, y :: ys => if x = y then ltG xs ys else ltL x y

/-- insertion sort -/
def ins {α : Type} (lt : α → α → Bool) (a : α) : List α → List α
  | [] => [a]
  | b :: r => if lt b a then b :: ins lt a r else a :: b :: r
def isort {α : Type} (lt : α → α → Bool) : List α → List α
  | [] => []
  | a :: r => ins lt a (isort lt r)
theorem ins_perm {α : Type} (lt : α → α → Bool) (a : α) : ∀ l : List α, (ins lt a l).Perm (a :: l)
  | [] => .refl _
  | b :: r => by
    unfold ins
    split
    · exact ((ins_perm lt a r).cons b).trans (.swap a b r)
    · exact .refl _
theorem isort_perm {α : Type} (lt : α → α → Bool) : ∀ l : List α, (isort lt l).Perm l
  | [] => .refl _
  | a :: r => (ins_perm lt a _).trans ((isort_perm lt r).cons a)

/-- a strict total order -/
structure STO {α : Type} (lt : α → α → Bool) : Prop where
  irr : ∀ a, lt a a = false
  tr : ∀ a b c, lt a b = true → lt b c = true → lt a c = true
  tot : ∀ a b, lt a b = false → lt b a = false → a = b
theorem STO.asymm {α : Type} {lt : α → α → Bool} (o : STO lt) {a b : α} (h : lt a b = true) : lt b a = false := by
  cases e : lt b a with
  | false => rfl
  | true =>
    have := o.tr a b a h e
    rw [o.irr] at this
    cases this
theorem STO.ntr {α : Type} {lt : α → α → Bool} (o : STO lt) {a b c : α} (h1 : lt b a = false) (h2 : lt c b = false) : lt c a = false := by
  cases e : lt c a with
  | false => rfl
  | true =>
    by_cases hab : a = b
    · subst hab
      rw [e] at h2
      cases h2
    · cases f : lt a b with
      | true =>
        have := o.tr c a b e f
        rw [this] at h2
        cases h2
      | false => exact absurd (o.tot a b f h1) hab
theorem ins_sorted {α : Type} {lt : α → α → Bool} (o : STO lt) (a : α) : ∀ l : List α, l.Pairwise (fun x y => lt y x = false) → (ins lt a l).Pairwise (fun x y => lt y x = false)
  | [], _ => by simp [ins]
  | b :: r, h => by
    have hb := (List.pairwise_cons.mp h).1
    have hr := (List.pairwise_cons.mp h).2
    unfold ins
    split
    · rename_i hlt
      refine List.pairwise_cons.mpr ⟨fun y hy => ?_, ins_sorted o a r hr⟩
      rcases List.mem_cons.mp ((ins_perm lt a r).mem_iff.mp hy) with e | hy
      · rw [e]
        exact o.asymm hlt
      · exact hb y hy
    · rename_i hlt
      have hlt : lt b a = false := by simpa using hlt
      refine List.pairwise_cons.mpr ⟨fun y hy => ?_, h⟩
      rcases List.mem_cons.mp hy with e | hy
      · rw [e]
        exact hlt
      · exact o.ntr hlt (hb y hy)
theorem isort_sorted {α : Type} {lt : α → α → Bool} (o : STO lt) : ∀ l : List α, (isort lt l).Pairwise (fun x y => lt y x = false)
  | [] => .nil
  | a :: r => ins_sorted o a _ (isort_sorted o r)
/-- two lists in order with the same items are one -/
theorem sorted_uniq {α : Type} {lt : α → α → Bool} (o : STO lt) : ∀ l m : List α, l.Pairwise (fun x y => lt y x = false) → m.Pairwise (fun x y => lt y x = false) → l.Perm m → l = m
  | [], m, _, _, p => by rw [p.nil_eq]
  | a :: l, [], _, _, p => by
    have := p.length_eq
    simp at this
  | a :: l, b :: m, hl, hm, p => by
    have e : a = b := by
      have h1 : a ∈ b :: m := p.mem_iff.mp List.mem_cons_self
      have h2 : b ∈ a :: l := p.mem_iff.mpr List.mem_cons_self
      rcases List.mem_cons.mp h1 with e | h1
      · exact e
      · rcases List.mem_cons.mp h2 with e | h2
        · exact e.symm
        · exact o.tot a b ((List.pairwise_cons.mp hm).1 a h1) ((List.pairwise_cons.mp hl).1 b h2)
    subst e
    rw [sorted_uniq o l m (List.pairwise_cons.mp hl).2 (List.pairwise_cons.mp hm).2 (List.Perm.cons_inv p)]
theorem isort_eq {α : Type} {lt : α → α → Bool} (o : STO lt) {l m : List α} (h : m.Pairwise (fun x y => lt y x = false)) (p : m.Perm l) : m = isort lt l :=
  sorted_uniq o _ _ h (isort_sorted o l) (p.trans (isort_perm lt l).symm)

theorem stoI : STO (fun a b : Int => decide (a < b)) := ⟨fun a => by simp, fun a b c h1 h2 => by simp only [decide_eq_true_eq] at *; omega, fun a b h1 h2 => by simp only [decide_eq_false_iff_not] at *; omega⟩
theorem ltL_irr : ∀ a : Lot, ltL a a = false
  | [] => rfl
  | x :: xs => by
    simp only [ltL, if_true]
    exact ltL_irr xs
theorem ltL_tr : ∀ a b c : Lot, ltL a b = true → ltL b c = true → ltL a c = true
  | [], [], c, h, _ => by simp [ltL] at h
  | [], _ :: _, [], _, h => by simp [ltL] at h
  | [], _ :: _, _ :: _, _, _ => rfl
  | _ :: _, [], _, h, _ => by simp [ltL] at h
  | _ :: _, _ :: _, [], _, h => by simp [ltL] at h
  | x :: xs, y :: ys, z :: zs, h1, h2 => by
    simp only [ltL] at h1 h2 ⊢
    by_cases e1 : x = y
    · subst e1
      rw [if_pos rfl] at h1
      by_cases e2 : x = z
      · subst e2
        rw [if_pos rfl] at h2 ⊢
        exact ltL_tr xs ys zs h1 h2
      · rw [if_neg e2] at h2 ⊢
        exact h2
    · rw [if_neg e1] at h1
      by_cases e2 : y = z
      · subst e2
        rw [if_neg e1]
        exact h1
      · rw [if_neg e2] at h2
        simp only [decide_eq_true_eq] at h1 h2
        rw [if_neg (by omega)]
        simp only [decide_eq_true_eq]
        omega
theorem ltL_tot : ∀ a b : Lot, ltL a b = false → ltL b a = false → a = b
  | [], [], _, _ => rfl
  | [], _ :: _, h, _ => by simp [ltL] at h
  | _ :: _, [], _, h => by simp [ltL] at h
  | x :: xs, y :: ys, h1, h2 => by
    simp only [ltL] at h1 h2
    by_cases e : x = y
    · subst e
      rw [if_pos rfl] at h1 h2
      rw [ltL_tot xs ys h1 h2]
    · rw [if_neg e] at h1
      rw [if_neg (Ne.symm e)] at h2
      simp only [decide_eq_false_iff_not] at h1 h2
      omega
theorem stoL : STO ltL := ⟨ltL_irr, ltL_tr, ltL_tot⟩
theorem ltG_irr : ∀ a : Gr, ltG a a = false
  | [] => rfl
  | x :: xs => by
    simp only [ltG, if_true]
    exact ltG_irr xs
theorem ltG_tr : ∀ a b c : Gr, ltG a b = true → ltG b c = true → ltG a c = true
  | [], [], c, h, _ => by simp [ltG] at h
  | [], _ :: _, [], _, h => by simp [ltG] at h
  | [], _ :: _, _ :: _, _, _ => rfl
  | _ :: _, [], _, h, _ => by simp [ltG] at h
  | _ :: _, _ :: _, [], _, h => by simp [ltG] at h
  | x :: xs, y :: ys, z :: zs, h1, h2 => by
    simp only [ltG] at h1 h2 ⊢
    by_cases e1 : x = y
    · subst e1
      rw [if_pos rfl] at h1
      by_cases e2 : x = z
      · subst e2
        rw [if_pos rfl] at h2 ⊢
        exact ltG_tr xs ys zs h1 h2
      · rw [if_neg e2] at h2 ⊢
        exact h2
    · rw [if_neg e1] at h1
      by_cases e2 : y = z
      · subst e2
        rw [if_neg e1]
        exact h1
      · rw [if_neg e2] at h2
        have h3 := ltL_tr x y z h1 h2
        have e3 : x ≠ z := fun e => by
          subst e
          rw [ltL_irr] at h3
          cases h3
        rw [if_neg e3]
        exact h3
theorem ltG_tot : ∀ a b : Gr, ltG a b = false → ltG b a = false → a = b
  | [], [], _, _ => rfl
  | [], _ :: _, h, _ => by simp [ltG] at h
  | _ :: _, [], _, h => by simp [ltG] at h
  | x :: xs, y :: ys, h1, h2 => by
    simp only [ltG] at h1 h2
    by_cases e : x = y
    · subst e
      rw [if_pos rfl] at h1 h2
      rw [ltG_tot xs ys h1 h2]
    · rw [if_neg e] at h1
      rw [if_neg (Ne.symm e)] at h2
      exact absurd (ltL_tot x y h1 h2) e
theorem stoG : STO ltG := ⟨ltG_irr, ltG_tr, ltG_tot⟩

/-! ### the program's own reckoning -/
def nat (n : Nat) : Int := (n : Int)
/-- 0, 1, .. below n -/
def rng (n : Nat) : List Int := (List.range n).map nat
/-- one grouping with a person more: into each group in turn, then alone -/
def growOne (p : Int) (g : Gr) : List Gr := (List.range g.length).map (fun k => g.take k ++ (g.getD k [] ++ [p]) :: g.drop (k + 1)) ++ [g ++ [[p]]]
def rawG : Nat → List Gr
  | 0 => [[]]
  | n + 1 => (rawG n).flatMap (growOne (nat n))
def AG (n : Nat) : List Gr := isort ltG (rawG n)
def pairsRow (n : Nat) (i : Nat) : List Lot := (List.range (n - (i + 1))).map fun j => [nat i, nat (i + 1 + j)]
def pairsOf (n : Nat) : List Lot := (List.range n).flatMap (pairsRow n)
def together (g : Gr) (p : Lot) : Bool := g.any fun l => l.contains (p.getD 0 0) && l.contains (p.getD 1 0)
def fit (n : Nat) (J A : List Lot) : List Gr := (AG n).filter fun g => J.all (together g) && !(A.any (together g))
def size (g : Gr) : Nat := (g.map List.length).sum
def share (l m : Lot) : Int := nat (l.filter fun p => m.contains p).length
/-! ### the law's -/
def insU (a : Int) : List Int → List Int
  | [] => [a]
  | b :: r => if b < a then b :: insU a r else if b = a then b :: r else a :: b :: r
/-- sorted(set(l)) -/
def labs : List Int → List Int
  | [] => []
  | a :: r => insU a (labs r)
def posOf (ls : List Int) (x : Int) : Lot := ((List.range ls.length).filter fun k => decide (ls.getD k 0 = x)).map nat
def lots (ls : List Int) : Gr := isort ltL ((labs ls).map (posOf ls))
/-- the greatest of a list and -1, and two more -/
def topOf (ls : List Int) : Int := ls.foldl (fun m x => if m < x then x else m) (-1) + 2
def growL (ls : List Int) : List (List Int) := (List.range (topOf ls).toNat).map fun k => ls ++ [nat k]
def rawL : Nat → List (List Int)
  | 0 => [[]]
  | n + 1 => (rawL n).flatMap growL
def LG (n : Nat) : List Gr := isort ltG ((rawL n).map lots)
/-- the label of each person -/
def labelOf (g : Gr) (p : Int) : Int := nat (g.findIdx fun l => l.contains p)
def labels (g : Gr) : List Int := (rng (size g)).map (labelOf g)
def stepsRaw (n : Nat) : List Lot := (List.range n).map (fun i => [nat i]) ++ pairsOf n
def steps (n : Nat) : List Lot := isort ltL (stepsRaw n)

/-! ### what is true of the few sizes -/
def ascI : List Int → Bool
  | [] => true
  | [_] => true
  | a :: b :: r => decide (a < b) && ascI (b :: r)
def ascL : List Lot → Bool
  | [] => true
  | [_] => true
  | a :: b :: r => ltL a b && ascL (b :: r)
def ascG : List Gr → Bool
  | [] => true
  | [_] => true
  | a :: b :: r => ltG a b && ascG (b :: r)
def okLot (l : Lot) : Bool := !l.isEmpty && (l.all (fun p => decide (0 ≤ p) && decide (p ≤ 5)) && ascI l)
/-- a grouping of n people -/
def okG (n : Nat) (g : Gr) : Bool := !g.isEmpty && (g.all okLot && (decide (isort (fun a b : Int => decide (a < b)) g.flatten = rng n) && ascL g))
def okP (n : Nat) (p : Lot) : Bool := match p with
  | [a, b] => decide (0 ≤ a) && (decide (a < b) && decide (b < nat n))
  | _ => false
def atL (ls : List Int) (i : Int) : Int := ls.getD i.toNat 0
def check (n : Nat) : Bool :=
  decide (LG n = AG n) && ((AG n).all (okG n) && (ascG (AG n) && (decide ((steps n).filter (fun s => decide (s.length = 2)) = pairsOf n) && ((pairsOf n).all (okP n) && (ascL (pairsOf n) && (!(AG n).isEmpty &&
    ((AG n).all fun g => (pairsOf n).all fun p => together g p == decide (atL (labels g) (p.getD 0 0) = atL (labels g) (p.getD 1 0)))))))))
theorem checks : check 1 && check 2 && check 3 && check 4 && check 5 = true := by decide +kernel
theorem check_all {n : Nat} (h1 : 1 ≤ n) (h5 : n ≤ 5) : check n = true := by
  have h := checks
  simp only [Bool.and_eq_true] at h
  obtain ⟨⟨⟨⟨a, b⟩, c⟩, d⟩, e⟩ := h
  rcases (by omega : n = 1 ∨ n = 2 ∨ n = 3 ∨ n = 4 ∨ n = 5) with rfl | rfl | rfl | rfl | rfl
  · exact a
  · exact b
  · exact c
  · exact d
  · exact e
end Tg
/-! lots and groupings as data; their order is Python's. -/
namespace Tg
open PySem PySem.W PyProof.Rows
def dL (l : Lot) : PyData := .tuple (l.map .int)
def dG (g : Gr) : PyData := .tuple (g.map dL)

theorem alike_dL (a b : Lot) : alike (dL a) (dL b) = true := by
  unfold dL
  rw [alike]
  exact alike_ints a b
theorem alikeAll_dL : ∀ a b : List Lot, alikeAll (a.map dL) (b.map dL) = true
  | [], _ => by simp [alikeAll]
  | _ :: _, [] => by simp [alikeAll]
  | x :: xs, y :: ys => by
    show alikeAll (dL x :: xs.map dL) (dL y :: ys.map dL) = true
    rw [alikeAll, alike_dL, alikeAll_dL xs ys]
    rfl
theorem alike_dG (a b : Gr) : alike (dG a) (dG b) = true := by
  unfold dG
  rw [alike]
  exact alikeAll_dL a b
theorem eqvAll_ints : ∀ a b : List Int, PyData.eqvAll (a.map .int) (b.map .int) = decide (a = b)
  | [], [] => by simp [PyData.eqvAll]
  | [], _ :: _ => by simp [PyData.eqvAll]
  | _ :: _, [] => by simp [PyData.eqvAll]
  | x :: xs, y :: ys => by
    show PyData.eqvAll (.int x :: xs.map .int) (.int y :: ys.map .int) = _
    rw [eqv_all_cons, eqvAll_ints xs ys]
    have e : PyData.eqv (.int x) (.int y) = decide (x = y) := by rw [Bool.eq_iff_iff]; simp [PyData.eqv]
    rw [e]
    by_cases h1 : x = y <;> by_cases h2 : xs = ys <;> simp [h1, h2]
theorem eqv_dL (a b : Lot) : PyData.eqv (dL a) (dL b) = decide (a = b) := by
  unfold dL
  rw [PyData.eqv]
  exact eqvAll_ints a b
theorem eqvAll_dL : ∀ a b : List Lot, PyData.eqvAll (a.map dL) (b.map dL) = decide (a = b)
  | [], [] => by simp [PyData.eqvAll]
  | [], _ :: _ => by simp [PyData.eqvAll]
  | _ :: _, [] => by simp [PyData.eqvAll]
  | x :: xs, y :: ys => by
    show PyData.eqvAll (dL x :: xs.map dL) (dL y :: ys.map dL) = _
    rw [eqv_all_cons, eqvAll_dL xs ys, eqv_dL]
    by_cases h1 : x = y <;> by_cases h2 : xs = ys <;> simp [h1, h2]
theorem eqv_dG (a b : Gr) : PyData.eqv (dG a) (dG b) = decide (a = b) := by
  unfold dG
  rw [PyData.eqv]
  exact eqvAll_dL a b
theorem rowLt_nil : rowLt [] [] = false := lex_irrefl _
theorem rowLt_nc (y : PyData) (ys : List PyData) : rowLt [] (y :: ys) = true := by
  unfold rowLt
  rw [toks_all_cons]
  simp only [keyToksAll]
  rw [lex_diff (O := itemOrd) (by simp)]
  rfl
theorem rowLt_cn (x : PyData) (xs : List PyData) : rowLt (x :: xs) [] = false := by
  unfold rowLt
  rw [toks_all_cons]
  simp only [keyToksAll]
  rw [lex_diff (O := itemOrd) (by simp)]
  rfl
theorem rowLt_ints : ∀ a b : Lot, rowLt (a.map .int) (b.map .int) = ltL a b
  | [], [] => rowLt_nil
  | [], y :: ys => rowLt_nc _ _
  | x :: xs, [] => rowLt_cn _ _
  | x :: xs, y :: ys => by
    show PyProof.Rows.lexLt itemOrd (keyToksAll (PyData.int x :: xs.map .int)) (keyToksAll (PyData.int y :: ys.map .int)) = _
    rw [dataLt_cons (by simp [alike]), dataLt_int]
    have e : PyData.eqv (.int x) (.int y) = decide (x = y) := by rw [Bool.eq_iff_iff]; simp [PyData.eqv]
    rw [e]
    simp only [ltL, decide_eq_true_eq]
    by_cases h : x = y
    · rw [if_pos h, if_pos h]
      exact rowLt_ints xs ys
    · rw [if_neg h, if_neg h]
theorem dataLt_dL (a b : Lot) : dataLt (dL a) (dL b) = ltL a b := by
  unfold dL
  rw [dataLt_tuple]
  exact rowLt_ints a b
theorem rowLt_lots : ∀ a b : Gr, rowLt (a.map dL) (b.map dL) = ltG a b
  | [], [] => rowLt_nil
  | [], y :: ys => rowLt_nc _ _
  | x :: xs, [] => rowLt_cn _ _
  | x :: xs, y :: ys => by
    show PyProof.Rows.lexLt itemOrd (keyToksAll (dL x :: xs.map dL)) (keyToksAll (dL y :: ys.map dL)) = _
    rw [dataLt_cons (alike_dL x y), dataLt_dL, eqv_dL]
    simp only [ltG, decide_eq_true_eq]
    by_cases h : x = y
    · rw [if_pos h, if_pos h]
      exact rowLt_lots xs ys
    · rw [if_neg h, if_neg h]
theorem dataLt_dG (a b : Gr) : dataLt (dG a) (dG b) = ltG a b := by
  unfold dG
  rw [dataLt_tuple]
  exact rowLt_lots a b
/-- (distance, grouping) -/
def dN (p : Int × Gr) : PyData := .tuple [.int p.1, dG p.2]
def ltN (p q : Int × Gr) : Bool := if p.1 = q.1 then ltG p.2 q.2 else decide (p.1 < q.1)
theorem alike_dN (p q : Int × Gr) : alike (dN p) (dN q) = true := by
  simp only [dN, alike, alikeAll, alike_dG, Bool.and_self]
theorem dataLt_dN (p q : Int × Gr) : dataLt (dN p) (dN q) = ltN p q := by
  unfold dN ltN
  rw [dataLt_pair (by simp [alike]) (alike_dG _ _), dataLt_int, eqv_dG, dataLt_dG]
  have e : PyData.eqv (.int p.1) (.int q.1) = decide (p.1 = q.1) := by rw [Bool.eq_iff_iff]; simp [PyData.eqv]
  rw [e]
  simp only [decide_eq_true_eq]
  by_cases h : p.1 = q.1
  · rw [if_pos h, if_pos h]
    by_cases h2 : p.2 = q.2
    · rw [if_pos h2, h2, ltG_irr]
    · rw [if_neg h2]
  · rw [if_neg h, if_neg h]

/-- Python's sorted of data that stand for things with a strict total order -/
theorem sort_enc {α : Type} {lt : α → α → Bool} (o : STO lt) (enc : α → PyData) (he : ∀ a b, dataLt (enc a) (enc b) = lt a b) (l : List α) :
    (l.map enc).mergeSort (dataLe false (fun d => d)) = (isort lt l).map enc := by
  have h1 : (l.map enc).mergeSort (dataLe false (fun d => d)) = (l.mergeSort (dataLe false enc)).map enc := by
    refine (sort_maps (r := dataLe false enc) (s := dataLe false (fun d => d)) enc (l := l) fun a _ b _ => rfl).symm
  rw [h1]
  have le : dataLe false enc = fun a b => !lt b a := by
    funext a b
    show (!dataLt (enc b) (enc a)) = _
    rw [he]
  rw [le]
  have hp : (l.mergeSort fun a b => !lt b a).Pairwise (fun x y => lt y x = false) := by
    have q := List.pairwise_mergeSort (le := fun a b => !lt b a) (fun a b c h1 h2 => by
      simp only [Bool.not_eq_true'] at h1 h2 ⊢
      exact o.ntr h1 h2) (fun a b => by
      cases e : lt b a with
      | false => simp
      | true => simp [o.asymm e]) l
    exact q.imp fun h => by simpa using h
  rw [isort_eq o hp (List.mergeSort_perm _ _)]
theorem depth_dL (l : Lot) : (dL l).depth = 1 := by
  unfold dL
  simp [PyData.depth, depth_ints]
theorem depthAll_dL : ∀ g : List Lot, PyData.depthAll (g.map dL) ≤ 1
  | [] => by simp [PyData.depthAll]
  | l :: g => by
    show PyData.depthAll (dL l :: g.map dL) ≤ 1
    rw [PyData.depthAll, depth_dL]
    have := depthAll_dL g
    omega
theorem depth_dG (g : Gr) : (dG g).depth ≤ 2 := by
  unfold dG
  have := depthAll_dL g
  simp only [PyData.depth]
  omega
theorem depth_dN (p : Int × Gr) : (dN p).depth ≤ 3 := by
  have := depth_dG p.2
  unfold dN
  simp only [PyData.depth, PyData.depthAll]
  omega
end Tg
/-! what every def here keeps: a relation of heaps; lots and groupings in memory; walks over things that stand still. -/
namespace Tg
open PySem PySem.Spec PyProof.Rows L2 GxR

/-! ### heaps -/
/-- all that stood stands, the tables of ts stay tables, nothing is forgotten -/
structure Nx (ts : List Addr) (H H' : Hp) : Prop where
  ext : ∀ b o, H b = some o → (∀ ps, o ≠ .tbl ps) → H' b = some o
  tab : ∀ P ∈ ts, TabG H P → TabG H' P
  non : ∀ b, H' b = none → H b = none
/-- tuples stay -/
def TupN (H H' : Hp) : Prop := ∀ b xs, Rd H b (.tup xs) → Rd H' b (.tup xs)
def Tb (ts : List Addr) (H : Hp) : Prop := ∀ P ∈ ts, TabG H P
section
variable {ts : List Addr} {H H0 H1 H2 H' : Hp} {p P : Addr} {o : HO}
theorem Nx.refl (H : Hp) : Nx ts H H := ⟨fun _ _ h _ => h, fun _ _ h => h, fun _ h => h⟩
theorem Nx.trans (a : Nx ts H H1) (b : Nx ts H1 H2) : Nx ts H H2 := ⟨fun c o h n => b.ext c o (a.ext c o h n) n, fun P hP h => b.tab P hP (a.tab P hP h), fun c h => a.non c (b.non c h)⟩
theorem Nx.upd (a : Nx ts H0 H) (n : H0 p = none) : Nx ts H0 (L2.upd H p o) := by
  refine ⟨fun c u h q => ?_, fun P hP h => ?_, fun c h => ?_⟩
  · rw [upd_ne (ne_of_none h n)]
    exact a.ext c u h q
  · obtain ⟨ps, e, t⟩ := a.tab P hP h
    obtain ⟨ps0, e0, _⟩ := h
    exact ⟨ps, by rw [upd_ne (ne_of_none e0 n)]; exact e, t⟩
  · by_cases e : c = p
    · subst e
      exact n
    · rw [upd_ne e] at h
      exact a.non c h
theorem Nx.new (a : Nx ts H0 H) (n : H p = none) : Nx ts H0 (L2.upd H p o) := a.upd (a.non p n)
theorem Nx.tabbed (a : Nx ts H0 H) (h : Tabbed P H H') (t : TabG H P) : Nx ts H0 H' := by
  refine a.trans ⟨fun c u hc q => ?_, fun P' hP' t' => ?_, fun c hc => ?_⟩
  · by_cases e : c = P
    · subst e
      obtain ⟨ps, e2, _⟩ := t
      rw [e2] at hc
      exact absurd (Option.some.inj hc).symm (q ps)
    · rw [h.2 c e]
      exact hc
  · by_cases e : P' = P
    · subst e
      exact h.1
    · obtain ⟨ps, e2, t2⟩ := t'
      exact ⟨ps, by rw [h.2 P' e]; exact e2, t2⟩
  · by_cases e : c = P
    · subst e
      obtain ⟨ps, e2, _⟩ := h.1
      rw [e2] at hc
      cases hc
    · rw [← h.2 c e]
      exact hc
theorem Nx.lst {xs : List V} (a : Nx ts H H') (h : H p = some (.lst xs)) : H' p = some (.lst xs) := a.ext _ _ h fun ps e => by cases e
theorem Nx.tup {xs : List V} (a : Nx ts H H') (h : H p = some (.tup xs)) : H' p = some (.tup xs) := a.ext _ _ h fun ps e => by cases e
theorem Nx.rd {xs : List V} (a : Nx ts H H') (h : Rd H p (.tup xs)) : Rd H' p (.tup xs) := h.elim (fun h => .inl (a.tup h)) fun ⟨o, h⟩ => .inr ⟨o, a.ext _ _ h fun ps e => by cases e⟩
theorem Nx.rdL {xs : List V} (a : Nx ts H H') (h : Rd H p (.lst xs)) : Rd H' p (.lst xs) := h.elim (fun h => .inl (a.lst h)) fun ⟨o, h⟩ => .inr ⟨o, a.ext _ _ h fun ps e => by cases e⟩
theorem Nx.tupN (a : Nx ts H H') : TupN H H' := fun b xs h => a.rd h
theorem Nx.sqL {K : PySem.W.Frag} {xs : List V} (a : Nx ts H H') (h : SqL K H p xs) : SqL K H' p xs := h.elim (fun h => .inl (a.rdL h)) .inr
theorem TupN.refl (H : Hp) : TupN H H := fun _ _ h => h
theorem TupN.trans (a : TupN H H1) (b : TupN H1 H2) : TupN H H2 := fun c xs h => b c xs (a c xs h)
theorem TupN.lst {xs ys : List V} (h : H p = some (.lst xs)) : TupN H (L2.upd H p (.lst ys)) := fun b zs hb => by
  have ne : b ≠ p := fun e => by
    subst e
    rcases hb with hb | ⟨_, hb⟩ <;> (rw [h] at hb; cases hb)
  rcases hb with hb | ⟨u, hb⟩
  · exact .inl (by rw [upd_ne ne]; exact hb)
  · exact .inr ⟨u, by rw [upd_ne ne]; exact hb⟩
theorem TupN.sq {K : PySem.W.Frag} {xs : List V} (a : TupN H H') (h : SqT K H p xs) : SqT K H' p xs := h.elim (fun h => .inl (a _ _ h)) .inr
theorem Tb.nx (t : Tb ts H) (a : Nx ts H H') : Tb ts H' := fun P hP => a.tab P hP (t P hP)
end

/-! ### data in memory -/
section
variable {K : PySem.W.Frag} {α β : Type}
abbrev Rel (β : Type) := Hp → V → β → Prop
def IsI : Rel Int := fun _ v i => v = .int i
def TupOf (K : PySem.W.Frag) (R : Rel β) : Rel (List β) := fun H v zs => ∃ a xs, v = .ref a ∧ SqT K H a xs ∧ Paired (R H) xs zs
def LstOf (R : Rel β) : Rel (List β) := fun H v zs => ∃ a xs, v = .ref a ∧ H a = some (.lst xs) ∧ Paired (R H) xs zs
abbrev IsL (K : PySem.W.Frag) : Rel Lot := TupOf K IsI
abbrev IsG (K : PySem.W.Frag) : Rel Gr := TupOf K (IsL K)
abbrev IsGs (K : PySem.W.Frag) : Rel (List Gr) := TupOf K (IsG K)
/-- stays while tuples stay -/
def PersT (R : Rel β) : Prop := ∀ H H' v x, TupN H H' → R H v x → R H' v x
theorem persI : PersT IsI := fun _ _ _ _ _ h => h
theorem PersT.paired {R : Rel β} (r : PersT R) {H H' : Hp} (t : TupN H H') {xs : List V} {zs : List β} (h : Paired (R H) xs zs) : Paired (R H') xs zs := Paired.mapP h fun v x q => r H H' v x t q
theorem PersT.tup {R : Rel β} (r : PersT R) : PersT (TupOf K R) := fun H H' v zs t ⟨a, xs, e, h, p⟩ => ⟨a, xs, e, t.sq h, r.paired t p⟩
theorem persL : PersT (IsL K) := persI.tup
theorem persG : PersT (IsG K) := persL.tup
theorem persGs : PersT (IsGs K) := persG.tup
theorem PersT.nx {R : Rel β} (r : PersT R) {ts : List Addr} {H H' : Hp} {v : V} {x : β} (n : Nx ts H H') (h : R H v x) : R H' v x := r H H' v x n.tupN h
theorem paired_ints {H : Hp} : ∀ {xs : List V} {ns : List Int}, Paired (IsI H) xs ns → xs = ns.map V.int
  | _, _, .nil => rfl
  | _, _, .cons e t => by rw [List.map_cons, ← paired_ints t, ← e]
theorem ints_paired {H : Hp} : ∀ ns : List Int, Paired (IsI H) (ns.map V.int) ns
  | [] => .nil
  | n :: ns => .cons rfl (ints_paired ns)
theorem IsL.sq {H : Hp} {v : V} {l : Lot} (h : IsL K H v l) : ∃ a, v = .ref a ∧ SqT K H a (l.map V.int) := by
  obtain ⟨a, xs, e, h, p⟩ := h
  rw [paired_ints p] at h
  exact ⟨a, e, h⟩
theorem IsL.of {H : Hp} {a : Addr} {l : Lot} (h : SqT K H a (l.map V.int)) : IsL K H (.ref a) l := ⟨a, _, rfl, h, ints_paired l⟩
theorem paired_get {R : V → β → Prop} : ∀ {xs : List V} {zs : List β} {i : Nat} {x : V}, Paired R xs zs → xs[i]? = some x → ∃ z, zs[i]? = some z ∧ R x z
  | _, _, _, _, .nil, e => by simp at e
  | _, _, 0, _, .cons r _, e => by simp at e; subst e; exact ⟨_, rfl, r⟩
  | _, _, i + 1, x, .cons _ t, e => by
    obtain ⟨y, h1, h2⟩ := paired_get (i := i) t (by simpa using e)
    exact ⟨y, by simpa using h1, h2⟩
theorem paired_get2 {R : V → β → Prop} : ∀ {xs : List V} {zs : List β} {i : Nat} {z : β}, Paired R xs zs → zs[i]? = some z → ∃ x, xs[i]? = some x ∧ R x z
  | _, _, _, _, .nil, e => by simp at e
  | _, _, 0, _, .cons r _, e => by simp at e; subst e; exact ⟨_, rfl, r⟩
  | _, _, i + 1, x, .cons _ t, e => by
    obtain ⟨y, h1, h2⟩ := paired_get2 (i := i) t (by simpa using e)
    exact ⟨y, by simpa using h1, h2⟩
theorem paired_app {R : V → β → Prop} : ∀ {xs xs' : List V} {zs zs' : List β}, Paired R xs zs → Paired R xs' zs' → Paired R (xs ++ xs') (zs ++ zs')
  | _, _, _, _, .nil, h => h
  | _, _, _, _, .cons r t, h => .cons r (paired_app t h)
theorem dpAll_of {R : Rel β} {enc : β → PyData} {H : Hp} (he : ∀ v x, R H v x → Dp K H v (enc x)) : ∀ {xs : List V} {zs : List β}, Paired (R H) xs zs → DpAll K H xs (zs.map enc)
  | _, _, .nil => .nil
  | _, _, .cons r t => .cons (he _ _ r) (dpAll_of he t)
theorem IsI.dp {H : Hp} {v : V} {i : Int} (h : IsI H v i) : Dp K H v (.int i) := by
  cases h
  exact .int i
theorem IsL.dp {H : Hp} {v : V} {l : Lot} (h : IsL K H v l) : Dp K H v (dL l) := by
  obtain ⟨a, xs, rfl, h, p⟩ := h
  exact .tup h (dpAll_of (enc := PyData.int) (fun v x q => IsI.dp q) p)
theorem IsG.dp {H : Hp} {v : V} {g : Gr} (h : IsG K H v g) : Dp K H v (dG g) := by
  obtain ⟨a, xs, rfl, h, p⟩ := h
  exact .tup h (dpAll_of (enc := dL) (fun v x q => IsL.dp q) p)
end

/-! ### what an expression gives -/
/-- te gives a value of R, the heap but grown -/
def TGives (ts : List Addr) (te : TE) (σ : L2.St) (H : Hp) (R : Hp → V → Prop) : Prop := ∀ C : VK, (∀ v H', Nx ts H H' → R H' v → C v H') → te σ H C
def TIs (ts : List Addr) (tt : TT) (σ : L2.St) (H : Hp) (b : Bool) : Prop := ∀ C : Bool → Hp → Prop, (∀ H', Nx ts H H' → C b H') → tt σ H C
theorem TIs.yes {ts : List Addr} {σ : L2.St} {H : Hp} : TIs ts tYes σ H true := fun C h => h H (.refl H)

/-! ### walks over things that stand still -/
def Src (ts : List Addr) (J : It) (H1 : Hp) (xs : List V) : Prop := ∃ G : Hp → Prop, Walk J xs.length G (YAt xs) ∧ ∀ H, Nx ts H1 H → G H
theorem src_tup {K : PySem.W.Frag} {ts : List Addr} {H : Hp} {a : Addr} {xs : List V} (h : SqT K H a xs) : Src ts (Itt K a) H xs := ⟨_, walk_tup, fun H' n => n.tupN.sq h⟩
theorem src_list {K : PySem.W.Frag} {ts : List Addr} {H : Hp} {a : Addr} {xs : List V} (h : SqL K H a xs) : Src ts (Itl K a) H xs := ⟨_, walk_list, fun H' n => n.sqL h⟩
def rgl (lo : Int) (n : Nat) : List Int := (List.range n).map fun i => lo + (i : Nat)
theorem rgl_len (lo : Int) (n : Nat) : (rgl lo n).length = n := by simp [rgl]
theorem src_rng {ts : List Addr} {H : Hp} {lo : Int} {n : Nat} : Src ts (Itr lo n) H ((rgl lo n).map V.int) := by
  refine ⟨fun _ => True, ?_, fun _ _ => trivial⟩
  have e : ((rgl lo n).map V.int).length = n := by simp [rgl]
  rw [e]
  refine (walk_range (lo := lo) (n := n)).mono (fun _ h => h) fun i H x H' hi _ y => ⟨y.1, ?_⟩
  rw [y.2]
  simp [rgl, hi]
section
variable {ts : List Addr} {J : It} {H1 : Hp} {xs : List V} {β γ : Type} {zs : List β} {R : Rel β} {te : TE} {tt : TT} {σ : L2.St} {j : Nat} {P : Addr} {Q : VK}
theorem wipe_set (σ : L2.St) (j : Nat) (x : V) : wipe ((wipe σ [j]).set j (some x)) [j] = wipe σ [j] := by
  simp [wipe]
/-- a generator expression over J that is asked by all -/
theorem allS (S : Src ts J H1 xs) (hR : PersT R) (pr : Paired (R H1) xs zs) (t : TabG H1 P) (f : β → Bool)
    (hs : ∀ z x H, z ∈ zs → Nx ts H1 H → R H x z → TGives ts te ((wipe σ [j]).set j (some x)) H (fun _ v => v = .bl (f z)))
    (hd : ∀ H, Nx ts H1 H → Q (.bl (zs.all f)) H) :
    TabG H1 P ∧ ∀ H2, Tabbed P H1 H2 → ∃ W : Nat → Nat → Hp → Prop, (∃ m, W 0 m H2) ∧ GenRun J (gName j) te [j] σ (fun H' => Q (.bl true) H') (QyB false fun b H' => Q (.bl b) H') W := by
  obtain ⟨G, w, hG⟩ := S
  refine ⟨t, fun H2 h2 => ⟨fun i m H => m = xs.length - i ∧ i ≤ xs.length ∧ Nx ts H1 H ∧ ∀ k z, k < i → zs[k]? = some z → f z = true, ⟨_, rfl, Nat.zero_le _, (Nx.refl H1).tabbed h2 t, fun k z hk => absurd hk (Nat.not_lt_zero _)⟩, ?_⟩⟩
  rintro i m H ⟨rfl, hi, n, hb⟩
  have hl : xs.length = zs.length := Paired.length pr
  by_cases hlt : i < xs.length
  · refine .inr ⟨w.goes i H hlt (hG H n), fun H' => Nx ts H1 H' ∧ ∀ k z, k < i + 1 → zs[k]? = some z → f z = true, fun H' h => ⟨xs.length - (i + 1), by omega, rfl, hlt, h⟩, fun x H' y => ?_⟩
    obtain ⟨rfl, hx⟩ := w.yields i H x H' hlt (hG H n) y
    obtain ⟨z, hz, r⟩ := paired_get pr hx
    refine ⟨wipe_set σ j x, hs z x H' (List.mem_of_getElem? hz) n (hR.nx n r) _ fun v H3 n3 e => ?_⟩
    refine ⟨f z, e, ?_⟩
    by_cases hf : f z = false
    · rw [if_pos hf]
      have q := hd H3 (n.trans n3)
      have e2 : zs.all f = false := by
        rw [List.all_eq_false]
        exact ⟨z, List.mem_of_getElem? hz, by rw [hf]; simp⟩
      rw [e2] at q
      exact q
    · rw [if_neg hf]
      refine ⟨n.trans n3, fun k z' hk hz' => ?_⟩
      rcases Nat.lt_succ_iff_lt_or_eq.mp hk with hk | hk
      · exact hb k z' hk hz'
      · subst hk
        rw [hz] at hz'
        cases hz'
        simpa using hf
  · have e : i = xs.length := by omega
    subst e
    refine .inl ⟨w.stops H (hG H n), ?_⟩
    have q := hd H n
    have e2 : zs.all f = true := by
      rw [List.all_eq_true]
      intro z hz
      obtain ⟨k, hk, e⟩ := List.mem_iff_getElem.mp hz
      exact hb k z (by omega) (by rw [List.getElem?_eq_getElem hk, e])
    rw [e2] at q
    exact q
theorem anyS (S : Src ts J H1 xs) (hR : PersT R) (pr : Paired (R H1) xs zs) (t : TabG H1 P) (f : β → Bool)
    (hs : ∀ z x H, z ∈ zs → Nx ts H1 H → R H x z → TGives ts te ((wipe σ [j]).set j (some x)) H (fun _ v => v = .bl (f z)))
    (hd : ∀ H, Nx ts H1 H → Q (.bl (zs.any f)) H) :
    TabG H1 P ∧ ∀ H2, Tabbed P H1 H2 → ∃ W : Nat → Nat → Hp → Prop, (∃ m, W 0 m H2) ∧ GenRun J (gName j) te [j] σ (fun H' => Q (.bl false) H') (QyB true fun b H' => Q (.bl b) H') W := by
  obtain ⟨G, w, hG⟩ := S
  refine ⟨t, fun H2 h2 => ⟨fun i m H => m = xs.length - i ∧ i ≤ xs.length ∧ Nx ts H1 H ∧ ∀ k z, k < i → zs[k]? = some z → f z = false, ⟨_, rfl, Nat.zero_le _, (Nx.refl H1).tabbed h2 t, fun k z hk => absurd hk (Nat.not_lt_zero _)⟩, ?_⟩⟩
  rintro i m H ⟨rfl, hi, n, hb⟩
  have hl : xs.length = zs.length := Paired.length pr
  by_cases hlt : i < xs.length
  · refine .inr ⟨w.goes i H hlt (hG H n), fun H' => Nx ts H1 H' ∧ ∀ k z, k < i + 1 → zs[k]? = some z → f z = false, fun H' h => ⟨xs.length - (i + 1), by omega, rfl, hlt, h⟩, fun x H' y => ?_⟩
    obtain ⟨rfl, hx⟩ := w.yields i H x H' hlt (hG H n) y
    obtain ⟨z, hz, r⟩ := paired_get pr hx
    refine ⟨wipe_set σ j x, hs z x H' (List.mem_of_getElem? hz) n (hR.nx n r) _ fun v H3 n3 e => ?_⟩
    refine ⟨f z, e, ?_⟩
    by_cases hf : f z = true
    · rw [if_pos hf]
      have q := hd H3 (n.trans n3)
      have e2 : zs.any f = true := by
        rw [List.any_eq_true]
        exact ⟨z, List.mem_of_getElem? hz, hf⟩
      rw [e2] at q
      exact q
    · rw [if_neg hf]
      refine ⟨n.trans n3, fun k z' hk hz' => ?_⟩
      rcases Nat.lt_succ_iff_lt_or_eq.mp hk with hk | hk
      · exact hb k z' hk hz'
      · subst hk
        rw [hz] at hz'
        cases hz'
        simpa using hf
  · have e : i = xs.length := by omega
    subst e
    refine .inl ⟨w.stops H (hG H n), ?_⟩
    have q := hd H n
    have e2 : zs.any f = false := by
      rw [List.any_eq_false]
      intro z hz
      obtain ⟨k, hk, e⟩ := List.mem_iff_getElem.mp hz
      rw [hb k z (by omega) (by rw [List.getElem?_eq_getElem hk, e])]
      simp
    rw [e2] at q
    exact q
/-- a list comprehension over J; the items' relation S stays while the list at D grows -/
theorem lcS {D : Addr} {U : Rel γ} {Qd : Hp → Prop} (S : Src ts J H1 xs) (hR : PersT R) (pr : Paired (R H1) xs zs) (hz : zs.length ≤ sizeLine) (hD : H1 D = none) (keep : β → Bool) (val : β → γ)
    (hU1 : ∀ H H' v x, Nx ts H H' → U H v x → U H' v x) (hU2 : ∀ H acc acc' v x, H D = some (.lst acc) → U H v x → U (upd H D (.lst acc')) v x)
    (hs : ∀ z x H, z ∈ zs → Nx ts H1 H → H D ≠ none → R H x z → TIs ts tt ((wipe σ [j]).set j (some x)) H (keep z) ∧ (keep z = true → ∀ H', Nx ts H1 H' → H' D ≠ none → R H' x z → TGives ts te ((wipe σ [j]).set j (some x)) H' (fun H v => U H v (val z))))
    (hd : ∀ H ys, Nx ts H1 H → H D = some (.lst ys) → Paired (U H) ys ((zs.filter keep).map val) → Qd H) :
    ∃ W : Nat → Nat → Hp → Prop, (∃ m, W 0 m (upd H1 D (.lst []))) ∧ ∀ i m H, W i m H →
      (J.stop i H ∧ Qd H) ∨ (J.go i H ∧ ∃ Nx : Hp → Prop, (∀ H', Nx H' → ∃ m', m' < m ∧ W (i + 1) m' H') ∧ ∀ x H', J.yld i H x H' → gName j x (wipe σ [j]) H' fun σ2 H2 => wipe σ2 [j] = wipe σ [j] ∧ tt σ2 H2 fun b H3 =>
        if b = true then te σ2 H3 fun y H4 => ∃ acc, H4 D = some (.lst acc) ∧ acc.length < sizeLine ∧ Nx (upd H4 D (.lst (acc ++ [y]))) else Nx H3) := by
  obtain ⟨G, w, hG⟩ := S
  have hl : xs.length = zs.length := Paired.length pr
  refine lc_it w (fun i H => Nx ts H1 H ∧ ∃ acc, H D = some (.lst acc) ∧ acc.length ≤ i ∧ Paired (U H) acc (((zs.take i).filter keep).map val)) ⟨(Nx.refl H1).upd hD, [], upd_same, Nat.le_refl _, .nil⟩ (fun i H _ h => hG H h.1) ?_ ?_
  · rintro i x H H' hi ⟨n, acc, hacc, hlen, hp⟩ ⟨rfl, hx⟩
    obtain ⟨z, hzz, r⟩ := paired_get pr hx
    have zin := List.mem_of_getElem? hzz
    have hD' : H' D ≠ none := by rw [hacc]; simp
    obtain ⟨h1, h2⟩ := hs z x H' zin n hD' (hR.nx n r)
    have tk : zs.take (i + 1) = zs.take i ++ [z] := by
      rw [List.take_succ, hzz]
      rfl
    refine ⟨wipe_set σ j x, h1 _ fun H3 n3 => ?_⟩
    have n13 := n.trans n3
    have hacc3 := n3.lst hacc
    cases hk : keep z with
    | true =>
      rw [if_pos rfl]
      refine h2 hk H3 n13 (by rw [hacc3]; simp) (hR.nx n13 r) _ fun y H4 n4 u => ?_
      have hacc4 := n4.lst hacc3
      refine ⟨acc, hacc4, by omega, (n13.trans n4).upd hD, acc ++ [y], upd_same, by simp; omega, ?_⟩
      rw [tk, List.filter_append, List.map_append]
      refine paired_app (Paired.mapP hp fun v z q => hU2 H4 acc _ v z hacc4 (hU1 _ _ v z (n3.trans n4) q)) ?_
      simp only [List.filter_cons, hk, if_true, List.filter_nil, List.map_cons, List.map_nil]
      exact .cons (hU2 H4 acc _ y _ hacc4 u) .nil
    | false =>
      rw [if_neg (by simp)]
      refine ⟨n13, acc, hacc3, by omega, ?_⟩
      rw [tk, List.filter_append, List.map_append]
      simp only [List.filter_cons, hk, Bool.false_eq_true, if_false, List.filter_nil, List.map_nil, List.append_nil]
      exact Paired.mapP hp fun v z q => hU1 _ _ v z n3 q
  · rintro H ⟨n, acc, hacc, hlen, hp⟩
    rw [show zs.take xs.length = zs by rw [hl, List.take_length]] at hp
    exact hd H acc n hacc hp
theorem persU {U : Rel γ} (h : PersT U) {D : Addr} : (∀ H H' v x, Nx ts H H' → U H v x → U H' v x) ∧ (∀ H acc acc' v x, H D = some (.lst acc) → U H v x → U (upd H D (.lst acc')) v x) :=
  ⟨fun H H' v x n q => h.nx n q, fun H acc acc' v x e q => h _ _ _ _ (TupN.lst e) q⟩
/-- items that are read from tuples alone -/
theorem lcT {D : Addr} {U : Rel γ} {Qd : Hp → Prop} (S : Src ts J H1 xs) (hR : PersT R) (hU : PersT U) (pr : Paired (R H1) xs zs) (hz : zs.length ≤ sizeLine) (hD : H1 D = none) (keep : β → Bool) (val : β → γ)
    (hs : ∀ z x H, z ∈ zs → Nx ts H1 H → R H x z → TIs ts tt ((wipe σ [j]).set j (some x)) H (keep z) ∧ (keep z = true → ∀ H', Nx ts H1 H' → R H' x z → TGives ts te ((wipe σ [j]).set j (some x)) H' (fun H v => U H v (val z))))
    (hd : ∀ H ys, Nx ts H1 H → H D = some (.lst ys) → Paired (U H) ys ((zs.filter keep).map val) → Qd H) :
    ∃ W : Nat → Nat → Hp → Prop, (∃ m, W 0 m (upd H1 D (.lst []))) ∧ ∀ i m H, W i m H →
      (J.stop i H ∧ Qd H) ∨ (J.go i H ∧ ∃ Nx : Hp → Prop, (∀ H', Nx H' → ∃ m', m' < m ∧ W (i + 1) m' H') ∧ ∀ x H', J.yld i H x H' → gName j x (wipe σ [j]) H' fun σ2 H2 => wipe σ2 [j] = wipe σ [j] ∧ tt σ2 H2 fun b H3 =>
        if b = true then te σ2 H3 fun y H4 => ∃ acc, H4 D = some (.lst acc) ∧ acc.length < sizeLine ∧ Nx (upd H4 D (.lst (acc ++ [y]))) else Nx H3) :=
  lcS S hR pr hz hD keep val (persU (D := D) hU).1 (persU (D := D) (ts := ts) hU).2 (fun z x H hzz n _ r => ⟨(hs z x H hzz n r).1, fun k H' n' _ r' => (hs z x H hzz n r).2 k H' n' r'⟩) hd
end

/-! ### defs that are called -/
/-- the module's x is a def at level k with this promise -/
def Fx (P : Program) (w : World) (K : PySem.W.Frag) (mg : Str → Option Value) (base : Heap) (k : Nat) (x : Str) (ps : List Str) (sp : Sp) : Prop :=
  ∃ f fd, mg x = some (.ref f) ∧ PySem.W.keepIn K (.ref f) = true ∧ Binds K fd ps [] ∧ (∃ oc od sl, K.lookup f = some ⟨oc, od, .func fd, sl⟩) ∧ FnOk P w K mg base L2.CX0 k f fd ps sp
theorem pe_fx {X : Cx} {k : Nat} {x : Str} {ps : List Str} {sp : Sp} {e : Expr} {es : List Expr} {t : TA} {p pos : Pos} (F : Fx X.prog X.w X.K X.mg X.base k x ps sp) (hr : Room k X.A) (hg : Gl X x) (ha : PA X (e :: es) t)
    (hdb : (x == ("__debug__" : Str)) = false := by decide) (he : starEach (e :: es) X.env = (false, eval e X.env) :: starEach es X.env := by rfl) (hpl : (backTo pos (starEach es X.env)).any (·.1) = false := by rfl) :
    PE X (.Call (.Name x p) (e :: es) [] pos) (tCall sp [] L2.E0 t) := by
  obtain ⟨f, fd, m, kp, b, _, G⟩ := F
  exact pe_call G hr hg m kp b .nil L2.pass0 ha hdb he hpl
end Tg
/-! enumerate(a tuple). -/
namespace Tg
open PySem PySem.Spec PyProof.Rows L2 GxR
open AutoSeq1 (wpAny_loadPart')

theorem meets_enum1 {v : Value} {o : Obj} {H : Heap → Prop} (B : Begins v o H) :
    Meets (Builtin.«enumerate.__new__» ⟨[.type "enumerate", v], []⟩) (fun _ R s => H s.heap ∧
      R (.ok (.ret (.ref (s.heap.push o).objs.size))) { s with heap := (s.heap.push o).push { cls := .type "enumerate", data := .fields #[.none, .bool false, .ref s.heap.objs.size, rawInt 0, .none, .none] } }) :=
  .of_wp fun prog w A R s h => by
    obtain ⟨hp, g, d, tk, os⟩ := s
    obtain ⟨h1, h⟩ := h
    have es := PySem.sub_enumerate
    have qi : ∀ {A' : Around} {E : Value → Shared → Prop} {Q : Value → Shared → Prop}, Q (.ref hp.objs.size) ⟨hp.push o, g, d, tk, os⟩ → wpAny (model prog w) A' (pyIter v) Q E ⟨hp, g, d, tk, os⟩ :=
      fun q => B.iter prog w _ _ ⟨hp, g, d, tk, os⟩ _ h1 q
    wp_walk using qi
    refine wpAny_stack_any fun st => wpAny_pure ?_
    split
    · rename_i c _ _ _ _ _
      cases (c == Value.type "enumerate")
      all_goals
        wp_walk using qi
        exact ⟨_, rfl, h⟩
    · wp_walk using qi
      exact ⟨_, rfl, h⟩

/-- enumerate of a tuple that stands still -/
def ItE (K : PySem.W.Frag) (a : Addr) : It :=
  ⟨fun i H => ∃ (xs : List V) (x : V), SqT K H a xs ∧ xs[i]? = some x, fun i H v H' => ∃ T x, v = .ref T ∧ H T = none ∧ H' = upd H T (.tup [.int (i : Nat), x]) ∧ ∀ xs, SqT K H a xs → xs[i]? = some x, fun i H => ∃ xs : List V, SqT K H a xs ∧ i = xs.length⟩
theorem turn_enumT {P : Program} {w : World} {K : PySem.W.Frag} {elts : List Expr} {kk : Nat} {tpos : Pos} (a e it : Addr) (ha : a ≠ e) (hai : a ≠ it) :
    Turn P w K (.Tuple elts kk tpos) (ItE K a) [e, it] e (fun i h => (∃ old, IsEnum h e it ((i : Nat) : Int) old) ∧ h.IsTupleIter it a i ∧ e ≠ it) where
  mem := List.mem_cons_self
  obj := fun i h st b hb => by
    obtain ⟨⟨old, he⟩, ⟨o, ho, hc, hd⟩, _⟩ := st
    rcases List.mem_cons.mp hb with z | z
    · subst z
      exact ⟨_, he, fun v q => nomatch q⟩
    · rw [List.mem_singleton.mp z]
      exact ⟨o, ho, fun v q => by rw [hd] at q; cases q⟩
  keep := fun i h h' ⟨⟨old, he⟩, hi, hne⟩ k => ⟨⟨old, k e List.mem_cons_self _ he⟩, hi.at fun o q => k it (by simp) o q, hne⟩
  item := by
    intro X hP hw hK hc i pins s σ H E I hf st hg
    subst hP hw hK
    obtain ⟨⟨old, he⟩, hit, hne⟩ := st
    obtain ⟨xs, x, hq, hx⟩ := hg
    obtain ⟨its, rv, p, hz⟩ := I.tuple hq
    have p' : s.heap.IsTuple a its.toArray := p
    obtain ⟨u, hu, ru⟩ := rv.get hx
    have hlt : i < its.toArray.size := by
      have := (List.getElem?_eq_some_iff.mp hu).1
      simpa using this
    have hel : e < s.heap.objs.size := Heap.lt_size he
    have hil : it < s.heap.objs.size := by
      obtain ⟨_, q, _⟩ := hit
      exact Heap.lt_size q
    refine wpAny_pyNext_enum_itemD (Draws.tuple (A := X.A.in1) (I.ok.hd hc) it a hai its.toArray) he ⟨hit, p'⟩ hlt hne (by simp [hne, Ne.symm ha]) fun y h' tk hy ho hst hT hsz hk => ?_
    have ey : y = u := by
      have h1 : its.toArray[i]? = some u := by simpa using hu
      rw [h1] at hy
      exact (Option.some.inj hy).symm
    subst ey
    refine ⟨_, rfl, wpAny_letOwnedTupleGo_enum (s := { s with heap := h', toks := tk + 1 }) ho fun h2 he2 sb => ?_⟩
    have hT2 : h2.get? s.heap.objs.size = some { cls := .type "tuple", data := .seq #[.int i tk, y] } := (sb.2 _ (Nat.ne_of_gt hel)).trans hT
    have new : ObjOk X.prog X.w (upd H s.heap.objs.size (.tup [.int (i : Nat), x])) h2 s.heap.objs.size (.tup [.int (i : Nat), x]) :=
      ⟨by show 2 ≤ sizeLine; decide, [.int i tk, y], .cons ⟨_, rfl⟩ (.cons ru .nil), ⟨_, hT2, rfl, _, rfl⟩⟩
    have I1 : Inv X pins σ (upd H s.heap.objs.size (.tup [.int (i : Nat), x])) { s with heap := h2, toks := tk + 1 } :=
      I.turnedNew (ch := [e, it]) (fun b ob hb q => (sb.2 b (fun z => hb (by simp [z]))).trans (hk b ob (fun z => hb (by simp [z])) (fun z => hb (by simp [z])) q)) hf (Nat.le_refl _) new
    refine ⟨.ref s.heap.objs.size, _, I1, rfl, ⟨_, x, rfl, I.hok.fresh (Nat.le_refl _), rfl, fun ys hys => by rw [I.tuple_inj hys hq]; exact hx⟩, ⟨⟨y, ?_⟩, hst.1.at fun o q => (sb.2 it (Ne.symm hne)).trans q, hne⟩, fun b hb => ?_⟩
    · have e1 : ((i + 1 : Nat) : Int) = (i : Int) + 1 := by omega
      rw [e1]
      exact he2
    · have hb' : b < s.heap.objs.size := by
        rcases List.mem_cons.mp hb with z | z
        · rw [z]; exact hel
        · rw [List.mem_singleton.mp z]; exact hil
      rw [upd_ne (Nat.ne_of_lt hb')]
      exact (hf b hb).1
  done := by
    intro X hP hw hK hc i pins s σ H E I hf st hg
    subst hP hw hK
    obtain ⟨⟨old, he⟩, hit, hne⟩ := st
    obtain ⟨xs, hq, hx⟩ := hg
    obtain ⟨its, rv, p, hz⟩ := I.tuple hq
    have p' : s.heap.IsTuple a its.toArray := p
    obtain ⟨f0, f1, f2, f3, f4, f5⟩ := hf it (by simp)
    have hl := rv.length
    subst hx
    have en : xs.length = its.toArray.size := by simpa using hl
    refine wpAny_pyNext_enum_endD (Draws.tuple (A := X.A.in1) (I.ok.hd hc) it a hai its.toArray) he (by rw [← en]; exact ⟨hit, p'⟩) fun h' eb => ⟨rfl, I.turned (t' := s.toks) (fun b o hb q => eb b o hb q) f0 f1 f3 f4 f5⟩
  self := fun A i s Q E st h => let ⟨⟨_, he⟩, _⟩ := st; wpAny_pyIter_enum he h
def iEnumT (K : PySem.W.Frag) (ta : TA) : TI := fun σ H R => ta σ H fun vs H1 => ∃ a xs, vs = [.ref a] ∧ SqT K H1 a xs ∧ R (ItE K a) H1
theorem call_enumT {prog : Program} {w : World} {A : Around} {E : Value → Shared → Prop} {s : Shared} {l : Addr} {items : Array Value} {Q : Value → Shared → Prop} (hL : s.heap.IsTuple l items)
    (h : ∀ h', IsEnum h' (s.heap.objs.size + 1) s.heap.objs.size 0 .none → h'.IsTupleIter s.heap.objs.size l 0 → h'.objs.size = s.heap.objs.size + 2 →
      (∀ b o, s.heap.get? b = some o → h'.get? b = some o) → Q (.ref (s.heap.objs.size + 1)) { s with heap := h' }) :
    wpAny (model prog w) A (call (.type "enumerate") [.ref l]) Q E s := by
  refine callType_new F.called_enumerate (by decide) (F.typeCall_enumerate_1 _) (F.newCall_enumerate_1 _) (fun obj => F.args_object_init_2 obj _) F.entry_enumerate_new (meets_enum1 (begins_tuple l items)) ⟨hL, ?_⟩
  generalize ho : ({ cls := .type "tuple_iterator", data := .fields #[.ref l, .int 0 0] } : Obj) = o
  have hfree : o.isFreed = false := by rw [← ho]; rfl
  have hz : (s.heap.push o).objs.size = s.heap.objs.size + 1 := Heap.size_push ..
  show _ ∧ _
  rw [hz]
  have he : IsEnum ((s.heap.push o).push { cls := .type "enumerate", data := .fields #[.none, .bool false, .ref s.heap.objs.size, rawInt 0, .none, .none] }) (s.heap.objs.size + 1) s.heap.objs.size 0 .none := by
    have q := Heap.get?_push_size (s.heap.push o) (o := { cls := .type "enumerate", data := .fields #[.none, .bool false, .ref s.heap.objs.size, rawInt 0, .none, .none] }) rfl
    rw [hz] at q
    exact q
  have hi : (s.heap.push o).get? s.heap.objs.size = some o := Heap.get?_push_size _ hfree
  refine ⟨⟨_, he, rfl⟩, h _ he ⟨o, Heap.get?_push_of_some _ hi, by rw [← ho], by rw [← ho]; rfl⟩ (by rw [Heap.size_push, hz]) fun b u x => Heap.get?_push_of_some _ (Heap.get?_push_of_some _ x)⟩
theorem pi_enumT {X : Cx} {e : Expr} {ta : TA} {p pos tpos : Pos} {elts : List Expr} {kk : Nat} (hg : Gl X "enumerate") (hm : X.mg "enumerate" = none) (ha : PA X [e] ta) (hs : starEach [e] X.env = [(false, eval e X.env)] := by rfl) :
    PI X (.Tuple elts kk tpos) (.Call (.Name "enumerate" p) [e] [] pos) (iEnumT X.K ta) := by
  refine ⟨fun pins s σ H R I h => ?_⟩
  refine Call_ (ld_blt I hg hm boot_enumerate (PyProof.Rows.callWith_type1 (thn (ha.run pos pins s σ H _ I h) fun us s1 ⟨vs, H1, I1, r1, q1⟩ => ?_) hs rfl))
  obtain ⟨a, xs, ex, hq, q⟩ := q1
  subst ex
  cases r1 with
  | cons r rr =>
    cases rr
    cases r
    obtain ⟨its, rv, p', hz⟩ := I1.tuple hq
    have p2 : s1.heap.IsTuple a its.toArray := p'
    have hlt : a < s1.heap.objs.size := by obtain ⟨_, q, _⟩ := p2; exact Heap.lt_size q
    refine call_enumT p2 fun h' he hit hsz hk => wpAny_pyIter_enum he ?_
    have I2 : Inv X pins σ H1 { s1 with heap := h' } := I1.kept (t' := s1.toks) hk
    refine ⟨s1.heap.objs.size + 1, [s1.heap.objs.size + 1, s1.heap.objs.size], _, _, H1, rfl, I2, turn_enumT a (s1.heap.objs.size + 1) s1.heap.objs.size (by exact Nat.ne_of_lt (Nat.lt_succ_of_lt hlt)) (by exact Nat.ne_of_lt hlt), ⟨⟨.none, he⟩, hit, Nat.succ_ne_self _⟩, fun b hb => ?_, q⟩
    have hle : s1.heap.objs.size ≤ b := by
      rcases List.mem_cons.mp hb with z | z
      · rw [z]; exact Nat.le_add_right _ _
      · rw [List.mem_singleton.mp z]; exact Nat.le_refl _
    exact I1.fpOk hle (I1.hok.fresh hle)
theorem walk_enumT {K : PySem.W.Frag} {a : Addr} {xs : List V} : Walk (ItE K a) xs.length (fun H => SqT K H a xs) (YPair (fun i => some (.int (i : Nat))) (fun i => xs[i]?)) := by
  refine ⟨fun i _ hi q => ⟨xs, xs[i], q, by simp [hi]⟩, fun _ q => ⟨xs, q, rfl⟩, fun i H v H' _ q y => ?_⟩
  obtain ⟨T, x, h1, h2, h3, h4⟩ := y
  exact ⟨T, .int (i : Nat), x, h1, h2, h3, rfl, h4 xs q⟩
end Tg
/-! sorted, min of a list of data; set(list of ints). -/
namespace Tg
open PySem PySem.Spec PySem.W PyProof.Rows L2 GxR

theorem sort_lt {α : Type} {lt : α → α → Bool} (o : STO lt) (enc : α → PyData) (he : ∀ a b, dataLt (enc a) (enc b) = lt a b) (l : List α) : l.mergeSort (dataLe false enc) = isort lt l := by
  have le : dataLe false enc = fun a b => !lt b a := by
    funext a b
    show (!dataLt (enc b) (enc a)) = _
    rw [he]
  rw [le]
  have hp : (l.mergeSort fun a b => !lt b a).Pairwise (fun x y => lt y x = false) := by
    have q := List.pairwise_mergeSort (le := fun a b => !lt b a) (fun a b c h1 h2 => by
      simp only [Bool.not_eq_true'] at h1 h2 ⊢
      exact o.ntr h1 h2) (fun a b => by
      cases e : lt b a with
      | false => simp
      | true => simp [o.asymm e]) l
    exact q.imp fun h => by simpa using h
  exact isort_eq o hp (List.mergeSort_perm _ _)
theorem each_vals {β : Type} {R : V → β → Prop} : ∀ {us : List Value} {bs : List (V × β)}, EachIs (fun v b => RelV b.1 v ∧ R b.1 b.2) us bs → Vals (bs.map (·.1)) us ∧ Paired R (bs.map (·.1)) (bs.map (·.2))
  | _, _, .nil => ⟨.nil, .nil⟩
  | _, _, .cons h t => by
    obtain ⟨a, b⟩ := each_vals t
    exact ⟨.cons h.1 a, .cons h.2 b⟩
theorem each_of {β : Type} {R : V → β → Prop} : ∀ {xs : List V} {us : List Value} {bs : List β}, Vals xs us → Paired R xs bs → EachIs (fun v (b : V × β) => RelV b.1 v ∧ R b.1 b.2) us (xs.zip bs)
  | _, _, _, .nil, .nil => .nil
  | _, _, _, .cons r rs, .cons p ps => .cons ⟨r, p⟩ (each_of rs ps)
theorem zip_snd {β : Type} {R : V → β → Prop} : ∀ {xs : List V} {bs : List β}, Paired R xs bs → (xs.zip bs).map (·.2) = bs
  | _, _, .nil => rfl
  | _, _, .cons _ t => by rw [List.zip_cons_cons, List.map_cons, zip_snd t]
section
variable {X : Cx} {β : Type}
def rSortD (R : Rel β) (lt : β → β → Bool) (enc : β → PyData) : List V → Hp → VK → Prop := fun vs H Q => ∃ (a : Addr) (xs : List V) (bs : List β), vs = [V.ref a] ∧ H a = some (.lst xs) ∧ Paired (R H) xs bs ∧ Sortable (bs.map enc) ∧
  ∀ (p : Addr) (ys : List V), H p = none → Paired (R H) ys (isort lt bs) → Q (.ref p) (upd H p (.lst ys))
theorem cr_sortD {lt : β → β → Bool} {enc : β → PyData} {R : Rel β} (o : STO lt) (he : ∀ a b, dataLt (enc a) (enc b) = lt a b) (hal : ∀ a b, alike (enc a) (enc b) = true) (hdp : ∀ b, (enc b).depth ≤ 3) (hR : ∀ H v b, R H v b → Dp X.K H v (enc b))
    (hu : X.A.units + 8 < cLine) : CallR X (.builtin "sorted") (rSortD R lt enc) := by
  intro pins s σ H vs us Q I r h
  obtain ⟨a, xs, bs, rfl, ha, hp, hk, q⟩ := h
  obtain ⟨its, rv, hl, hz⟩ := I.list (SqL.of (K := X.K) ha)
  rw [Vals.ref1 r]
  have hlen : xs.length = bs.length := Paired.length hp
  have e0 := each_of (R := R H) rv hp
  have hsnd : (xs.zip bs).map (fun b => enc b.2) = bs.map enc := by
    rw [show (xs.zip bs).map (fun b : V × β => enc b.2) = ((xs.zip bs).map (·.2)).map enc by rw [List.map_map]; rfl, zip_snd hp]
  refine sorted_data (R := fun v (b : V × β) => RelV b.1 v ∧ R H b.1 b.2) (enc := fun b => enc b.2) (show s.heap.IsList a its.toArray from hl.isList) e0 (e0.mono fun v b hb => Dp.reads I (enc b.2) b.1 v (hR H b.1 b.2 hb.2) hb.1)
    (AllAlike.of fun b b' => hal b.2 b'.2) (by rw [hsnd]; exact hk) (by simp only [List.length_zip]; omega) (fun b _ => by have := hdp b.2; omega) fun out ho eo => ?_
  obtain ⟨h1, h2⟩ := each_vals eo
  have hs : ((xs.zip bs).mergeSort (dataLe false fun b : V × β => enc b.2)).map (·.2) = isort lt bs := by
    have q := sort_maps (r := dataLe false fun b : V × β => enc b.2) (s := dataLe false enc) (fun b : V × β => b.2) (l := xs.zip bs) fun a _ b _ => rfl
    rw [q, zip_snd hp, sort_lt o enc he]
  rw [hs] at h2
  obtain ⟨ep, he'⟩ := PyProof.Rows.sortedAll_at s.heap its out.toArray
  have hl2 : (((xs.zip bs).mergeSort (dataLe false fun b : V × β => enc b.2)).map (·.1)).length ≤ sizeLine := by
    rw [List.length_map, List.length_mergeSort, List.length_zip]
    omega
  exact ⟨.ref _, upd H (s.heap.objs.size + 1) (.lst _), I.laid (t' := s.toks) (fun _ _ => PyProof.Rows.sortedAll_old) (Nat.le_succ _) ⟨hl2, out, ep, h1, he'⟩, rfl, q _ _ (I.hok.fresh (Nat.le_succ _)) h2⟩

/-- min of a list of data: the first of the least -/
def rMinD (R : Rel β) (lt : β → β → Bool) : List V → Hp → VK → Prop := fun vs H Q => ∃ (a : Addr) (xs : List V) (b : β) (bs : List β), vs = [V.ref a] ∧ H a = some (.lst xs) ∧ Paired (R H) xs (b :: bs) ∧
  ∀ v, R H v (bs.foldl (fun a y => if lt y a then y else a) b) → Q v H
theorem argBest_congr {f g : Nat → Nat → Bool} {n : Nat} (h : ∀ i j, i < n → j < n → f i j = g i j) : ∀ k, k < n → argBest f k = argBest g k ∧ argBest g k ≤ k
  | 0, _ => ⟨rfl, Nat.le_refl _⟩
  | k + 1, hk => by
    obtain ⟨i1, i2⟩ := argBest_congr h k (by omega)
    simp only [argBest]
    rw [i1, h (k + 1) (argBest g k) hk (by omega)]
    cases g (k + 1) (argBest g k) with
    | true => exact ⟨rfl, Nat.le_refl _⟩
    | false => exact ⟨rfl, Nat.le_succ_of_le i2⟩
theorem cr_minD {lt : β → β → Bool} {enc : β → PyData} {R : Rel β} (hc : X.calm = true) (he : ∀ a b, dataLt (enc a) (enc b) = lt a b) (hal : ∀ a b, alike (enc a) (enc b) = true) (hnn : ∀ b, enc b ≠ .none) (hdp : ∀ bs : List β, PyData.depthAll (bs.map enc) ≤ 3) (hR : ∀ H v b, R H v b → Dp X.K H v (enc b))
    (hu : X.A.units + 8 < cLine) : CallR X (.builtin "min") (rMinD R lt) := by
  intro pins s σ H vs us Q I r h
  obtain ⟨a, xs, b, bs, rfl, ha, hp, q⟩ := h
  obtain ⟨its, rv, hl, hz⟩ := I.list (SqL.of (K := X.K) ha)
  rw [Vals.ref1 r]
  have hh : X.A.handled = none := I.ok.hd hc
  have hlen : xs.length = bs.length + 1 := Paired.length hp
  have hL : s.heap.IsList a its.toArray := hl.isList
  have hil : its.length = bs.length + 1 := by rw [← rv.length, hlen]
  obtain ⟨as, hr⟩ := Dp.readsAll I ((b :: bs).map enc) xs its (dpAll_of (hR H) hp) rv
  have hr' : ReadsAll s.heap its.toArray.toList ((b :: bs).map enc) as := by simpa using hr
  have hA : AlikeAll ((b :: bs).map enc) := ⟨fun x hx y hy => by
    obtain ⟨p, _, rfl⟩ := List.mem_map.mp hx
    obtain ⟨q, _, rfl⟩ := List.mem_map.mp hy
    exact hal p q, fun x hx => by
    obtain ⟨p, _, rfl⟩ := List.mem_map.mp hx
    exact hnn p⟩
  refine call_min_walkH (iter_listW (A := X.A.in1) hh hL fun s₂ e W st hfp hw hk => ?_)
  refine ⟨_, _, _, _, _, _, _, s.heap, _, rfl, W, st, hfp, by simp; omega, hw, hk, cmpIn_lt (A := X.A.in1) hr' hA (by have := hdp (b :: bs); show X.A.units + 1 + _ < _; omega), fun v s' hP m => ?_⟩
  obtain ⟨h', tk, rfl, hk'⟩ := moved_old e rfl m
  have hn : its.toArray.size - 1 = bs.length := by simp; omega
  rw [hn] at hP
  have ec := (argBest_congr (n := bs.length + 1) (f := fun i j => dataLt (((b :: bs).map enc).getD i .none) (((b :: bs).map enc).getD j .none)) (g := fun i j => lt ((b :: bs).getD i b) ((b :: bs).getD j b)) (fun i j hi hj => by
    have gi : ((b :: bs).map enc).getD i .none = enc ((b :: bs).getD i b) := by
      have hi' : i < (b :: bs).length := by simpa using hi
      rw [List.getD_eq_getElem?_getD, List.getD_eq_getElem?_getD, List.getElem?_map, List.getElem?_eq_getElem hi']
      rfl
    have gj : ((b :: bs).map enc).getD j .none = enc ((b :: bs).getD j b) := by
      have hj' : j < (b :: bs).length := by simpa using hj
      rw [List.getD_eq_getElem?_getD, List.getD_eq_getElem?_getD, List.getElem?_map, List.getElem?_eq_getElem hj']
      rfl
    show dataLt (((b :: bs).map enc).getD i .none) (((b :: bs).map enc).getD j .none) = _
    rw [gi, gj, he]) bs.length (by omega)).1
  rw [ec] at hP
  obtain ⟨k1, k2⟩ := argBest_fold lt b b bs bs.length (Nat.le_refl _)
  rw [List.take_length] at k2
  generalize argBest (fun i j => lt ((b :: bs).getD i b) ((b :: bs).getD j b)) bs.length = k at hP k1 k2
  have hP2 : its[k]? = some v := by simpa using hP
  have hkx : k < xs.length := by omega
  obtain ⟨u, hu1, hu2⟩ := rv.get (List.getElem?_eq_getElem hkx)
  rw [hP2] at hu1
  cases hu1
  obtain ⟨z, hz1, hz2⟩ := paired_get hp (List.getElem?_eq_getElem hkx)
  have ez : z = bs.foldl (fun a y => if lt y a then y else a) b := by
    rw [← k2, List.getD_eq_getElem?_getD, hz1]
    rfl
  rw [ez] at hz2
  exact ⟨xs[k], H, I.kept hk', hu2, q _ hz2⟩
end
end Tg
/-! set(a list of ints). -/
namespace Tg
open PySem PySem.Spec PySem.W PyProof.Rows L2 GxR

abbrev setO0 (w : World) : Obj := { cls := .type "set", dict := none, data := .set #[] 0 (.fresh 0 0 (!w.params.followText "set-order")) }
abbrev lit0 (l : Addr) : Obj := { cls := .type "list_iterator", data := .fields #[.ref l, .int 0 0] }
section
variable {P : Program} {w : World} {A : Around} {E : Value → Shared → Prop} {s : Shared}
theorem set_fill {A : Around} {l : Addr} {h0 : Heap} {s0 : Shared} {items : Array Value} (ns : List Int) {R : Result → Shared → Prop} (hh : A.handled = none) (hl : h0.IsList l items) (hit : IntsAre items.toList ns) (hb : ns.length + 1 < scanBound)
    (hR : ∀ (s' : Shared) (c : Nat), Moved [h0.objs.size, (h0.push (setO0 w)).objs.size] (fun a b => b = a) { s0 with heap := (h0.push (setO0 w)).push (lit0 l) } s' → c ≤ ns.length → SetR w s'.heap h0.objs.size (fun j => decide (j ∈ ns)) c → R (.ok (.ret .none)) s') :
    codeAny (model P w) A (.builtin "set.update.loop" ⟨[.ref h0.objs.size, .ref (h0.push (setO0 w)).objs.size], []⟩) R { s0 with heap := (h0.push (setO0 w)).push (lit0 l) } := by
  have hsz : items.size = ns.length := by
    have q := IntsAre.length hit
    rwa [Array.length_toList] at q
  have hlt : l < h0.objs.size := by
    obtain ⟨_, e, _⟩ := hl
    exact Heap.lt_size e
  have z1 : (h0.push (setO0 w)).objs.size = h0.objs.size + 1 := Heap.size_push ..
  have n1 : l ≠ (h0.push (setO0 w)).objs.size := by
    rw [z1]
    exact Nat.ne_of_lt (Nat.lt_succ_of_lt hlt)
  have n2 : h0.objs.size ∉ [(h0.push (setO0 w)).objs.size, l] := by
    rw [z1]
    intro q
    rcases List.mem_cons.mp q with q | q
    · exact absurd q (Nat.ne_of_lt (Nat.lt_succ_self _))
    · exact absurd (List.mem_singleton.mp q) (Nat.ne_of_gt hlt)
  refine set_update_ints ((Walks.list (A := A.in1) hh _ l n1 items).toS) h0.objs.size n2 ns hsz hb (fun i v hv => ?_) items.size 0 _ rfl (Nat.zero_le _) ⟨⟨_, Heap.get?_push_size _ rfl, rfl, rfl⟩, (hl.push _).push _⟩ ⟨0, Nat.le_refl 0, setR_new_at ?_⟩ fun s' c m hc hS => ?_
  · have hi : i < ns.length := by
      rw [← hsz]
      exact (Array.getElem?_eq_some_iff.mp hv).1
    obtain ⟨t, e⟩ := PyProof.Rows.IntsAre.int_at hit i v (by rw [Array.getElem?_toList]; exact hv)
    refine ⟨ns[i], t, List.getElem?_eq_getElem hi, ?_⟩
    rw [e, List.getD_eq_getElem?_getD, List.getElem?_eq_getElem hi]
    rfl
  · exact Heap.get?_push_of_some _ (Heap.get?_push_size _ rfl)
  · exact hR s' c m (by rw [← hsz]; exact hc) hS

theorem set_init_code {l : Addr} {items : Array Value} {ns : List Int} {R : Value → Shared → Prop} (hh : A.handled = none) (hl : s.heap.IsList l items) (hit : IntsAre items.toList ns) (hb : ns.length + 1 < scanBound)
    (hR : ∀ (h' : Heap) (tk c : Nat), SetR w h' s.heap.objs.size (fun j => decide (j ∈ ns)) c → c ≤ ns.length → (∀ b o, s.heap.get? b = some o → h'.get? b = some o) → R .none { s with heap := h', toks := tk }) :
    codeAny (model P w) A (.call (.builtin "set.__init__") ⟨[.ref s.heap.objs.size, .ref l], []⟩) (wants R E) { s with heap := s.heap.push (setO0 w) } := by
  have hT : Shared.TypeIs { s with heap := s.heap.push (setO0 w) } (.ref s.heap.objs.size) "set" := ⟨_, Heap.get?_push_size _ rfl, rfl⟩
  refine codeAny_call_builtin (R := wants R E) F.called_set.init.plain F.entry_set_init (check_set_init_1 hT ?_)
  obtain ⟨ol, hol, hcl, nl, hdl⟩ := id hl
  obtain ⟨ocls, odict, odata, oslots⟩ := ol
  simp only at hcl hdl
  subst hcl hdl
  have hol' : (s.heap.push (setO0 w)).get? l = some { cls := .type "list", dict := odict, data := .seq items nl, slots := oslots } := Heap.get?_push_of_some _ hol
  have k1 := F.sub_list_set
  have k2 := F.sub_list_frozenset
  have k3 : (Value.type "list" == Value.type "dict") = false := by decide
  have hl1 : (s.heap.push (setO0 w)).IsList l items := hl.push _
  unfold Builtin.«set.__init__» noKeywords Builtin.Frozenset.updateFrom
  generalize hPI : pyIter = PI
  wp_walk
  subst hPI
  refine wpAny_pyIter_list hl1 ?_
  refine wpAny_bind (wpAny_runValue ?_)
  refine set_fill (s0 := s) ns hh hl hit hb fun s' c m hc hS => ?_
  obtain ⟨h', g2, d', tk', os'⟩ := s'
  have eg : g2 = s.gens := m.gens
  have ed : d' = s.drawn := m.drawn
  have eo : os' = s.os := m.os
  subst eg ed eo
  show wpAny _ _ _ _ _ _
  refine wpAny_pure ?_
  show wpAny _ _ (ret Value.none) _ _ _
  refine wpAny_pure (hR h' tk' c hS hc fun b o e => ?_)
  have b0 : b < s.heap.objs.size := Heap.lt_size e
  refine m.heap b o (fun q => ?_) (Heap.get?_push_of_some _ (Heap.get?_push_of_some _ e))
  rcases List.mem_cons.mp q with q | q
  · exact absurd q (Nat.ne_of_lt b0)
  · rw [List.mem_singleton.mp q, Heap.size_push] at b0
    exact absurd b0 (Nat.not_lt.mpr (Nat.le_succ _))

theorem call_set_lstI {l : Addr} {items : Array Value} {ns : List Int} {Q : Value → Shared → Prop} (hh : A.handled = none) (hl : s.heap.IsList l items) (hit : IntsAre items.toList ns) (hb : ns.length + 1 < scanBound)
    (h : ∀ (h' : Heap) (tk c : Nat), SetR w h' s.heap.objs.size (fun j => decide (j ∈ ns)) c → c ≤ ns.length → (∀ b o, s.heap.get? b = some o → h'.get? b = some o) → Q (.ref s.heap.objs.size) { s with heap := h', toks := tk }) :
    wpAny (model P w) A (call (.type "set") [.ref l]) Q E s := by
  obtain ⟨c, tl, hmro⟩ := F.called_set.mro
  have m1 := F.called_set.made
  have m2 := F.called_set.sub
  refine wpAny_call (codeAny_of_tree ?_)
  show wpAny _ _ (callAny (.type "set") _) _ _ _
  refine wpAny_pure ⟨Code.quiet_builtin _ (by decide +kernel), codeAny_builtin F.entry_type_call ?_⟩
  rw [Around.under_plain (weight_type_call_type "set" [.ref l] []) rfl]
  have f1 := F.called_set.notType
  have f2 := F.called_set.canCreate
  have f3 := F.typeCall_set_1 (.ref l)
  repeat (any_goals (first | assumption | wp_step))
  refine codeAny_mono (code_set_led1 (.ref l) (E := E) (Q₁ := fun obj s₁ => obj = .ref s.heap.objs.size ∧ s₁ = { s with heap := s.heap.push (setO0 w) }) ⟨rfl, rfl⟩) fun r s₁ hr => ?_
  cases r with
  | error e => exact hr
  | ok fl =>
    cases fl with
    | ret obj =>
      obtain ⟨rfl, rfl⟩ := hr
      have i1 := F.called_set.init.lookup
      have i2 := F.called_set.init.bind (.ref s.heap.objs.size)
      have hT : Shared.TypeIs { s with heap := s.heap.push (setO0 w) } (.ref s.heap.objs.size) "set" := ⟨_, Heap.get?_push_size _ rfl, rfl⟩
      repeat (any_goals (first | assumption | wp_step))
      refine codeAny_mono (set_init_code (E := E) (R := fun r s₂ => r = .none ∧ ∃ h' tk c, s₂ = { s with heap := h', toks := tk } ∧ SetR w h' s.heap.objs.size (fun j => decide (j ∈ ns)) c ∧ c ≤ ns.length ∧ (∀ b o, s.heap.get? b = some o → h'.get? b = some o)) (by simpa using hh) hl hit hb
        fun h' tk c a1 a2 a3 => ⟨rfl, h', tk, c, rfl, a1, a2, a3⟩) fun r₂ s₂ hr₂ => ?_
      cases r₂ with
      | error e => exact hr₂
      | ok fl₂ =>
        cases fl₂ with
        | ret r =>
          obtain ⟨rfl, h', tk, c', rfl, a1, a2, a3⟩ := hr₂
          repeat (any_goals (first | assumption | wp_step))
          exact h _ _ _ a1 a2 a3
        | _ => exact hr₂.elim
    | _ => exact hr.elim
end
section
variable {X : Cx}
def rSetL (K : PySem.W.Frag) (w : World) : List V → Hp → VK → Prop := fun vs H Q => ∃ (a : Addr) (ns : List Int), vs = [V.ref a] ∧ SqL K H a (ns.map V.int) ∧ ns.length < 4000 ∧
  ∀ (p : Addr) (c : Nat), H p = none → c ≤ ns.length → Q (.ref p) (upd H p (SetO w p (fun j => decide (j ∈ ns)) c))
theorem cr_setL (hc : X.calm = true) : CallR X (.type "set") (rSetL X.K X.w) := by
  intro pins s σ H vs us Q I r h
  obtain ⟨a, ns, rfl, ha, hn, q⟩ := h
  obtain ⟨its, rv, hl, _⟩ := I.list ha
  rw [Vals.ref1 r]
  refine call_set_lstI (ns := ns) (I.ok.hd hc) (show s.heap.IsList a its.toArray from hl.isList) (by simpa using intsAre_of rv) (by show _ < 4096; omega) fun h' tk c R hcn hk => ?_
  exact ⟨.ref _, upd H s.heap.objs.size (SetO X.w s.heap.objs.size (fun j => decide (j ∈ ns)) c), I.laid (t' := tk) hk (Nat.le_refl _) (setO_new R), rfl, q _ c (I.hok.fresh (Nat.le_refl _)) hcn⟩
end
end Tg
/-! the program's defs as data, what is known of them. -/
namespace Tg
open PySem PySem.Spec PyProof.Rows L2 GxR

def top (i : Nat) : Stmt := PySem.Challenge.pw_groupdeeds_k25_whole_told_pairs.main.body.getD i (.Pass ⟨0, 0, 0, 0⟩)
def dd (x : Str) (i : Nat) : He.DefD := ⟨(x, none), x, x, defArgs (top i), defBody (top i), defScope (top i), [], []⟩
def fn : List He.DefD := [dd "is_in" 7, dd "need_size" 8, dd "is_lot" 9, dd "is_grouping" 10, dd "size_of" 11, dd "need_grouping" 12, dd "all_groupings" 13, dd "is_step" 14, dd "pairs_of" 16, dd "need_two" 18, dd "greatest_shares" 19, dd "steps_between" 21, dd "distance" 22,
  dd "are_pairs" 24, dd "need_told" 25, dd "is_together" 26, dd "fitting_of" 27, dd "need_sized" 28, dd "fitting_groupings" 29, dd "fitting_count" 30, dd "sure_pairs" 31, dd "least_lots" 32, dd "nearest_fitting" 33,
  dd "_law_taken" 35, dd "_law_pick" 36, dd "_law_alike" 37, dd "_law_lots" 38, dd "_law_labels" 39, dd "_law_steps" 43, dd "_law_groupings" 45, dd "law" 46]
/-- the built-in names that are called -/
def frees : List Str := ["isinstance", "int", "bool", "tuple", "list", "str", "set", "all", "any", "len", "range", "sorted", "sum", "max", "min", "enumerate"]
/-- the defs whose code keeps a table -/
def tabbed : List Str := ["is_lot", "is_grouping", "size_of", "are_pairs", "need_told", "is_together", "fitting_of", "sure_pairs"]
def cdA (K : PySem.W.Frag) (x : Str) : Addr := He.codeOf K (x, none)
def tbA (K : PySem.W.Frag) (x : Str) : Addr := He.tabOf K (cdA K x)
def TBs (K : PySem.W.Frag) : List Addr := tabbed.map (tbA K)
structure Pg (K : PySem.W.Frag) (mg : Str → Option Value) (base : Heap) : Prop where
  fun_ : ∀ d ∈ fn, ∃ fd, FunD K d.name d.qual d.params d.body d.scope [] [] (He.fAd K d.at_) fd ∧ mg d.name = some (.ref (He.fAd K d.at_))
  free : ∀ x ∈ frees, mg x = none
  most : ∃ t, mg "MOST_PEOPLE" = some (.int 6 t)
  tab : ∀ x ∈ tabbed, TabB base mg (cdA K x) (tbA K x)
theorem tb_mem {K : PySem.W.Frag} {x : Str} (h : x ∈ tabbed) : tbA K x ∈ TBs K := List.mem_map_of_mem h
abbrev cxD (P : Program) (w : World) (K : PySem.W.Frag) (mg : Str → Option Value) (base : Heap) (N : List Str) (x : Str) (i : Nat) (A : Around) (outer : List Env) (s : Shared) (H : Hp) (E : XK) : Cx :=
  (cxOf L2.CX0 P w K mg base N x (defScope (top i)) (He.fAd K (x, none)) (.ref (cdA K x)) A outer s H E).nox
section
variable {P : Program} {w : World} {K : PySem.W.Frag} {mg : Str → Option Value} {base : Heap}
theorem Pg.ok (T : Pg K mg base) (x : Str) (i : Nat) (hd : dd x i ∈ fn) {N ps : List Str} {k : Nat} {sp : Sp} (S : FnScope N ps (defScope (top i)))
    (hb : ∀ (kV doc pm : Value) (an : Option Addr) (cdv ct : Value) (us : List Value), us.length = ps.length → bindArgs (PySem.W.fnOf x x (defArgs (top i)) (defBody (top i)) (defScope (top i)) .none kV doc pm an cdv ct) ⟨us, []⟩ = pure (ps.zip us))
    (len : ∀ vs H Q E, sp vs H Q E → vs.length = ps.length)
    (hbody : ∀ (A : Around) (outer : List Env) (s : Shared) (H : Hp) (vs : List V) (Q : VK) (E : XK), Room k (cxD P w K mg base N x i A outer s H E).A → sp vs H Q E →
      ∃ t, PSs (cxD P w K mg base N x i A outer s H E) (defBody (top i)) t ∧ t { nx := fun _ H' => Q .non H', rt := Q } (start N vs) H) :
    Fx P w K mg base (k + 1) x ps sp := by
  obtain ⟨fd, F, m⟩ := T.fun_ _ hd
  have F' : FunD K x x (defArgs (top i)) (defBody (top i)) (defScope (top i)) [] [] (He.fAd K (x, none)) fd := F
  refine ⟨_, fd, m, F'.kp, F'.bindsN hb, ?_⟩
  obtain ⟨oc, od, dV, kV, doc, pm, an, cdv, ct, osl, rfl, lk, hcd, _, _⟩ := F'.ex
  refine ⟨⟨_, _, _, lk⟩, ?_⟩
  obtain ⟨c, rfl⟩ := He.codeIn_ref hcd
  have ec : cdA K x = c := He.codeOf_eq lk rfl
  refine fn_of lk hcd S len fun A outer s H vs Q E hr h => ?_
  rw [← ec] at hr ⊢
  obtain ⟨t, h1, h2⟩ := hbody A outer s H vs Q E hr h
  exact ⟨t, PSs.nox h1, h2⟩
theorem Pg.fr (T : Pg K mg base) (x : Str) (h : x ∈ frees := by decide +kernel) : mg x = none := T.free x h
theorem Pg.tb (T : Pg K mg base) (x : Str) (h : x ∈ tabbed := by decide +kernel) : TabB base mg (cdA K x) (tbA K x) := T.tab x h
end
def genC (N : List Str) (sc scope : Scope) (own : List (Str × Nat)) : Bool := blkC N sc scope own && (!scope.isCoroutine && (scope.names.all (fun y => decide (y.2 ≠ .cell)) && decide (scope.names.lookup (".0" : Str) = some NameKind.local)))
theorem genOk_by {N : List Str} {sc scope : Scope} {own : List (Str × Nat)} (h : genC N sc scope own = true) : GenOk N sc scope own := by
  unfold genC at h
  simp only [Bool.and_eq_true, List.all_eq_true, decide_eq_true_eq, Bool.not_eq_true'] at h
  exact ⟨blkOk_by h.1, h.2.1, h.2.2.1, h.2.2.2⟩
end Tg
/-! readings that end in a bundle: all, any, list comprehensions, for. -/
namespace Tg
open PySem PySem.Spec PyProof.Rows L2 GxR

section
variable {X : Cx}
theorem PE.imp {e : Expr} {t t' : TE} (h : PE X e t) (i : ∀ σ H Q, t' σ H Q → t σ H Q) : PE X e t' := ⟨fun pins s σ H Q I q => h.run pins s σ H Q I (i σ H Q q)⟩
theorem PS.imp {e : Stmt} {t t' : TS} (h : PS X e t) (i : ∀ D σ H, t' D σ H → t D σ H) : PS X e t' := ⟨fun pins s σ H D I q => h.run pins s σ H D I (i D σ H q)⟩
/-- a walk's making, read with a weaker end -/
def wiS (wi : TI) : TI := fun σ H R => ∃ k : It → Hp → Prop, wi σ H k ∧ ∀ J H1, k J H1 → R J H1
theorem PI.star {tg iter : Expr} {wi : TI} (h : PI X tg iter wi) : PI X tg iter (wiS wi) := ⟨fun pins s σ H R I ⟨k, q, i⟩ => by
  refine thn (h.run pins s σ H k I q) fun v s1 a => thn a fun itv s2 b => ?_
  obtain ⟨it, fp, tn, J, H', e1, e2, e3, e4, e5, e6⟩ := b
  exact ⟨it, fp, tn, J, H', e1, e2, e3, e4, e5, i J H' e6⟩⟩
end
/-! ### all, any -/
def tAllS (ts : List Addr) (P : Addr) (wi : TI) (te : TE) (j : Nat) : TE := fun σ H Q => wi σ H fun J H1 => ∃ (β : Type) (R : Rel β) (xs : List V) (zs : List β) (f : β → Bool), Src ts J H1 xs ∧ PersT R ∧ Paired (R H1) xs zs ∧ TabG H1 P ∧
  (∀ z x H', z ∈ zs → Nx ts H1 H' → R H' x z → TGives ts te ((wipe σ [j]).set j (some x)) H' (fun _ v => v = .bl (f z))) ∧ ∀ H', Nx ts H1 H' → Q (.bl (zs.all f)) H'
def tAnyS (ts : List Addr) (P : Addr) (wi : TI) (te : TE) (j : Nat) : TE := fun σ H Q => wi σ H fun J H1 => ∃ (β : Type) (R : Rel β) (xs : List V) (zs : List β) (f : β → Bool), Src ts J H1 xs ∧ PersT R ∧ Paired (R H1) xs zs ∧ TabG H1 P ∧
  (∀ z x H', z ∈ zs → Nx ts H1 H' → R H' x z → TGives ts te ((wipe σ [j]).set j (some x)) H' (fun _ v => v = .bl (f z))) ∧ ∀ H', Nx ts H1 H' → Q (.bl (zs.any f)) H'
section
variable {X : Cx}
theorem pe_all (ts : List Addr) {c P : Addr} {elt tg iter : Expr} {scope : Scope} {x : Str} {j : Nat} {p gpos pos : Pos} {wi : TI} {te : TE} (k : Nat)
    (hc : X.calm = true) (hN : X.N.Nodup) (hr : Room (k + 2) X.A) (hg : Gl X "all") (hm : X.mg "all" = none) (TB : TabB X.base X.mg c P) (hcode : X.env.code = .ref c) (S : GenOk X.N X.env.scope scope [(x, j)]) (hi : PI X tg iter wi)
    (hpg : ∀ (s : Shared) (H : Hp) (C : Addr) (cl : List (Str × Addr)) (code : Value) (fp : List Addr) (pn : List (Addr × Obj)) (A : Around), PG (gcx X A s H (genEnv scope cl C code builtinsNs X.env) fp pn) tg (gName j))
    (hpe : ∀ (s : Shared) (H : Hp) (C : Addr) (cl : List (Str × Addr)) (code : Value) (fp : List Addr) (pn : List (Addr × Obj)) (A : Around), Room k A → PE (gcx X A s H (genEnv scope cl C code builtinsNs X.env) fp pn) elt te)
    (hs : ∀ v, genFold iter X.env v = pure v := by intro _; rfl)
    (he : starEach [.GeneratorExp elt [⟨tg, iter, [], 0⟩] scope gpos] X.env = (false, eval (.GeneratorExp elt [⟨tg, iter, [], 0⟩] scope gpos) X.env) :: starEach [] X.env := by rfl) :
    PE X (.Call (.Name "all" p) [.GeneratorExp elt [⟨tg, iter, [], 0⟩] scope gpos] [] pos) (tAllS ts P wi te j) :=
  PE.imp (pe_allG (own := [(x, j)]) hc hN hr hg hm TB hcode S (PI.star hi) hpg hpe hs he) fun σ H Q q => ⟨_, q, fun J H1 ⟨β, R, xs, zs, f, S, hR, pr, t, st, e⟩ => allS S hR pr t f st e⟩
theorem pe_any (ts : List Addr) {c P : Addr} {elt tg iter : Expr} {scope : Scope} {x : Str} {j : Nat} {p gpos pos : Pos} {wi : TI} {te : TE} (k : Nat)
    (hc : X.calm = true) (hN : X.N.Nodup) (hr : Room (k + 2) X.A) (hg : Gl X "any") (hm : X.mg "any" = none) (TB : TabB X.base X.mg c P) (hcode : X.env.code = .ref c) (S : GenOk X.N X.env.scope scope [(x, j)]) (hi : PI X tg iter wi)
    (hpg : ∀ (s : Shared) (H : Hp) (C : Addr) (cl : List (Str × Addr)) (code : Value) (fp : List Addr) (pn : List (Addr × Obj)) (A : Around), PG (gcx X A s H (genEnv scope cl C code builtinsNs X.env) fp pn) tg (gName j))
    (hpe : ∀ (s : Shared) (H : Hp) (C : Addr) (cl : List (Str × Addr)) (code : Value) (fp : List Addr) (pn : List (Addr × Obj)) (A : Around), Room k A → PE (gcx X A s H (genEnv scope cl C code builtinsNs X.env) fp pn) elt te)
    (hs : ∀ v, genFold iter X.env v = pure v := by intro _; rfl)
    (he : starEach [.GeneratorExp elt [⟨tg, iter, [], 0⟩] scope gpos] X.env = (false, eval (.GeneratorExp elt [⟨tg, iter, [], 0⟩] scope gpos) X.env) :: starEach [] X.env := by rfl) :
    PE X (.Call (.Name "any" p) [.GeneratorExp elt [⟨tg, iter, [], 0⟩] scope gpos] [] pos) (tAnyS ts P wi te j) :=
  PE.imp (pe_anyG (own := [(x, j)]) hc hN hr hg hm TB hcode S (PI.star hi) hpg hpe hs he) fun σ H Q q => ⟨_, q, fun J H1 ⟨β, R, xs, zs, f, S, hR, pr, t, st, e⟩ => anyS S hR pr t f st e⟩
end
/-! ### list comprehensions -/
def tLcS (ts : List Addr) (wi : TI) (tt : TT) (te : TE) (j : Nat) : TE := fun σ H Q => wi σ H fun J H1 => ∃ (β γ : Type) (R : Rel β) (U : Addr → Rel γ) (xs : List V) (zs : List β) (keep : β → Bool) (val : β → γ), Src ts J H1 xs ∧ PersT R ∧ Paired (R H1) xs zs ∧ zs.length ≤ sizeLine ∧
  (∀ D, H1 D = none → (∀ H H' v x, Nx ts H H' → U D H v x → U D H' v x) ∧ (∀ H acc acc' v x, H D = some (.lst acc) → U D H v x → U D (upd H D (.lst acc')) v x) ∧
    ∀ z x H, z ∈ zs → Nx ts H1 H → H D ≠ none → R H x z → TIs ts tt ((wipe σ [j]).set j (some x)) H (keep z) ∧ (keep z = true → ∀ H', Nx ts H1 H' → H' D ≠ none → R H' x z → TGives ts te ((wipe σ [j]).set j (some x)) H' (fun H v => U D H v (val z)))) ∧
  ∀ D ys H', H1 D = none → Nx ts H1 H' → H' D = some (.lst ys) → Paired (U D H') ys ((zs.filter keep).map val) → Q (.ref D) H'
theorem tLcS_imp {ts : List Addr} {wi : TI} {tt : TT} {te : TE} {j : Nat} (σ : L2.St) (H : Hp) (Q : VK) (q : tLcS ts wi tt te j σ H Q) : tLc (wiS wi) (gName j) tt te [j] σ H Q :=
  ⟨_, q, fun J H1 ⟨β, γ, R, U, xs, zs, keep, val, S, hR, pr, hz, st, e⟩ => fun D hD => lcS S hR pr hz hD keep val (st D hD).1 (st D hD).2.1 (st D hD).2.2 fun H ys n hy p => e D ys H hD n hy p⟩
/-- the same, the items' relation read off tuples alone -/
def tLcU (ts : List Addr) (wi : TI) (tt : TT) (te : TE) (j : Nat) : TE := fun σ H Q => wi σ H fun J H1 => ∃ (β γ : Type) (R : Rel β) (U : Rel γ) (xs : List V) (zs : List β) (keep : β → Bool) (val : β → γ), Src ts J H1 xs ∧ PersT R ∧ Paired (R H1) xs zs ∧ zs.length ≤ sizeLine ∧ PersT U ∧
  (∀ z x H, z ∈ zs → Nx ts H1 H → R H x z → TIs ts tt ((wipe σ [j]).set j (some x)) H (keep z) ∧ (keep z = true → ∀ H', Nx ts H1 H' → R H' x z → TGives ts te ((wipe σ [j]).set j (some x)) H' (fun H v => U H v (val z)))) ∧
  ∀ D ys H', H1 D = none → Nx ts H1 H' → H' D = some (.lst ys) → Paired (U H') ys ((zs.filter keep).map val) → Q (.ref D) H'
theorem tLcU_imp {ts : List Addr} {wi : TI} {tt : TT} {te : TE} {j : Nat} (σ : L2.St) (H : Hp) (Q : VK) (q : tLcU ts wi tt te j σ H Q) : tLc (wiS wi) (gName j) tt te [j] σ H Q :=
  ⟨_, q, fun J H1 ⟨β, γ, R, U, xs, zs, keep, val, S, hR, pr, hz, hU, st, e⟩ => fun D hD => lcT S hR hU pr hz hD keep val st fun H ys n hy p => e D ys H hD n hy p⟩
section
variable {X : Cx} {elt tg iter : Expr} {ifs : List Expr} {scope : Scope} {pos : Pos} {wi : TI} {tt : TT} {te : TE} {j : Nat} {x : Str}
theorem pe_lcS (ts : List Addr) (hc : X.calm = true) (hN : X.N.Nodup) (hi : PI X tg iter wi) (ok : BlkOk X.N X.env.scope scope [(x, j)])
    (hg : ∀ (s : Shared) (H : Hp) (C : Addr) (cl : List (Str × Addr)) (fp : List Addr), PG (X.blk s H scope (compEnvC scope cl C X.env) fp) tg (gName j)) (ht : ∀ (s : Shared) (H : Hp) (C : Addr) (cl : List (Str × Addr)) (fp : List Addr), PTs (X.blk s H scope (compEnvC scope cl C X.env) fp) ifs tt)
    (he : ∀ (s : Shared) (H : Hp) (C : Addr) (cl : List (Str × Addr)) (fp : List Addr), PE (X.blk s H scope (compEnvC scope cl C X.env) fp) elt te) (hs : ∀ x, foldedSetIterable iter X.env x = pure x := by intro _; rfl) :
    PE X (.ListComp elt [⟨tg, iter, ifs, 0⟩] scope pos) (tLcS ts wi tt te j) := PE.imp (pe_lc (own := [(x, j)]) hc hN (PI.star hi) ok hg ht he hs) tLcS_imp
theorem pe_lcU (ts : List Addr) (hc : X.calm = true) (hN : X.N.Nodup) (hi : PI X tg iter wi) (ok : BlkOk X.N X.env.scope scope [(x, j)])
    (hg : ∀ (s : Shared) (H : Hp) (C : Addr) (cl : List (Str × Addr)) (fp : List Addr), PG (X.blk s H scope (compEnvC scope cl C X.env) fp) tg (gName j)) (ht : ∀ (s : Shared) (H : Hp) (C : Addr) (cl : List (Str × Addr)) (fp : List Addr), PTs (X.blk s H scope (compEnvC scope cl C X.env) fp) ifs tt)
    (he : ∀ (s : Shared) (H : Hp) (C : Addr) (cl : List (Str × Addr)) (fp : List Addr), PE (X.blk s H scope (compEnvC scope cl C X.env) fp) elt te) (hs : ∀ x, foldedSetIterable iter X.env x = pure x := by intro _; rfl) :
    PE X (.ListComp elt [⟨tg, iter, ifs, 0⟩] scope pos) (tLcU ts wi tt te j) := PE.imp (pe_lc (own := [(x, j)]) hc hN (PI.star hi) ok hg ht he hs) tLcU_imp
theorem ps_lcU {i : Nat} {y : Str} {py spos : Pos} (ts : List Addr) (hc : X.calm = true) (hN : X.N.Nodup) (hy : X.N[i]? = some y) (hyl : X.env.scope.names.lookup y = some .local)
    (hsw : swapsWith (.ListComp elt [⟨tg, iter, ifs, 0⟩] scope pos) (some (.Name y py)) spos.line X.env = pure true) (hi : PI X tg iter wi) (ok : BlkOk X.N X.env.scope scope [(x, j)])
    (hg : ∀ (s : Shared) (H : Hp) (C : Addr) (cl : List (Str × Addr)) (fp : List Addr), PG (X.blk s H scope (compEnvC scope cl C X.env) fp) tg (gName j)) (ht : ∀ (s : Shared) (H : Hp) (C : Addr) (cl : List (Str × Addr)) (fp : List Addr), PTs (X.blk s H scope (compEnvC scope cl C X.env) fp) ifs tt)
    (he : ∀ (s : Shared) (H : Hp) (C : Addr) (cl : List (Str × Addr)) (fp : List Addr), PE (X.blk s H scope (compEnvC scope cl C X.env) fp) elt te) (hs : ∀ x, foldedSetIterable iter X.env x = pure x := by intro _; rfl) :
    PS X (.Assign [.Name y py] (.ListComp elt [⟨tg, iter, ifs, 0⟩] scope pos) spos) (tAsg (tLcU ts wi tt te j) (gName i)) := PS.imp (ps_setLc (own := [(x, j)]) hc hN hy hyl hsw (PI.star hi) ok hg ht he hs) fun D σ H q => tLcU_imp σ H _ q
theorem ps_lcS {i : Nat} {y : Str} {py spos : Pos} (ts : List Addr) (hc : X.calm = true) (hN : X.N.Nodup) (hy : X.N[i]? = some y) (hyl : X.env.scope.names.lookup y = some .local)
    (hsw : swapsWith (.ListComp elt [⟨tg, iter, ifs, 0⟩] scope pos) (some (.Name y py)) spos.line X.env = pure true) (hi : PI X tg iter wi) (ok : BlkOk X.N X.env.scope scope [(x, j)])
    (hg : ∀ (s : Shared) (H : Hp) (C : Addr) (cl : List (Str × Addr)) (fp : List Addr), PG (X.blk s H scope (compEnvC scope cl C X.env) fp) tg (gName j)) (ht : ∀ (s : Shared) (H : Hp) (C : Addr) (cl : List (Str × Addr)) (fp : List Addr), PTs (X.blk s H scope (compEnvC scope cl C X.env) fp) ifs tt)
    (he : ∀ (s : Shared) (H : Hp) (C : Addr) (cl : List (Str × Addr)) (fp : List Addr), PE (X.blk s H scope (compEnvC scope cl C X.env) fp) elt te) (hs : ∀ x, foldedSetIterable iter X.env x = pure x := by intro _; rfl) :
    PS X (.Assign [.Name y py] (.ListComp elt [⟨tg, iter, ifs, 0⟩] scope pos) spos) (tAsg (tLcS ts wi tt te j) (gName i)) := PS.imp (ps_setLc (own := [(x, j)]) hc hN hy hyl hsw (PI.star hi) ok hg ht he hs) fun D σ H q => tLcS_imp σ H _ q
end
/-! ### for -/
def tForS (wi : TI) (g : TG) (tb : TS) : TS := fun D σ H => wi σ H fun J H1 => ∃ (n : Nat) (G : Hp → Prop) (Y : Nat → Hp → V → Hp → Prop) (Pv : Nat → L2.St → Hp → Prop), Walk J n G Y ∧ Pv 0 σ H1 ∧ (∀ i σ H, i ≤ n → Pv i σ H → G H) ∧
  (∀ i x σ H H', i < n → Pv i σ H → Y i H x H' → g x σ H' fun σ2 H2 => tb { D with nx := Pv (i + 1), ct := Pv (i + 1), bk := D.nx } σ2 H2) ∧ ∀ σ H, Pv n σ H → D.nx σ H
theorem ps_forS {X : Cx} {tg iter : Expr} {body : List Stmt} {wi : TI} {g : TG} {tb : TS} {pos : Pos} (hp : PassesOwn (model X.prog X.w) X.A X.env X.xe) (hc : X.calm = true) (hi : PI X tg iter wi) (hg : PG X tg g) (hb : PSs X body tb)
    (hs : ∀ x, foldedSetIterable iter X.env x = pure x := by intro _; rfl) : PS X (.For tg iter body [] pos) (tForS wi g tb) :=
  PS.imp (ps_for hp hc (PI.star hi) hg hb hs) fun D σ H q => ⟨_, q, fun J H1 ⟨n, G, Y, Pv, w, h0, hG, st, e⟩ => for_it w Pv h0 hG st e⟩
/-! ### rules with K as it is called outside -/
section
variable {X : Cx} {K : PySem.W.Frag}
theorem k_ixT (e : X.K = K := by rfl) : IxR X (rIxT K) := e ▸ ix_tup
theorem k_ixL (e : X.K = K := by rfl) : IxR X (rIxL K) := e ▸ ix_list
theorem k_isi (e : X.K = K := by rfl) : CallR X (.builtin "isinstance") (rIsi K) := e ▸ call_isi
def rLenK (K : PySem.W.Frag) : List V → Hp → VK → Prop := fun xs H Q => ∃ p ys, xs = [.ref p] ∧ (SqL K H p ys ∨ SqT K H p ys) ∧ Q (.int ys.length) H
theorem k_len (e : X.K = K := by rfl) : CallR X (.builtin "len") (rLenK K) := e ▸ call_len_seq
theorem k_in (e : X.K = K := by rfl) : OpR X (compareOp .In) (rIn K false) := e ▸ op_in_seq
theorem k_ltT (hu : X.A.units < cLine) (e : X.K = K := by rfl) : OpR X (compareOp .Lt) (rLtT K) := e ▸ op_ltT hu
end
end Tg
/-! is_in, need_size, is_lot, is_step. -/
namespace Tg
open PySem PySem.Spec PyProof.Rows L2 GxR

section
variable {K : PySem.W.Frag} {H : Hp} {a : Addr} {xs : List V} {Q : VK}
theorem tyT (h : SqT K H a xs) : TyX K H (.ref a) (.type "tuple") := by
  rcases h with (h | ⟨o, h⟩) | ⟨o, its, n, e, c, _⟩
  · exact .base (.tup h)
  · exact .fTuple h
  · exact .kTuple e c
end

section
variable {P : Program} {w : World} {K : PySem.W.Frag} {mg : Str → Option Value} {base : Heap}
/-! ### is_in -/
def spIsIn : Sp := fun vs H Q _ => ∃ i l m : Int, vs = [.int i, .int l, .int m] ∧ l ≤ i ∧ i ≤ m ∧ Q (.bl true) H
theorem scIsIn : FnScope ["value", "least", "most"] ["value", "least", "most"] (defScope (top 7)) := ⟨rfl, rfl, rfl, by decide +kernel, rfl, by decide +kernel, by decide +kernel⟩
theorem ok_is_in (T : Pg K mg base) : Fx P w K mg base 1 "is_in" ["value", "least", "most"] spIsIn := by
  refine T.ok "is_in" 7 (by simp [fn]) scIsIn (fun _ _ _ _ _ _ us hl => match us, hl with | [_, _, _], _ => rfl) (fun vs H Q E h => ?_) fun A outer s H vs Q E hr h => ?_
  · obtain ⟨i, l, m, rfl, _⟩ := h
    rfl
  · obtain ⟨i, l, m, rfl, h1, h2, q⟩ := h
    refine ⟨_, pss_one (ps_ret (pe_and (pe_callB call_isi (by rfl) (T.fr "isinstance") (by decide +kernel) (pa_cons (pv 0) (pa_cons (pe_bltn (v := .ty "int") (by rfl) (T.fr "int") (by decide +kernel) rfl) pa_nil)))
      (pe_and (pe_not (pe_callB call_isi (by rfl) (T.fr "isinstance") (by decide +kernel) (pa_cons (pv 0) (pa_cons (pe_bltn (v := .ty "bool") (by rfl) (T.fr "bool") (by decide +kernel) rfl) pa_nil))))
        (pe_one (pe_chain op_le op_le (pv 1) (pv 0) (pv 2)))))), ?_⟩
    refine ⟨_, rfl, _, _, _, _, true, rfl, .ty _, .base (.int i), kit_ty (by decide +kernel), true, rfl, ?_⟩
    rw [if_pos rfl]
    refine ⟨_, rfl, _, _, _, _, false, rfl, .ty _, .base (.int i), kit_ty (by decide +kernel), false, rfl, true, rfl, ?_⟩
    rw [if_pos rfl]
    refine ⟨_, rfl, _, rfl, _, _, rfl, rfl, _, rfl, ?_⟩
    rw [if_pos (decide_eq_true h1)]
    refine ⟨_, rfl, _, _, rfl, rfl, ?_⟩
    show Q (.bl (decide (i ≤ m))) H
    rw [decide_eq_true h2]
    exact q
/-! ### need_size -/
def spNeedSize : Sp := fun vs H Q _ => ∃ i : Int, vs = [.int i] ∧ 1 ≤ i ∧ i ≤ 6 ∧ Q .non H
theorem scNeedSize : FnScope ["size"] ["size"] (defScope (top 8)) := ⟨rfl, rfl, rfl, by decide +kernel, rfl, by decide +kernel, by decide +kernel⟩
theorem ok_need_size (T : Pg K mg base) : Fx P w K mg base 2 "need_size" ["size"] spNeedSize := by
  refine T.ok "need_size" 8 (by simp [fn]) scNeedSize (fun _ _ _ _ _ _ us hl => match us, hl with | [_], _ => rfl) (fun vs H Q E h => ?_) fun A outer s H vs Q E hr h => ?_
  · obtain ⟨i, rfl, _⟩ := h
    rfl
  · obtain ⟨i, rfl, h1, h2, q⟩ := h
    obtain ⟨t6, m6⟩ := T.most
    refine ⟨_, pss_one (ps_if (pt_not (pt_val (pe_fx (ok_is_in T) hr (by rfl) (pa_cons (pv 0) (pa_cons pe_int (pa_cons (pe_glob (v := .int 6) (by rfl) m6 ⟨_, rfl⟩) pa_nil)))))) (pss_one ps_never) pss_nil), ?_⟩
    refine ⟨_, rfl, i, 1, 6, rfl, h1, h2, true, rfl, ?_⟩
    exact q
/-! ### is_lot -/
def LotOk (n : Int) (l : Lot) : Prop := l ≠ [] ∧ (∀ p ∈ l, 0 ≤ p ∧ p ≤ n - 1) ∧ ascI l = true
theorem asc_at : ∀ (l : Lot), ascI l = true → ∀ k : Nat, k + 1 < l.length → l.getD k 0 < l.getD (k + 1) 0
  | [], _, k, h => by simp at h
  | [_], _, k, h => by simp at h
  | a :: b :: r, h, 0, _ => by
    simp only [ascI, Bool.and_eq_true, decide_eq_true_eq] at h
    simpa using h.1
  | a :: b :: r, h, k + 1, hk => by
    simp only [ascI, Bool.and_eq_true] at h
    have q := asc_at (b :: r) h.2 k (by simpa using hk)
    simpa using q
theorem at_ints {l : Lot} {k : Nat} (h : k < l.length) : atI (l.map V.int) ((k : Nat) : Int) = some (V.int (l.getD k 0)) := atI_nat (by
  rw [List.getElem?_map, List.getElem?_eq_getElem h, List.getD_eq_getElem?_getD, List.getElem?_eq_getElem h]
  rfl)
theorem at_ints' {l : Lot} {k : Nat} (h : k + 1 < l.length) : atI (l.map V.int) (((k : Nat) : Int) + 1) = some (V.int (l.getD (k + 1) 0)) := at_ints (k := k + 1) h
theorem rgl_mem {lo : Int} {n : Nat} {z : Int} (h : z ∈ rgl lo n) : ∃ k : Nat, k < n ∧ z = lo + (k : Nat) := by
  obtain ⟨k, hk, e⟩ := List.mem_map.mp h
  exact ⟨k, List.mem_range.mp hk, e.symm⟩
theorem rg0_mem {n : Nat} {z : Int} (h : z ∈ rgl 0 n) : ∃ k : Nat, k < n ∧ z = ((k : Nat) : Int) := by
  obtain ⟨k, hk, e⟩ := rgl_mem h
  exact ⟨k, hk, by omega⟩
def spIsLot (K : PySem.W.Frag) : Sp := fun vs H Q _ => Tb (TBs K) H ∧ ∃ (n : Int) (v : V) (l : Lot), vs = [.int n, v] ∧ IsL K H v l ∧ l.length < 1000 ∧ LotOk n l ∧ ∀ H', Nx (TBs K) H H' → Q (.bl true) H'
abbrev N9 : List Str := ["size", "value", "one", "k"]
theorem scIsLot : FnScope N9 ["size", "value"] (defScope (top 9)) := ⟨rfl, rfl, rfl, by decide +kernel, rfl, by decide +kernel, by decide +kernel⟩
theorem ok_is_lot (T : Pg K mg base) : Fx P w K mg base 4 "is_lot" ["size", "value"] (spIsLot K) := by
  refine T.ok "is_lot" 9 (by simp [fn]) scIsLot (fun _ _ _ _ _ _ us hl => match us, hl with | [_, _], _ => rfl) (fun vs H Q E h => ?_) fun A outer s H vs Q E hr h => ?_
  · obtain ⟨_, n, v, l, rfl, _⟩ := h
    rfl
  · obtain ⟨tb, n, v, l, rfl, hl, hz, ⟨l1, l2, l3⟩, q⟩ := h
    obtain ⟨a, rfl, sq⟩ := hl.sq
    have tP := tb _ (tb_mem (x := "is_lot") (by decide +kernel))
    refine ⟨_, pss_cons (ps_if (PW.pt (pw_or (pt_not (pt_val (pe_callB k_isi (by rfl) (T.fr "isinstance") (by decide +kernel) (pa_cons (pv 1) (pa_cons (pe_bltn (v := .ty "tuple") (by rfl) (T.fr "tuple") (by decide +kernel) rfl) pa_nil)))))
        (pw_or (pt_not (pt_truth (pv 1) (by intro _; rfl)))
        (pw_or1 (pt_not (pt_val (pe_all (TBs K) (x := "one") (j := 2) 1 rfl scIsLot.nd hr (by rfl) (T.fr "all") (T.tb "is_lot") rfl (genOk_by (N := N9) (sc := defScope (top 9)) (by decide +kernel)) (pi_tup (pv 1))
          (fun _ _ _ _ _ _ _ _ => pg_name (i := 2) scIsLot.nd rfl (.inl rfl) (.inr rfl))
          (fun _ _ _ _ _ _ _ A' hrA => pe_fx (ok_is_in T) hrA (by rfl) (pa_cons (pv 2) (pa_cons pe_int (pa_cons (pe_op op_sub (pv 0) pe_int) pa_nil)))))))))))
        (pss_one (ps_ret pe_bl)) pss_nil)
      (pss_one (ps_ret (pe_all (TBs K) (x := "k") (j := 3) 1 rfl scIsLot.nd hr (by rfl) (T.fr "all") (T.tb "is_lot") rfl (genOk_by (N := N9) (sc := defScope (top 9)) (by decide +kernel))
          (pi_range1 (by rfl) (T.fr "range") (pa_cons (pe_op op_sub (pe_callB k_len (by rfl) (T.fr "len") PySem.boot_len (pa_cons (pv 1) pa_nil)) pe_int) pa_nil))
          (fun _ _ _ _ _ _ _ _ => pg_name (i := 3) scIsLot.nd rfl (.inl rfl) (.inr rfl))
          (fun _ _ _ _ _ _ _ A' hrA => pe_cmpR op_lt (pe_ix k_ixT (pv 1) (pv 3) fun _ _ => rfl) (pe_ix k_ixT (pv 1) (pe_op op_add (pv 3) pe_int) fun _ _ => rfl) (nomark _))))), ?_⟩
    have hne : (l.map V.int).isEmpty = false := by cases l <;> simp at l1 ⊢
    have len : 0 < l.length := List.length_pos_iff.mpr l1
    refine ⟨_, rfl, _, _, _, _, true, rfl, .ty _, tyT sq, kit_ty (by decide +kernel), true, rfl, ?_⟩
    refine iteF ?_
    refine ⟨_, rfl, true, .inr (.inl ⟨_, sq, by rw [hne]; rfl⟩), ?_⟩
    refine iteF ?_
    refine ⟨_, rfl, a, rfl, ⟨_, sq⟩, Int, IsI, _, l, fun _ => true, src_tup sq, persI, ints_paired l, tP, fun z x H' hz n' r C hC => ?_, fun H' n' => ?_⟩
    · cases r
      exact ⟨_, rfl, _, rfl, _, _, rfl, rfl, z, 0, n - 1, rfl, (l2 z hz).1, (l2 z hz).2, hC _ _ (.refl _) rfl⟩
    refine ⟨true, by simp, ?_⟩
    refine iteF ?_
    refine ⟨_, rfl, _, _, rfl, .inr (n'.tupN.sq sq), _, _, rfl, rfl, ?_⟩
    rw [List.length_map]
    refine ⟨_, rfl, by omega, by omega, Int, IsI, _, _, fun _ => true, src_rng, persI, ints_paired _, n'.tab _ (tb_mem (x := "is_lot") (by decide +kernel)) tP, fun z x H2 hz n2 r C hC => ?_, fun H2 n2 => ?_⟩
    · cases r
      obtain ⟨k, hk, rfl⟩ := rg0_mem hz
      have hk2 : k + 1 < l.length := by omega
      have sq2 := (n'.trans n2).tupN.sq sq
      refine ⟨_, rfl, _, rfl, _, _, _, _, rfl, rfl, sq2, at_ints (by omega), _, rfl, _, rfl, _, _, rfl, rfl, _, _, _, _, rfl, rfl, sq2, at_ints' hk2, _, _, rfl, rfl, ?_⟩
      exact hC _ _ (.refl _) (congrArg V.bl (decide_eq_true (asc_at l l3 k hk2)))
    · have e : ((rgl 0 ((l.length : Int) - 1).toNat).all fun _ => true) = true := by simp
      show Q (.bl _) H2
      rw [e]
      exact q H2 (n'.trans n2)
end
end Tg
/-! is_grouping, size_of, need_grouping, is_step. -/
namespace Tg
open PySem PySem.Spec PySem.W PyProof.Rows L2 GxR

theorem lexLt_ltL : ∀ a b : Lot, HT.lexLt a b = ltL a b
  | [], [] => rfl
  | [], _ :: _ => rfl
  | _ :: _, [] => rfl
  | x :: xs, y :: ys => by
    rw [HT.lexLt_cons, ltL, lexLt_ltL xs ys]
theorem lay_ints : ∀ l : List Int, PyData.canLayAll0 (l.map .int) = true
  | [] => rfl
  | _ :: l => by simp [PyData.canLayAll0, PyData.canLay0, lay_ints l]
theorem lay_dL (l : Lot) : (dL l).canLay0 = true := by simp [dL, PyData.canLay0, lay_ints]
theorem lay_lots : ∀ g : List Lot, PyData.canLayAll0 (g.map dL) = true
  | [] => rfl
  | l :: g => by simp [PyData.canLayAll0, lay_dL, lay_lots g]
theorem lay_dG (g : Gr) : (dG g).canLay0 = true := by simp [dG, PyData.canLay0, lay_lots]
theorem lay_grs : ∀ g : List Gr, PyData.canLayAll0 (g.map dG) = true
  | [] => rfl
  | l :: g => by simp [PyData.canLayAll0, lay_dG, lay_grs g]
theorem depthAll_dG : ∀ g : List Gr, PyData.depthAll (g.map dG) ≤ 2
  | [] => by simp [PyData.depthAll]
  | l :: g => by
    show PyData.depthAll (dG l :: g.map dG) ≤ 2
    rw [PyData.depthAll]
    have := depthAll_dG g
    have := depth_dG l
    omega
theorem shaped_ints (l : List Int) : SeqAt.shaped (.list (l.map .int)) = true := by simp [SeqAt.shaped, PyData.canLay0, lay_ints, PyData.depth, depth_ints]
theorem shaped_lots (l : List Lot) : SeqAt.shaped (.list (l.map dL)) = true := by
  have := depthAll_dL l
  have h2 : (PyData.list (l.map dL)).depth ≤ 64 := by
    simp only [PyData.depth]
    omega
  simp [SeqAt.shaped, PyData.canLay0, lay_lots, h2]
theorem shaped_grs (l : List Gr) : SeqAt.shaped (.list (l.map dG)) = true := by
  have := depthAll_dG l
  have h2 : (PyData.list (l.map dG)).depth ≤ 64 := by
    simp only [PyData.depth]
    omega
  simp [SeqAt.shaped, PyData.canLay0, lay_grs, h2]
theorem eqv_list (ds es : List PyData) : PyData.eqv (.list ds) (.list es) = PyData.eqvAll ds es := by rw [PyData.eqv]
theorem dp_ints {K : PySem.W.Frag} {H : Hp} {a : Addr} {l : List Int} (h : H a = some (.lst (l.map V.int))) : Dp K H (.ref a) (.list (l.map .int)) := .lst (SqL.of h) (dpAll_of (enc := PyData.int) (fun v x q => IsI.dp q) (ints_paired l))
theorem ascL_at : ∀ (g : List Lot), ascL g = true → ∀ k : Nat, k + 1 < g.length → ltL (g.getD k []) (g.getD (k + 1) []) = true
  | [], _, k, h => by simp at h
  | [_], _, k, h => by simp at h
  | a :: b :: r, h, 0, _ => by
    simp only [ascL, Bool.and_eq_true] at h
    simpa using h.1
  | a :: b :: r, h, k + 1, hk => by
    simp only [ascL, Bool.and_eq_true] at h
    have q := ascL_at (b :: r) h.2 k (by simpa using hk)
    simpa using q
theorem at_paired {β : Type} {R : V → β → Prop} {xs : List V} {zs : List β} {d : β} (p : Paired R xs zs) {k : Nat} (h : k < zs.length) : ∃ x, xs[k]? = some x ∧ R x (zs.getD k d) := by
  have e : zs[k]? = some (zs.getD k d) := by rw [List.getD_eq_getElem?_getD, List.getElem?_eq_getElem h]; rfl
  exact paired_get2 p e
theorem atI_succ {xs : List V} {k : Nat} {x : V} (h : xs[k + 1]? = some x) : atI xs (((k : Nat) : Int) + 1) = some x := atI_nat (j := k + 1) h
theorem rgV_rng (n : Nat) : rgV 0 ((n : Nat) : Int) = (rng n).map V.int := by
  simp only [rgV, rng, List.map_map]
  rw [show (((n : Nat) : Int) - 0).toNat = n by omega]
  exact List.map_congr_left fun i _ => by simp [nat]
theorem isort_of {ns ns' : List Int} (p : ns'.Perm ns) (h : ns'.Pairwise (· ≤ ·)) : ns' = isort (fun a b : Int => decide (a < b)) ns := isort_eq stoI (h.imp fun q => by simp only [decide_eq_false_iff_not]; omega) p

/-- a grouping's validity, in parts -/
theorem okG_parts {n : Nat} {g : Gr} (h : okG n g = true) : g ≠ [] ∧ (∀ l ∈ g, LotOk 6 l) ∧ isort (fun a b : Int => decide (a < b)) g.flatten = rng n ∧ ascL g = true := by
  simp only [okG, Bool.and_eq_true, Bool.not_eq_true', List.isEmpty_eq_false_iff, decide_eq_true_eq, List.all_eq_true] at h
  obtain ⟨h1, h2, h3, h4⟩ := h
  refine ⟨h1, fun l hl => ?_, h3, h4⟩
  have q := h2 l hl
  simp only [okLot, Bool.and_eq_true, Bool.not_eq_true', List.isEmpty_eq_false_iff, List.all_eq_true, decide_eq_true_eq] at q
  exact ⟨q.1, fun p hp => ⟨(q.2.1 p hp).1, by have := (q.2.1 p hp).2; omega⟩, q.2.2⟩
theorem okG_len {n : Nat} {g : Gr} (h : okG n g = true) : g.flatten.length = n := by
  have e := (okG_parts h).2.2.1
  have p := (isort_perm (fun a b : Int => decide (a < b)) g.flatten).length_eq
  rw [e] at p
  simpa [rng] using p.symm
theorem flat_le {g : List Lot} {l : Lot} (h : l ∈ g) : l.length ≤ g.flatten.length := by
  induction g with
  | nil => cases h
  | cons a g ih =>
    rw [List.flatten_cons, List.length_append]
    rcases List.mem_cons.mp h with e | h
    · rw [e]; omega
    · have := ih h; omega
theorem flat_cnt : ∀ {g : List Lot}, (∀ l ∈ g, l ≠ []) → g.length ≤ g.flatten.length
  | [], _ => Nat.le_refl _
  | a :: g, h => by
    have q := flat_cnt (g := g) fun l hl => h l (List.mem_cons_of_mem _ hl)
    have : 0 < a.length := List.length_pos_iff.mpr (h a List.mem_cons_self)
    rw [List.flatten_cons, List.length_append, List.length_cons]
    omega
theorem okG_cnt {n : Nat} {g : Gr} (h : okG n g = true) : g.length ≤ n := by
  rw [← okG_len h]
  exact flat_cnt fun l hl => ((okG_parts h).2.1 l hl).1
theorem flat_take (g : List Lot) (i : Nat) : (g.take i).flatten.length ≤ g.flatten.length := by
  conv => rhs; rw [← List.take_append_drop i g]
  rw [List.flatten_append, List.length_append]
  omega

section
variable {P : Program} {w : World} {K : PySem.W.Frag} {mg : Str → Option Value} {base : Heap}
def spIsG (K : PySem.W.Frag) : Sp := fun vs H Q _ => Tb (TBs K) H ∧ ∃ (n : Nat) (v : V) (g : Gr), vs = [v] ∧ IsG K H v g ∧ n ≤ 6 ∧ okG n g = true ∧ ∀ H', Nx (TBs K) H H' → Q (.bl true) H'
abbrev N10 : List Str := ["value", "people", "lot", "k"]
theorem scIsG : FnScope N10 ["value"] (defScope (top 10)) := ⟨rfl, rfl, rfl, by decide +kernel, rfl, by decide +kernel, by decide +kernel⟩
theorem ok_is_grouping (T : Pg K mg base) : Fx P w K mg base 7 "is_grouping" ["value"] (spIsG K) := by
  refine T.ok "is_grouping" 10 (by simp [fn]) scIsG (fun _ _ _ _ _ _ us hl => match us, hl with | [_], _ => rfl) (fun vs H Q E h => ?_) fun A outer s H vs Q E hr h => ?_
  · obtain ⟨_, n, v, g, rfl, _⟩ := h
    rfl
  · obtain ⟨tb, n, v, g, rfl, hg, hn, hok, q⟩ := h
    obtain ⟨a, xs, rfl, sq, pr⟩ := id hg
    obtain ⟨g1, g2, g3, g4⟩ := okG_parts hok
    have gl := okG_len hok
    have gc := okG_cnt hok
    have tP := tb _ (tb_mem (x := "is_grouping") (by decide +kernel))
    obtain ⟨t6, m6⟩ := T.most
    refine ⟨_, pss_cons (ps_if (PW.pt (pw_or (pt_not (pt_val (pe_callB k_isi (by rfl) (T.fr "isinstance") (by decide +kernel) (pa_cons (pv 0) (pa_cons (pe_bltn (v := .ty "tuple") (by rfl) (T.fr "tuple") (by decide +kernel) rfl) pa_nil)))))
        (pw_or (pt_not (pt_truth (pv 0) (by intro _; rfl)))
        (pw_or1 (pt_not (pt_val (pe_all (TBs K) (x := "lot") (j := 2) 4 rfl scIsG.nd hr (by rfl) (T.fr "all") (T.tb "is_grouping") rfl (genOk_by (N := N10) (sc := defScope (top 10)) (by decide +kernel)) (pi_tup (pv 0))
          (fun _ _ _ _ _ _ _ _ => pg_name (i := 2) scIsG.nd rfl (.inl rfl) (.inr rfl))
          (fun _ _ _ _ _ _ _ A' hrA => pe_fx (ok_is_lot T) hrA (by rfl) (pa_cons (pe_glob (v := .int 6) (by rfl) m6 ⟨_, rfl⟩) (pa_cons (pv 2) pa_nil))))))))))
        (pss_one (ps_ret pe_bl)) pss_nil)
      (pss_cons (ps_set (i := 1) scIsG.nd rfl (.inl rfl) (pe_lst pa_nil))
      (pss_cons (ps_forS PassesOwn.never rfl (pi_tup (pv 0)) (pg_name (i := 2) scIsG.nd rfl (.inl rfl))
        (pss_one (ps_set (i := 1) scIsG.nd rfl (.inl rfl) (pe_op op_cat (pv 1) (pe_callTy call_list_of (by rfl) (T.fr "list") (by decide +kernel) (pa_cons (pv 2) pa_nil))))))
      (pss_cons (ps_if (pt_cmpR (op_neD hr.units) (pe_callB cr_sorted (by rfl) (T.fr "sorted") (by decide +kernel) (pa_cons (pv 1) pa_nil)) (pe_listRg rfl (by rfl) (T.fr "list") (prg_1 (by rfl) (T.fr "range") (pe_callB k_len (by rfl) (T.fr "len") PySem.boot_len (pa_cons (pv 1) pa_nil)))) (nomark _))
        (pss_one (ps_ret pe_bl)) pss_nil)
      (pss_one (ps_ret (pe_all (TBs K) (x := "k") (j := 3) 1 rfl scIsG.nd (hr.mono (by decide)) (by rfl) (T.fr "all") (T.tb "is_grouping") rfl (genOk_by (N := N10) (sc := defScope (top 10)) (by decide +kernel))
          (pi_range1 (by rfl) (T.fr "range") (pa_cons (pe_op op_sub (pe_callB k_len (by rfl) (T.fr "len") PySem.boot_len (pa_cons (pv 0) pa_nil)) pe_int) pa_nil))
          (fun _ _ _ _ _ _ _ _ => pg_name (i := 3) scIsG.nd rfl (.inl rfl) (.inr rfl))
          (fun _ _ _ _ _ _ _ A' hrA => pe_cmpR (k_ltT hrA.units0) (pe_ix k_ixT (pv 0) (pv 3) fun _ _ => rfl) (pe_ix k_ixT (pv 0) (pe_op op_add (pv 3) pe_int) fun _ _ => rfl) (nomark _)))))))), ?_⟩
    have hxl : xs.length = g.length := Paired.length pr
    have len : 0 < g.length := List.length_pos_iff.mpr g1
    have hne : xs.isEmpty = false := by
      cases xs with
      | nil => simp at hxl; omega
      | cons _ _ => rfl
    refine ⟨_, rfl, _, _, _, _, true, rfl, .ty _, tyT sq, kit_ty (by decide +kernel), true, rfl, ?_⟩
    refine iteF ?_
    refine ⟨_, rfl, true, .inr (.inl ⟨_, sq, by rw [hne]; rfl⟩), ?_⟩
    refine iteF ?_
    refine ⟨_, rfl, a, rfl, ⟨_, sq⟩, Lot, IsL K, _, g, fun _ => true, src_tup sq, persL, pr, tP, fun z x H' hz n' r C hC => ?_, fun H1 n1 => ?_⟩
    · refine ⟨_, rfl, tb.nx n', 6, x, z, rfl, r, ?_, g2 z hz, fun H3 n3 => hC _ _ n3 rfl⟩
      have := flat_le hz
      omega
    refine ⟨true, by simp, ?_⟩
    refine iteF ?_
    -- people = []
    refine ⟨by show 0 ≤ sizeLine; exact Nat.zero_le _, fun pe npe => ?_⟩
    refine ⟨_, rfl, a, rfl, ⟨_, ((n1.new (o := .lst []) npe).tupN.sq sq)⟩, xs.length, _, _, fun i σ H' => Nx (TBs K) H H' ∧ ∃ p y, σ = [some (.ref a), some (.ref p), y, none] ∧ H' p = some (.lst (((g.take i).flatten).map V.int)), walk_tup, ⟨n1.new npe, pe, none, rfl, upd_same⟩, fun i σ H' _ h => h.1.tupN.sq sq, ?_, ?_⟩
    · rintro i x σ H' H'' hi ⟨n', p, y, rfl, hp⟩ ⟨rfl, hx⟩
      obtain ⟨z, hz, r⟩ := paired_get pr hx
      obtain ⟨b, rfl, sqz⟩ := (persL.nx n' r).sq
      refine ⟨_, rfl, _, rfl, b, _, rfl, .inr sqz, fun l hl => ?_⟩
      have hpl : p ≠ l := ne_of_none hp hl
      refine ⟨p, l, _, _, rfl, rfl, by rw [upd_ne hpl]; exact hp, upd_same, ?_, fun q2 hq2 => ?_⟩
      · have h1 := flat_take g i
        have h2 := flat_le (List.mem_of_getElem? hz)
        simp only [List.length_map]
        rw [sizeLine_eq]
        omega
      · refine ⟨(n'.new hl).new hq2, q2, _, rfl, ?_⟩
        have tk : g.take (i + 1) = g.take i ++ [z] := by
          rw [List.take_succ, hz]
          rfl
        rw [upd_same, tk, List.flatten_append, List.map_append]
        simp
    · rintro σ H2 ⟨n2, p, y, rfl, hp⟩
      rw [hxl, List.take_length] at hp
      have l64 : g.flatten.length < 64 := by omega
      refine ⟨_, rfl, p, _, rfl, SqL.of hp, l64, fun ns' r hperm hsort hr => ?_⟩
      have en : ns' = rng n := by rw [isort_of hperm hsort, g3]
      subst en
      have hpr : p ≠ r := ne_of_none hp hr
      refine ⟨_, rfl, p, _, rfl, .inl (SqL.of (by rw [upd_ne hpr]; exact hp)), _, rfl, ?_⟩
      rw [List.length_map, gl]
      refine ⟨.of_le (by omega) (by omega) (by omega) (by omega), fun t ht => ?_⟩
      rw [rgV_rng]
      have hrt : r ≠ t := ne_of_none (o := .lst ((rng n).map V.int)) upd_same ht
      refine ⟨_, _, dp_ints (l := rng n) (by rw [upd_ne hrt, upd_same]), dp_ints (l := rng n) upd_same, shaped_ints _, shaped_ints _, ?_⟩
      rw [eqv_list, eqvAll_ints, decide_eq_true rfl]
      refine ⟨_, rfl, ?_⟩
      refine iteF ?_
      have n3 : Nx (TBs K) H (upd (upd H2 r (.lst ((rng n).map V.int))) t (.lst ((rng n).map V.int))) := (n2.new hr).new ht
      refine ⟨_, rfl, _, _, rfl, .inr (n3.tupN.sq sq), _, _, rfl, rfl, ?_⟩
      rw [hxl]
      refine ⟨_, rfl, by omega, by omega, Int, IsI, _, _, fun _ => true, src_rng, persI, ints_paired _, n3.tab _ (tb_mem (x := "is_grouping") (by decide +kernel)) tP, fun z x H3 hz n4 r C hC => ?_, fun H3 n4 => ?_⟩
      · cases r
        obtain ⟨k, hk, rfl⟩ := rg0_mem hz
        have hk2 : k + 1 < g.length := by omega
        have n5 := n3.trans n4
        have sq2 := n5.tupN.sq sq
        have pr2 := persL.paired n5.tupN pr
        obtain ⟨x1, e1, r1⟩ := at_paired (d := []) pr2 (show k < g.length by omega)
        obtain ⟨x2, e2, r2⟩ := at_paired (d := []) pr2 hk2
        obtain ⟨b1, rfl, s1⟩ := r1.sq
        obtain ⟨b2, rfl, s2⟩ := r2.sq
        refine ⟨_, rfl, _, rfl, _, _, _, _, rfl, rfl, sq2, atI_nat e1, _, rfl, _, rfl, _, _, rfl, rfl, _, _, _, _, rfl, rfl, sq2, atI_succ e2, _, _, _, _, rfl, rfl, s1, s2, ?_⟩
        refine hC _ _ (.refl _) (congrArg V.bl ?_)
        rw [lexLt_ltL]
        exact ascL_at g g4 k hk2
      · have e : ((rgl 0 ((g.length : Int) - 1).toNat).all fun _ => true) = true := by simp
        show Q (.bl _) H3
        rw [e]
        exact q H3 (n3.trans n4)
/-! ### size_of -/
def spSize (K : PySem.W.Frag) : Sp := fun vs H Q _ => Tb (TBs K) H ∧ ∃ (v : V) (g : Gr), vs = [v] ∧ IsG K H v g ∧ size g < 1000000 ∧ ∀ H', Nx (TBs K) H H' → Q (.int (nat (size g))) H'
theorem scSize : FnScope ["grouping", "lot"] ["grouping"] (defScope (top 11)) := ⟨rfl, rfl, rfl, by decide +kernel, rfl, by decide +kernel, by decide +kernel⟩
theorem lens_of {H : Hp} {xs : List V} {g : Gr} : Paired (IsL K H) xs g → LensT K H xs (g.map List.length)
  | .nil => .nil
  | .cons h t => by
    obtain ⟨a, ys, e, sq, p⟩ := h
    exact .cons ⟨a, ys, e, sq, Paired.length p⟩ (lens_of t)
theorem ok_size_of (T : Pg K mg base) : Fx P w K mg base 3 "size_of" ["grouping"] (spSize K) := by
  refine T.ok "size_of" 11 (by simp [fn]) scSize (fun _ _ _ _ _ _ us hl => match us, hl with | [_], _ => rfl) (fun vs H Q E h => ?_) fun A outer s H vs Q E hr h => ?_
  · obtain ⟨_, v, g, rfl, _⟩ := h
    rfl
  · obtain ⟨tb, v, g, rfl, hg, hz, q⟩ := h
    obtain ⟨a, xs, rfl, sq, pr⟩ := hg
    refine ⟨_, pss_one (ps_ret (pe_sumLen hr (by rfl) (T.fr "sum") (T.fr "len") (T.tb "size_of") rfl ⟨rfl, rfl, by decide +kernel, rfl, rfl, fun y hy e => absurd e (by clear e; revert hy; revert y; decide +kernel)⟩ rfl (pv 0))), ?_⟩
    refine ⟨_, rfl, a, xs, _, rfl, sq, lens_of pr, hz, tb _ (tb_mem (x := "size_of") (by decide +kernel)), fun H2 h2 => ?_⟩
    exact q H2 ((Nx.refl H).tabbed h2 (tb _ (tb_mem (x := "size_of") (by decide +kernel))))
/-! ### need_grouping -/
def spNeedG (K : PySem.W.Frag) : Sp := fun vs H Q _ => Tb (TBs K) H ∧ ∃ (n : Nat) (v : V) (g : Gr), vs = [v] ∧ IsG K H v g ∧ n ≤ 6 ∧ okG n g = true ∧ ∀ H', Nx (TBs K) H H' → Q .non H'
theorem scNeedG : FnScope ["grouping"] ["grouping"] (defScope (top 12)) := ⟨rfl, rfl, rfl, by decide +kernel, rfl, by decide +kernel, by decide +kernel⟩
theorem ok_need_grouping (T : Pg K mg base) : Fx P w K mg base 8 "need_grouping" ["grouping"] (spNeedG K) := by
  refine T.ok "need_grouping" 12 (by simp [fn]) scNeedG (fun _ _ _ _ _ _ us hl => match us, hl with | [_], _ => rfl) (fun vs H Q E h => ?_) fun A outer s H vs Q E hr h => ?_
  · obtain ⟨_, n, v, g, rfl, _⟩ := h
    rfl
  · obtain ⟨tb, n, v, g, rfl, hg, hn, hok, q⟩ := h
    refine ⟨_, pss_one (ps_if (pt_not (pt_val (pe_fx (ok_is_grouping T) hr (by rfl) (pa_cons (pv 0) pa_nil)))) (pss_one ps_never) pss_nil), ?_⟩
    exact ⟨_, rfl, tb, n, v, g, rfl, hg, hn, hok, fun H' n' => ⟨true, rfl, q H' n'⟩⟩
/-! ### is_step -/
def spStep (K : PySem.W.Frag) : Sp := fun vs H Q _ => Tb (TBs K) H ∧ ∃ (n : Int) (v : V) (l : Lot), vs = [.int n, v] ∧ IsL K H v l ∧ l.length ≤ 2 ∧ LotOk n l ∧ ∀ H', Nx (TBs K) H H' → Q (.bl true) H'
theorem scStep : FnScope ["size", "value"] ["size", "value"] (defScope (top 14)) := ⟨rfl, rfl, rfl, by decide +kernel, rfl, by decide +kernel, by decide +kernel⟩
theorem ok_is_step (T : Pg K mg base) : Fx P w K mg base 5 "is_step" ["size", "value"] (spStep K) := by
  refine T.ok "is_step" 14 (by simp [fn]) scStep (fun _ _ _ _ _ _ us hl => match us, hl with | [_, _], _ => rfl) (fun vs H Q E h => ?_) fun A outer s H vs Q E hr h => ?_
  · obtain ⟨_, n, v, l, rfl, _⟩ := h
    rfl
  · obtain ⟨tb, n, v, l, rfl, hl, hz, hok, q⟩ := h
    obtain ⟨a, rfl, sq⟩ := hl.sq
    refine ⟨_, pss_one (ps_ret (pe_and (pe_fx (ok_is_lot T) hr (by rfl) (pa_cons (pv 0) (pa_cons (pv 1) pa_nil))) (pe_one (pe_cmpR op_le (pe_callB k_len (by rfl) (T.fr "len") PySem.boot_len (pa_cons (pv 1) pa_nil)) pe_int (nomark _))))), ?_⟩
    refine ⟨_, rfl, _, rfl, tb, n, _, l, rfl, hl, by omega, hok, fun H' n' => ⟨true, rfl, ?_⟩⟩
    rw [if_pos rfl]
    refine ⟨_, rfl, _, _, rfl, .inr (n'.tupN.sq sq), _, _, rfl, rfl, ?_⟩
    have e : decide (((l.map V.int).length : Int) ≤ 2) = true := decide_eq_true (by rw [List.length_map]; omega)
    show Q (.bl (decide (((l.map V.int).length : Int) ≤ 2))) H'
    rw [e]
    exact q H' n'
end
end Tg
/-! all_groupings, pairs_of. -/
namespace Tg
open PySem PySem.Spec PySem.W PyProof.Rows L2 GxR

/-! ### slices of tuples -/
def rSlN (ts : List Addr) (K : PySem.W.Frag) : V → Option Int → Option Int → Hp → VK → Prop := fun x lo hi H Q => ∃ (a : Addr) (xs : List V), x = .ref a ∧ SqT K H a xs ∧ ∀ p H', Nx ts H H' → SqT K H' p (cutV xs lo hi) → Q (.ref p) H'
theorem sl_tupN {X : Cx} (ts : List Addr) : SlR X (rSlN ts X.K) := by
  intro pins s σ H x v vl vu lo hi sl Q I rx hs pl pu h
  obtain ⟨a, xs, rfl, hx, q⟩ := h
  refine sl_tupA pins s σ H _ v vl vu lo hi sl Q I rx hs pl pu ⟨a, xs, rfl, hx, fun hw => ?_, fun _ p hp => ?_⟩
  · refine q a H (.refl H) ?_
    have e : cutV xs lo hi = xs := by
      unfold cutV
      rw [hw.1, hw.2, List.drop_zero, Nat.sub_zero, List.take_length]
    rw [e]
    exact hx
  · exact q p _ ((Nx.refl H).new hp) (.of upd_same)
theorem cut_lo {xs : List V} {k : Nat} : cutV xs none (some ((k : Nat) : Int)) = xs.take k := by
  unfold cutV
  rw [HT.sIx_none, HT.sIx_nat, List.drop_zero, Nat.sub_zero]
  by_cases h : k ≤ xs.length
  · rw [Nat.min_eq_left h]
  · rw [Nat.min_eq_right (by omega), List.take_length, List.take_of_length_le (by omega)]
theorem cut_hi {xs : List V} {k : Nat} : cutV xs (some (((k : Nat) : Int) + 1)) none = xs.drop (k + 1) := by
  unfold cutV
  rw [HT.sIx_none, show ((k : Nat) : Int) + 1 = ((k + 1 : Nat) : Int) by omega, HT.sIx_nat]
  by_cases h : k + 1 ≤ xs.length
  · rw [Nat.min_eq_left h, List.take_of_length_le (by simp)]
  · rw [Nat.min_eq_right (by omega), List.drop_of_length_le (Nat.le_refl _), List.drop_of_length_le (show xs.length ≤ k + 1 by omega), List.take_nil]
theorem paired_take {β : Type} {R : V → β → Prop} : ∀ {xs : List V} {zs : List β} (k : Nat), Paired R xs zs → Paired R (xs.take k) (zs.take k)
  | _, _, k, .nil => by simp; exact .nil
  | _, _, 0, .cons _ _ => .nil
  | _, _, k + 1, .cons r t => .cons r (paired_take k t)
theorem paired_drop {β : Type} {R : V → β → Prop} : ∀ {xs : List V} {zs : List β} (k : Nat), Paired R xs zs → Paired R (xs.drop k) (zs.drop k)
  | _, _, k, .nil => by simp; exact .nil
  | _, _, 0, .cons r t => .cons r t
  | _, _, k + 1, .cons _ t => paired_drop k t

/-! ### the bounds of the few sizes -/
theorem rawG_len {n : Nat} (h : n ≤ 5) : (rawG n).length ≤ 52 := by
  rcases (by omega : n = 0 ∨ n = 1 ∨ n = 2 ∨ n = 3 ∨ n = 4 ∨ n = 5) with rfl | rfl | rfl | rfl | rfl | rfl <;> decide +kernel
theorem growOne_len (p : Int) (g : Gr) : (growOne p g).length = g.length + 1 := by simp [growOne]
theorem flatMap_take_len {α β : Type} (f : α → List β) (l : List α) (k : Nat) : ((l.take k).flatMap f).length ≤ (l.flatMap f).length := by
  conv => rhs; rw [← List.take_append_drop k l]
  rw [List.flatMap_append, List.length_append]
  omega
theorem rawG_ne {n : Nat} (h : 1 ≤ n) : ∀ g ∈ rawG n, g ≠ [] := by
  cases n with
  | zero => omega
  | succ n =>
    intro g hg
    simp only [rawG, List.mem_flatMap, growOne, List.mem_append, List.mem_map, List.mem_singleton] at hg
    obtain ⟨g0, _, ⟨k, _, e⟩ | e⟩ := hg
    · rw [← e]; simp
    · rw [e]; simp
theorem rawG_glen {n : Nat} (h : n ≤ 5) : ∀ g ∈ rawG n, g.length ≤ 5 ∧ ∀ l ∈ g, l.length ≤ 5 := by
  have q : (rawG n).all (fun g => decide (g.length ≤ 5) && g.all fun l => decide (l.length ≤ 5)) = true := by
    rcases (by omega : n = 0 ∨ n = 1 ∨ n = 2 ∨ n = 3 ∨ n = 4 ∨ n = 5) with rfl | rfl | rfl | rfl | rfl | rfl <;> decide +kernel
  intro g hg
  have q2 := List.all_eq_true.mp q g hg
  simp only [Bool.and_eq_true, decide_eq_true_eq, List.all_eq_true] at q2
  exact q2

section
variable {P : Program} {w : World} {K : PySem.W.Frag} {mg : Str → Option Value} {base : Heap}
def spAll (K : PySem.W.Frag) : Sp := fun vs H Q _ => ∃ (n : Nat), vs = [.int (nat n)] ∧ 1 ≤ n ∧ n ≤ 5 ∧ ∀ p ys H', Nx (TBs K) H H' → H p = none → H' p = some (.lst ys) → Paired (IsG K H') ys (AG n) → Q (.ref p) H'
abbrev N13 : List Str := ["size", "found", "person", "more", "grouping", "at", "lot"]
theorem scAll : FnScope N13 ["size"] (defScope (top 13)) := ⟨rfl, rfl, rfl, by decide +kernel, rfl, by decide +kernel, by decide +kernel⟩
theorem growOne_take (p : Int) (g : Gr) (k : Nat) (h : k < g.length) : (List.range (k + 1)).map (fun k => g.take k ++ (g.getD k [] ++ [p]) :: g.drop (k + 1)) = (List.range k).map (fun k => g.take k ++ (g.getD k [] ++ [p]) :: g.drop (k + 1)) ++ [g.take k ++ (g.getD k [] ++ [p]) :: g.drop (k + 1)] := by
  rw [List.range_succ, List.map_append]
  rfl
theorem ok_all_groupings (T : Pg K mg base) : Fx P w K mg base 1 "all_groupings" ["size"] (spAll K) := by
  refine T.ok "all_groupings" 13 (by simp [fn]) scAll (fun _ _ _ _ _ _ us hl => match us, hl with | [_], _ => rfl) (fun vs H Q E h => ?_) fun A outer s H vs Q E hr h => ?_
  · obtain ⟨n, rfl, _⟩ := h
    rfl
  · obtain ⟨n, rfl, h1, h5, q⟩ := h
    refine ⟨_, pss_cons (ps_set (i := 1) scAll.nd rfl (.inl rfl) (pe_lst (pa_cons (pe_tup pa_nil) pa_nil)))
      (pss_cons (ps_forS PassesOwn.never rfl (pi_range1 (by rfl) (T.fr "range") (pa_cons (pv 0) pa_nil)) (pg_name (i := 2) scAll.nd rfl (.inl rfl))
        (pss_cons (ps_set (i := 3) scAll.nd rfl (.inl rfl) (pe_lst pa_nil))
        (pss_cons (ps_forS PassesOwn.never rfl (pi_list (pv 1)) (pg_name (i := 4) scAll.nd rfl (.inl rfl))
          (pss_cons (ps_forS PassesOwn.never rfl (pi_enumT (by rfl) (T.fr "enumerate") (pa_cons (pv 4) pa_nil)) (pg_tup rfl (pgs_cons (pg_name (i := 5) scAll.nd rfl (.inl rfl)) (pgs_cons (pg_name (i := 6) scAll.nd rfl (.inl rfl)) pgs_nil)))
            (pss_one (ps_expr (pe_bm PySem.F.plainAttrs_list PySem.F.slot_list_append PySem.F.type_list_append mt_append (pv 3)
              (pa_cons (pe_tup (StX.pa_star (pe_slice (sl_tupN (TBs K)) (pv 4) po_none (po_some (pv 5))) (pa_cons (pe_tup (StX.pa_star (pv 6) (pa_cons (pv 2) pa_nil))) (StX.pa_star (pe_slice (sl_tupN (TBs K)) (pv 4) (po_some (pe_op op_add (pv 5) pe_int)) po_none) pa_nil)))) pa_nil)))))
          (pss_one (ps_expr (pe_bm PySem.F.plainAttrs_list PySem.F.slot_list_append PySem.F.type_list_append mt_append (pv 3)
              (pa_cons (pe_tup (StX.pa_star (pv 4) (pa_cons (pe_tup (pa_cons (pv 2) pa_nil)) pa_nil))) pa_nil))))))
        (pss_one (ps_set (i := 1) scAll.nd rfl (.inl rfl) (pv 3))))))
      (pss_one (ps_ret (pe_callB (cr_sortD (R := IsG K) stoG dataLt_dG alike_dG (fun b => Nat.le_trans (depth_dG b) (by decide)) (fun H v b h => h.dp) (by have := hr.units; omega)) (by rfl) (T.fr "sorted") (by decide +kernel) (pa_cons (pv 1) pa_nil))))), ?_⟩
    refine ⟨Nat.zero_le _, fun t0 ht0 => ⟨by show 1 ≤ sizeLine; decide, fun f0 hf0 => ?_⟩⟩
    have n0 : Nx (TBs K) H (upd (upd H t0 (.tup [])) f0 (.lst [.ref t0])) := ((Nx.refl H).new ht0).new hf0
    have htf : t0 ≠ f0 := ne_of_none (o := .tup []) upd_same hf0
    refine ⟨_, rfl, nat n, rfl, by unfold nat; omega, by unfold nat; omega, (nat n).toNat, _, _, fun i σ H' => Nx (TBs K) H H' ∧ ∃ f ys a b c d e, σ = [some (.int (nat n)), some (.ref f), a, b, c, d, e] ∧ H' f = some (.lst ys) ∧ Paired (IsG K H') ys (rawG i) ∧ H f = none,
      walk_range, ⟨n0, f0, _, none, none, none, none, none, rfl, upd_same, .cons ⟨t0, [], rfl, SqT.of (by rw [upd_ne htf, upd_same]), .nil⟩ .nil, ((Nx.refl (ts := TBs K) H).new ht0).non _ hf0⟩, fun _ _ _ _ _ => trivial, ?_, ?_⟩
    · rintro i x σ H1 H' hi ⟨n1, f, ys, a, b, c, d, e, rfl, hf, hp, hfn⟩ ⟨rfl, hx⟩
      have hx' : x = .int (nat i) := by rw [hx]; simp [nat]
      subst hx'
      clear hx
      have hin : i < n := by simpa [nat] using hi
      have big : (rawG (i + 1)).length ≤ 52 := rawG_len (by omega)
      refine ⟨Nat.zero_le _, fun m hm => ?_⟩
      have hfm : f ≠ m := ne_of_none hf hm
      have nm := n1.non m hm
      refine ⟨_, rfl, f, rfl, ⟨ys, SqL.of (by rw [upd_ne hfm]; exact hf)⟩, ys.length, _, _, fun k σ H2 => Nx (TBs K) H H2 ∧ H2 f = some (.lst ys) ∧ Paired (IsG K H2) ys (rawG i) ∧ ∃ acc c d e, σ = [some (.int (nat n)), some (.ref f), some (.int (nat i)), some (.ref m), c, d, e] ∧ H2 m = some (.lst acc) ∧ Paired (IsG K H2) acc (((rawG i).take k).flatMap (growOne (nat i))),
        walk_list, ⟨n1.new hm, by rw [upd_ne hfm]; exact hf, persG.paired ((Nx.refl (ts := TBs K) H').new hm).tupN hp, [], c, d, e, rfl, upd_same, .nil⟩, fun k σ H2 _ h => SqL.of h.2.1, ?_, ?_⟩
      · rintro k x σ H2 H2' hk ⟨n2, hf2, hp2, acc, c, d, e, rfl, hm2, hacc⟩ ⟨rfl, hx⟩
        obtain ⟨g, hg, r⟩ := paired_get hp2 hx
        obtain ⟨ga, vs, rfl, sqg, prg⟩ := r
        have gin := List.mem_of_getElem? hg
        obtain ⟨gl1, gl2⟩ := rawG_glen (show i ≤ 5 by omega) g gin
        have hvl : vs.length = g.length := Paired.length prg
        have tk : (rawG i).take (k + 1) = (rawG i).take k ++ [g] := by
          rw [List.take_succ, hg]
          rfl
        have cnt : (((rawG i).take k).flatMap (growOne (nat i))).length + (growOne (nat i) g).length ≤ 52 := by
          have q1 := flatMap_take_len (growOne (nat i)) (rawG i) (k + 1)
          rw [tk, List.flatMap_append, List.length_append] at q1
          simp only [List.flatMap_cons, List.flatMap_nil, List.append_nil] at q1
          exact Nat.le_trans q1 big
        rw [growOne_len] at cnt
        refine ⟨_, rfl, ga, vs, rfl, sqg, vs.length, _, _, fun t σ H3 => Nx (TBs K) H H3 ∧ TupN H2' H3 ∧ H3 f = some (.lst ys) ∧ ∃ acc d e, σ = [some (.int (nat n)), some (.ref f), some (.int (nat i)), some (.ref m), some (.ref ga), d, e] ∧ H3 m = some (.lst acc) ∧
            Paired (IsG K H3) acc (((rawG i).take k).flatMap (growOne (nat i)) ++ (List.range t).map (fun k => g.take k ++ (g.getD k [] ++ [nat i]) :: g.drop (k + 1))),
          walk_enumT, ⟨n2, .refl _, hf2, acc, d, e, rfl, hm2, by simpa using hacc⟩, fun t σ H3 _ h => h.2.1.sq sqg, ?_, ?_⟩
        · rintro t x σ H3 H3' ht ⟨n3, t3, hf3, acc3, d3, e3, rfl, hm3, hacc3⟩ ⟨T', x1, y1, rfl, hT, rfl, h4, h5⟩
          cases h4
          have htg : t < g.length := by omega
          have mT : m ≠ T' := ne_of_none hm3 hT
          have fT : f ≠ T' := ne_of_none hf3 hT
          have nT : Nx (TBs K) H3 (upd H3 T' (.tup [.int (t : Nat), y1])) := (Nx.refl H3).new hT
          have tT := t3.trans nT.tupN
          obtain ⟨l, hl, rl⟩ := paired_get prg h5
          obtain ⟨b, rfl, sqb⟩ := rl.sq
          have egl : g.getD t [] = l := by rw [List.getD_eq_getElem?_getD, hl]; rfl
          have lin := gl2 l (List.mem_of_getElem? hl)
          refine ⟨T', _, rfl, SqT.of upd_same, rfl, _, _, rfl, _, _, rfl, rfl, ?_⟩
          refine ⟨_, rfl, .inl ⟨rfl, _, SqL.of (by rw [upd_ne mT]; exact hm3)⟩, ?_⟩
          refine ⟨_, rfl, _, rfl, _, rfl, ga, vs, rfl, tT.sq sqg, fun p1 H4 n4 sq4 => ?_⟩
          refine ⟨p1, _, rfl, .inl sq4, ?_⟩
          have t4 := tT.trans n4.tupN
          refine ⟨_, rfl, b, _, rfl, .inl (t4.sq sqb), _, rfl, ?_, fun q1 hq1 => ?_⟩
          · simp only [List.length_append, List.length_map, List.length_cons, List.length_nil]
            rw [sizeLine_eq]
            omega
          have n5 : Nx (TBs K) H4 (upd H4 q1 (.tup (l.map V.int ++ [V.int (nat i)]))) := (Nx.refl H4).new hq1
          refine ⟨_, rfl, _, rfl, _, _, rfl, rfl, _, rfl, ga, vs, rfl, (t4.trans n5.tupN).sq sqg, fun p2 H5 n6 sq5 => ?_⟩
          refine ⟨p2, _, rfl, .inl sq5, ?_⟩
          rw [cut_lo, cut_hi]
          refine ⟨?_, fun q2 hq2 => ?_⟩
          · simp only [List.length_append, List.length_cons, List.length_take, List.length_drop, List.length_nil]
            rw [sizeLine_eq]
            omega
          have N := (n4.trans n5).trans (n6.new (o := .tup (vs.take t ++ V.ref q1 :: (vs.drop (t + 1) ++ []))) hq2)
          have hm7 := N.lst (p := m) (by rw [upd_ne mT]; exact hm3)
          have n56 := n6.new (o := .tup (vs.take t ++ V.ref q1 :: (vs.drop (t + 1) ++ []))) hq2
          have hq1L : SqT K (upd H5 q2 (.tup (vs.take t ++ V.ref q1 :: (vs.drop (t + 1) ++ [])))) q1 ((l ++ [nat i]).map V.int) := by
            rw [List.map_append]
            exact n56.tupN.sq (SqT.of upd_same)
          have t7 := tT.trans N.tupN
          have prg7 := persL.paired t7 prg
          have new : IsG K (upd H5 q2 (.tup (vs.take t ++ V.ref q1 :: (vs.drop (t + 1) ++ [])))) (.ref q2) (g.take t ++ (g.getD t [] ++ [nat i]) :: g.drop (t + 1)) := by
            refine ⟨q2, _, rfl, SqT.of upd_same, ?_⟩
            rw [egl]
            have q0 := paired_app (paired_drop (t + 1) prg7) Paired.nil
            rw [List.append_nil (g.drop (t + 1))] at q0
            exact paired_app (paired_take t prg7) (.cons (IsL.of hq1L) q0)
          have hal : acc3.length ≤ 52 := by
            have q1 := Paired.length hacc3
            rw [List.length_append, List.length_map, List.length_range] at q1
            omega
          refine ⟨m, acc3, _, rfl, rfl, hm7, by rw [sizeLine_eq]; omega, ?_⟩
          have tw := TupN.lst (ys := acc3 ++ [.ref q2]) hm7
          refine ⟨((n3.trans nT).trans N).upd nm, t7.trans tw, by rw [upd_ne hfm]; exact N.lst (by rw [upd_ne fT]; exact hf3), acc3 ++ [.ref q2], _, _, rfl, upd_same, ?_⟩
          rw [growOne_take _ _ _ htg, ← List.append_assoc]
          exact paired_app (persG.paired ((nT.tupN.trans N.tupN).trans tw) hacc3) (.cons (persG _ _ _ _ tw new) .nil)
        · rintro σ H3 ⟨n3, t3, hf3, acc3, d3, e3, rfl, hm3, hacc3⟩
          rw [hvl] at hacc3
          refine ⟨_, rfl, .inl ⟨rfl, _, SqL.of hm3⟩, ?_⟩
          refine ⟨_, rfl, ga, vs, rfl, .inl (t3.sq sqg), _, rfl, by show 1 ≤ sizeLine; decide, fun q1 hq1 => ?_⟩
          refine ⟨?_, fun q2 hq2 => ?_⟩
          · simp only [List.length_append, List.length_cons, List.length_nil]
            rw [sizeLine_eq]
            omega
          have n5 : Nx (TBs K) H3 (upd H3 q1 (.tup [V.int (nat i)])) := (Nx.refl H3).new hq1
          have N := n5.new (o := .tup (vs ++ [V.ref q1])) hq2
          have q12 : q1 ≠ q2 := ne_of_none (o := .tup [V.int (nat i)]) upd_same hq2
          have hm7 := N.lst hm3
          have new : IsG K (upd (upd H3 q1 (.tup [V.int (nat i)])) q2 (.tup (vs ++ [V.ref q1]))) (.ref q2) (g ++ [[nat i]]) :=
            ⟨q2, _, rfl, SqT.of upd_same, paired_app (persL.paired (t3.trans N.tupN) prg) (.cons (IsL.of (l := [nat i]) (SqT.of (by rw [upd_ne q12, upd_same]; rfl))) .nil)⟩
          have hal : acc3.length ≤ 52 := by
            have q1 := Paired.length hacc3
            rw [List.length_append, List.length_map, List.length_range] at q1
            omega
          refine ⟨m, acc3, _, rfl, rfl, hm7, by rw [sizeLine_eq]; omega, ?_⟩
          have tw := TupN.lst (ys := acc3 ++ [.ref q2]) hm7
          refine ⟨(n3.trans N).upd nm, by rw [upd_ne hfm]; exact N.lst hf3, persG.paired ((t3.trans N.tupN).trans tw) hp2, acc3 ++ [.ref q2], _, _, _, rfl, upd_same, ?_⟩
          rw [tk, List.flatMap_append]
          simp only [List.flatMap_cons, List.flatMap_nil, List.append_nil]
          rw [growOne, ← List.append_assoc]
          exact paired_app (persG.paired (N.tupN.trans tw) hacc3) (.cons (persG _ _ _ _ tw new) .nil)
      · rintro σ H2 ⟨n2, hf2, hp2, acc, c, d, e, rfl, hm2, hacc⟩
        rw [show ys.length = (rawG i).length from Paired.length hp2, List.take_length] at hacc
        exact ⟨_, rfl, n2, m, acc, _, _, c, d, e, rfl, hm2, hacc, nm⟩
    · rintro σ H1 ⟨n1, f, ys, a, b, c, d, e, rfl, hf, hp, hfn⟩
      have en : (nat n).toNat = n := by simp [nat]
      rw [en] at hp
      refine ⟨_, rfl, f, ys, rawG n, rfl, hf, hp, .inl fun d hd => ?_, fun p zs hpn hz => ?_⟩
      · obtain ⟨g, hg, rfl⟩ := List.mem_map.mp hd
        cases g with
        | nil => exact absurd rfl (rawG_ne h1 _ hg)
        | cons l g => exact ⟨_, _, rfl⟩
      · exact q p zs _ (n1.new hpn) (n1.non p hpn) upd_same (persG.paired ((Nx.refl (ts := TBs K) H1).new hpn).tupN hz)
end
end Tg
/-! pairs_of, need_two, greatest_shares, steps_between, distance. -/
namespace Tg
open PySem PySem.Spec PySem.W PyProof.Rows L2 GxR

section
variable {X : Cx} {K : PySem.W.Frag}
theorem k_tup {tg l : Expr} {tl : TE} (hl : PE X l tl) (e : X.K = K := by rfl) : PI X tg l (iTup K tl) := e ▸ pi_tup hl
theorem k_list {tg l : Expr} {tl : TE} (hl : PE X l tl) (e : X.K = K := by rfl) : PI X tg l (iList K tl) := e ▸ pi_list hl
theorem k_max (hc : X.calm = true) (e : X.K = K := by rfl) : CallR X (.builtin "max") (rMax K) := e ▸ cr_max hc
end
theorem filter_yes {α : Type} (l : List α) : l.filter (fun _ => true) = l := by simp
theorem keep_map {α β : Type} (l : List α) (f : α → β) : (l.filter (fun _ => true)).map f = l.map f := by rw [filter_yes]

section
variable {P : Program} {w : World} {K : PySem.W.Frag} {mg : Str → Option Value} {base : Heap}
/-! ### pairs_of -/
def spPairs (K : PySem.W.Frag) : Sp := fun vs H Q _ => ∃ (n : Nat), vs = [.int (nat n)] ∧ n ≤ 6 ∧ ∀ p ys H', Nx (TBs K) H H' → H p = none → H' p = some (.lst ys) → Paired (IsL K H') ys (pairsOf n) → Q (.ref p) H'
abbrev N16 : List Str := ["size", "found", "one", "other"]
theorem scPairs : FnScope N16 ["size"] (defScope (top 16)) := ⟨rfl, rfl, rfl, by decide +kernel, rfl, by decide +kernel, by decide +kernel⟩
theorem pairsRow_len {n i : Nat} (h : n ≤ 6) : (pairsRow n i).length ≤ 6 := by
  simp [pairsRow]
  omega
theorem row_eq {n i : Nat} : (rgl (nat i + 1) (nat n - (nat i + 1)).toNat).map (fun z => [nat i, z]) = pairsRow n i := by
  simp only [rgl, pairsRow, List.map_map]
  rw [show (nat n - (nat i + 1)).toNat = n - (i + 1) by simp [nat]; omega]
  refine List.map_congr_left fun j _ => ?_
  simp [nat]
theorem ok_pairs_of (T : Pg K mg base) : Fx P w K mg base 1 "pairs_of" ["size"] (spPairs K) := by
  refine T.ok "pairs_of" 16 (by simp [fn]) scPairs (fun _ _ _ _ _ _ us hl => match us, hl with | [_], _ => rfl) (fun vs H Q E h => ?_) fun A outer s H vs Q E hr h => ?_
  · obtain ⟨n, rfl, _⟩ := h
    rfl
  · obtain ⟨n, rfl, h5, q⟩ := h
    refine ⟨_, pss_cons (ps_set (i := 1) scPairs.nd rfl (.inl rfl) (pe_lst pa_nil))
      (pss_cons (ps_forS PassesOwn.never rfl (pi_range1 (by rfl) (T.fr "range") (pa_cons (pv 0) pa_nil)) (pg_name (i := 2) scPairs.nd rfl (.inr rfl))
        (pss_one (ps_set (i := 1) scPairs.nd rfl (.inl rfl) (pe_op op_cat (pv 1) (pe_lcU (TBs K) (x := "other") (j := 3) rfl scPairs.nd (pi_range2 (by rfl) (T.fr "range") (pa_cons (pe_op op_add (pv 2) pe_int) (pa_cons (pv 0) pa_nil)))
          (blkOk_by (by kernel_rfl)) (fun _ _ _ _ _ => pg_name (i := 3) scPairs.nd rfl (.inl rfl) (.inr rfl)) (fun _ _ _ _ _ => pts_nil) (fun _ _ _ _ _ => pe_tup (pa_cons (pv 2) (pa_cons (pv 3) pa_nil))))))))
      (pss_one (ps_ret (pv 1)))), ?_⟩
    refine ⟨Nat.zero_le _, fun f0 hf0 => ?_⟩
    refine ⟨_, rfl, nat n, rfl, by unfold nat; omega, by unfold nat; omega, (nat n).toNat, _, _, fun i σ H' => Nx (TBs K) H H' ∧ ∃ f ys o t, σ = [some (.int (nat n)), some (.ref f), o, t] ∧ H' f = some (.lst ys) ∧ Paired (IsL K H') ys ((List.range i).flatMap (pairsRow n)) ∧ H f = none ∧ ys.length ≤ 6 * i,
      walk_range, ⟨(Nx.refl H).new hf0, f0, [], none, none, rfl, upd_same, .nil, hf0, Nat.le_refl _⟩, fun _ _ _ _ _ => trivial, ?_, ?_⟩
    · rintro i x σ H1 H' hi ⟨n1, f, ys, o, t, rfl, hf, hp, hfn, hlen⟩ ⟨rfl, hx⟩
      have hx' : x = .int (nat i) := by rw [hx]; simp [nat]
      subst hx'
      clear hx
      have hin : i < n := by simpa [nat] using hi
      refine ⟨_, rfl, _, rfl, _, _, rfl, rfl, _, rfl, _, _, rfl, ⟨by unfold nat; omega, by unfold nat; omega, by unfold nat; omega, by unfold nat; omega⟩, Int, Lot, IsI, IsL K, _, rgl (nat i + 1) (nat n - (nat i + 1)).toNat, fun _ => true, fun z => [nat i, z], src_rng, persI, ints_paired _, ?_, persL, fun z x H2 hz n2 r => ⟨TIs.yes, fun _ H3 n3 r3 C hC => ?_⟩, fun D zs H2 hD n2 hz hpz => ?_⟩
      · rw [rgl_len, sizeLine_eq]
        simp [nat]
        omega
      · cases r3
        exact ⟨_, rfl, _, rfl, by show 2 ≤ sizeLine; decide, fun p hp => hC _ _ ((Nx.refl H3).new hp) (IsL.of (l := [nat i, z]) (SqT.of upd_same))⟩
      · rw [keep_map, row_eq] at hpz
        have hzl : zs.length ≤ 6 := by rw [Paired.length hpz]; exact pairsRow_len h5
        refine ⟨f, D, ys, zs, rfl, rfl, n2.lst hf, hz, by rw [sizeLine_eq]; omega, fun p hpn => ?_⟩
        have n4 := n2.new (o := .lst (ys ++ zs)) hpn
        refine ⟨n1.trans n4, p, ys ++ zs, _, _, rfl, upd_same, ?_, n1.non _ (n2.non _ hpn), by rw [List.length_append]; omega⟩
        rw [List.range_succ, List.flatMap_append]
        simp only [List.flatMap_cons, List.flatMap_nil, List.append_nil]
        exact paired_app (persL.paired n4.tupN hp) (persL.paired ((Nx.refl (ts := TBs K) H2).new hpn).tupN hpz)
    · rintro σ H1 ⟨n1, f, ys, o, t, rfl, hf, hp, hfn, hlen⟩
      have en : (nat n).toNat = n := by simp [nat]
      rw [en] at hp
      exact ⟨_, rfl, q f ys H1 n1 hfn hf hp⟩
/-! ### need_two -/
theorem size_flat (g : Gr) : size g = g.flatten.length := by
  unfold size
  rw [List.length_flatten]
theorem okG_size {n : Nat} {g : Gr} (h : okG n g = true) : size g = n := by rw [size_flat, okG_len h]
def spTwo (K : PySem.W.Frag) : Sp := fun vs H Q _ => Tb (TBs K) H ∧ ∃ (n : Nat) (v u : V) (g k : Gr), vs = [v, u] ∧ IsG K H v g ∧ IsG K H u k ∧ n ≤ 6 ∧ okG n g = true ∧ okG n k = true ∧ ∀ H', Nx (TBs K) H H' → Q .non H'
theorem scTwo : FnScope ["one", "other"] ["one", "other"] (defScope (top 18)) := ⟨rfl, rfl, rfl, by decide +kernel, rfl, by decide +kernel, by decide +kernel⟩
theorem ok_need_two (T : Pg K mg base) : Fx P w K mg base 9 "need_two" ["one", "other"] (spTwo K) := by
  refine T.ok "need_two" 18 (by simp [fn]) scTwo (fun _ _ _ _ _ _ us hl => match us, hl with | [_, _], _ => rfl) (fun vs H Q E h => ?_) fun A outer s H vs Q E hr h => ?_
  · obtain ⟨_, n, v, u, g, k, rfl, _⟩ := h
    rfl
  · obtain ⟨tb, n, v, u, g, k, rfl, hg, hk, hn, og, ok, q⟩ := h
    refine ⟨_, pss_cons (ps_expr (pe_fx (ok_need_grouping T) hr (by rfl) (pa_cons (pv 0) pa_nil)))
      (pss_one (ps_if (PW.pt (pw_or (pt_not (pt_val (pe_fx (ok_is_grouping T) (hr.mono (by decide)) (by rfl) (pa_cons (pv 1) pa_nil))))
        (pw_or1 (pt_cmpR op_ne (pe_fx (ok_size_of T) (hr.mono (by decide)) (by rfl) (pa_cons (pv 1) pa_nil)) (pe_fx (ok_size_of T) (hr.mono (by decide)) (by rfl) (pa_cons (pv 0) pa_nil)) (nomark _)))))
        (pss_one ps_never) pss_nil)), ?_⟩
    refine ⟨_, rfl, tb, n, v, g, rfl, hg, hn, og, fun H1 n1 => ?_⟩
    refine ⟨_, rfl, tb.nx n1, n, u, k, rfl, persG.nx n1 hk, hn, ok, fun H2 n2 => ⟨true, rfl, ?_⟩⟩
    refine iteF ?_
    have n12 := n1.trans n2
    refine ⟨_, rfl, tb.nx n12, u, k, rfl, persG.nx n12 hk, by rw [okG_size ok]; omega, fun H3 n3 => ?_⟩
    have n13 := n12.trans n3
    refine ⟨_, rfl, tb.nx n13, v, g, rfl, persG.nx n13 hg, by rw [okG_size og]; omega, fun H4 n4 => ?_⟩
    rw [okG_size ok, okG_size og]
    refine ⟨rfl, _, rfl, ?_⟩
    exact iteNS rfl (q H4 (n13.trans n4))
/-! ### greatest_shares -/
open Classical in
/-- the greatest of a list, the least -/
noncomputable def topI (ns : List Int) : Int := if h : ∃ m, m ∈ ns ∧ ∀ y ∈ ns, y ≤ m then h.choose else 0
theorem top_is {ns : List Int} {m : Int} (h : m ∈ ns) (ub : ∀ y ∈ ns, y ≤ m) : m = topI ns := by
  have e : ∃ m, m ∈ ns ∧ ∀ y ∈ ns, y ≤ m := ⟨m, h, ub⟩
  unfold topI
  rw [dif_pos e]
  have q := e.choose_spec
  have h1 := ub _ q.1
  have h2 := q.2 _ h
  omega
noncomputable def gshares (s g : Gr) : List Int := s.map fun l => topI (g.map (share l))
theorem inV_ints (i : Int) (l : List Int) : inV (.int i) (l.map V.int) = l.contains i := by
  unfold inV
  rw [Bool.eq_iff_iff]
  simp [eqV]
def spShares (K : PySem.W.Frag) : Sp := fun vs H Q _ => ∃ (v u : V) (g k : Gr), vs = [v, u] ∧ IsG K H v g ∧ IsG K H u k ∧ k ≠ [] ∧ g.length ≤ 1000 ∧ k.length ≤ 1000 ∧ (∀ l ∈ g, l.length ≤ 1000) ∧
  ∀ p H', Nx (TBs K) H H' → H' p = some (.lst ((gshares g k).map V.int)) → Q (.ref p) H'
abbrev N19 : List Str := ["one", "other", "lot", "there", "person"]
theorem scShares : FnScope N19 ["one", "other"] (defScope (top 19)) := ⟨rfl, rfl, rfl, by decide +kernel, rfl, by decide +kernel, by decide +kernel⟩
theorem ok_greatest_shares (T : Pg K mg base) : Fx P w K mg base 1 "greatest_shares" ["one", "other"] (spShares K) := by
  refine T.ok "greatest_shares" 19 (by simp [fn]) scShares (fun _ _ _ _ _ _ us hl => match us, hl with | [_, _], _ => rfl) (fun vs H Q E h => ?_) fun A outer s H vs Q E hr h => ?_
  · obtain ⟨v, u, g, k, rfl, _⟩ := h
    rfl
  · obtain ⟨v, u, g, k, rfl, hg, hk, k1, g2, k2, gl, q⟩ := h
    refine ⟨_, pss_one (ps_ret (pe_lcU (TBs K) (x := "lot") (j := 2) rfl scShares.nd (pi_tup (pv 0)) (blkOk_by (by kernel_rfl)) (fun _ _ _ _ _ => pg_name (i := 2) scShares.nd rfl (.inr rfl) (.inl rfl)) (fun _ _ _ _ _ => pts_nil)
      (fun _ _ _ _ _ => pe_callB (k_max rfl) (by rfl) (T.fr "max") (by decide +kernel) (pa_cons (pe_lcU (TBs K) (x := "there") (j := 3) rfl scShares.nd (k_tup (pv 1)) (blkOk_by (by kernel_rfl)) (fun _ _ _ _ _ => pg_name (i := 3) scShares.nd rfl (.inr rfl) (.inl rfl)) (fun _ _ _ _ _ => pts_nil)
        (fun _ _ _ _ _ => pe_callB k_len (by rfl) (T.fr "len") PySem.boot_len (pa_cons (pe_lcU (TBs K) (x := "person") (j := 4) rfl scShares.nd (k_tup (pv 2)) (blkOk_by (by kernel_rfl)) (fun _ _ _ _ _ => pg_name (i := 4) scShares.nd rfl (.inl rfl) (.inr rfl)) (fun _ _ _ _ _ => pts_one (pt_cmpR k_in (pv 4) (pv 3) rfl))
          (fun _ _ _ _ _ => pv 4)) pa_nil))) pa_nil)))), ?_⟩
    obtain ⟨a, xs, rfl, sqa, pra⟩ := hg
    obtain ⟨b, ys, rfl, sqb, prb⟩ := hk
    refine ⟨_, rfl, a, rfl, ⟨_, sqa⟩, Lot, Int, IsL K, IsI, xs, g, fun _ => true, fun l => topI (k.map (share l)), src_tup sqa, persL, pra, by rw [sizeLine_eq]; omega, persI, fun l x H1 hl n1 r => ⟨TIs.yes, fun _ H2 n2 r2 C hC => ?_⟩, fun D ys H2 hD n2 hy hp => ?_⟩
    · obtain ⟨c, rfl, sqc⟩ := r2.sq
      refine ⟨_, rfl, b, rfl, ⟨_, n2.tupN.sq sqb⟩, Lot, Int, IsL K, IsI, ys, k, fun _ => true, share l, src_tup (n2.tupN.sq sqb), persL, persL.paired n2.tupN prb, by rw [sizeLine_eq]; omega, persI, fun m y H3 hm n3 r3 => ⟨TIs.yes, fun _ H4 n4 r4 C4 hC4 => ?_⟩, fun D2 zs H3 hD2 n3 hz hpz => ?_⟩
      · obtain ⟨d, rfl, sqd⟩ := r4.sq
        refine ⟨_, rfl, c, rfl, ⟨_, n4.tupN.sq sqc⟩, Int, Int, IsI, IsI, _, l, fun p => m.contains p, fun p => p, src_tup (n4.tupN.sq sqc), persI, ints_paired l, by have := gl l hl; rw [sizeLine_eq]; omega, persI, fun p z H5 hp5 n5 r5 => ⟨fun C5 hC5 => ?_, fun _ H6 n6 r6 C6 hC6 => ?_⟩, fun D3 ws H5 hD3 n5 hw hpw => ?_⟩
        · cases r5
          refine ⟨_, rfl, _, rfl, d, m.map V.int, rfl, .inr (n5.tupN.sq sqd), rfl, by simp [flatV], _, rfl, ?_⟩
          show C5 (if false = true then !inV _ _ else inV _ _) H5
          rw [if_neg (by simp), inV_ints]
          exact hC5 H5 (.refl _)
        · exact ⟨_, rfl, hC6 _ _ (.refl _) r6⟩
        · have e : ws.length = (l.filter fun p => m.contains p).length := by
            rw [Paired.length hpw, List.length_map]
          refine ⟨D3, ws, rfl, .inl (SqL.of hw), hC4 _ _ n5 ?_⟩
          show V.int _ = V.int (share l m)
          rw [e]
          rfl
      · rw [keep_map] at hpz
        have ez := paired_ints hpz
        subst ez
        refine ⟨D2, k.map (share l), rfl, SqL.of hz, by rw [List.length_map]; exact List.length_pos_iff.mpr k1, fun m hm hub => hC _ _ n3 ?_⟩
        show V.int m = V.int _
        rw [top_is hm hub]
    · rw [keep_map] at hp
      have ez := paired_ints hp
      subst ez
      exact q D H2 n2 hy
/-! ### steps_between -/
noncomputable def stepsB (s g : Gr) : Int := 2 * (nat (size s) - (gshares s g).sum) + nat s.length - nat g.length
def spSteps (K : PySem.W.Frag) : Sp := fun vs H Q _ => Tb (TBs K) H ∧ ∃ (n : Nat) (v u : V) (g k : Gr), vs = [v, u] ∧ IsG K H v g ∧ IsG K H u k ∧ n ≤ 6 ∧ okG n g = true ∧ okG n k = true ∧ ∀ H', Nx (TBs K) H H' → Q (.int (stepsB g k)) H'
theorem scStepsB : FnScope ["start", "goal"] ["start", "goal"] (defScope (top 21)) := ⟨rfl, rfl, rfl, by decide +kernel, rfl, by decide +kernel, by decide +kernel⟩
theorem ok_steps_between (T : Pg K mg base) : Fx P w K mg base 4 "steps_between" ["start", "goal"] (spSteps K) := by
  refine T.ok "steps_between" 21 (by simp [fn]) scStepsB (fun _ _ _ _ _ _ us hl => match us, hl with | [_, _], _ => rfl) (fun vs H Q E h => ?_) fun A outer s H vs Q E hr h => ?_
  · obtain ⟨_, n, v, u, g, k, rfl, _⟩ := h
    rfl
  · obtain ⟨tb, n, v, u, g, k, rfl, hg, hk, hn, og, ok, q⟩ := h
    refine ⟨_, pss_one (ps_ret (pe_op op_sub (pe_op op_add (pe_op op_mul pe_int (pe_op op_sub (pe_fx (ok_size_of T) hr (by rfl) (pa_cons (pv 0) pa_nil))
        (pe_callB (cr_sum rfl) (by rfl) (T.fr "sum") (by decide +kernel) (pa_cons (pe_fx (ok_greatest_shares T) (hr.mono (by decide)) (by rfl) (pa_cons (pv 0) (pa_cons (pv 1) pa_nil))) pa_nil))))
        (pe_callB k_len (by rfl) (T.fr "len") PySem.boot_len (pa_cons (pv 0) pa_nil))) (pe_callB k_len (by rfl) (T.fr "len") PySem.boot_len (pa_cons (pv 1) pa_nil)))), ?_⟩
    obtain ⟨a, xs, rfl, sqa, pra⟩ := id hg
    obtain ⟨b, ys, rfl, sqb, prb⟩ := id hk
    have cg := okG_cnt og
    have ck := okG_cnt ok
    refine ⟨_, rfl, tb, _, g, rfl, hg, by rw [okG_size og]; omega, fun H1 n1 => ?_⟩
    refine ⟨_, rfl, _, rfl, _, _, g, k, rfl, persG.nx n1 hg, persG.nx n1 hk, (okG_parts ok).1, by omega, by omega, fun l hl => by have := flat_le hl; have := okG_len og; omega, fun p H2 n2 hp => ?_⟩
    refine ⟨p, _, rfl, SqL.of hp, _, _, rfl, rfl, 2, _, rfl, rfl, .inl ⟨by decide, by decide⟩, ?_⟩
    have n12 := n1.trans n2
    refine ⟨_, rfl, a, xs, rfl, .inr (n12.tupN.sq sqa), _, _, rfl, rfl, ?_⟩
    refine ⟨_, rfl, b, ys, rfl, .inr (n12.tupN.sq sqb), _, _, rfl, rfl, ?_⟩
    have q2 := q H2 n12
    unfold stepsB at q2
    rw [show xs.length = g.length from Paired.length pra, show ys.length = k.length from Paired.length prb]
    exact q2
/-! ### distance -/
theorem scDist : FnScope ["start", "goal"] ["start", "goal"] (defScope (top 22)) := ⟨rfl, rfl, rfl, by decide +kernel, rfl, by decide +kernel, by decide +kernel⟩
theorem ok_distance (T : Pg K mg base) : Fx P w K mg base 10 "distance" ["start", "goal"] (spSteps K) := by
  refine T.ok "distance" 22 (by simp [fn]) scDist (fun _ _ _ _ _ _ us hl => match us, hl with | [_, _], _ => rfl) (fun vs H Q E h => ?_) fun A outer s H vs Q E hr h => ?_
  · obtain ⟨_, n, v, u, g, k, rfl, _⟩ := h
    rfl
  · obtain ⟨tb, n, v, u, g, k, rfl, hg, hk, hn, og, ok, q⟩ := h
    refine ⟨_, pss_cons (ps_expr (pe_fx (ok_need_two T) hr (by rfl) (pa_cons (pv 0) (pa_cons (pv 1) pa_nil)))) (pss_one (ps_ret (pe_fx (ok_steps_between T) (hr.mono (by decide)) (by rfl) (pa_cons (pv 0) (pa_cons (pv 1) pa_nil))))), ?_⟩
    refine ⟨_, rfl, _, rfl, tb, n, v, u, g, k, rfl, hg, hk, hn, og, ok, fun H1 n1 => ?_⟩
    exact ⟨_, rfl, _, rfl, tb.nx n1, n, v, u, g, k, rfl, persG.nx n1 hg, persG.nx n1 hk, hn, og, ok, fun H2 n2 => q H2 (n1.trans n2)⟩
end
end Tg
/-! are_pairs, need_told, is_together, fitting_of, need_sized, fitting_groupings, fitting_count. -/
namespace Tg
open PySem PySem.Spec PySem.W PyProof.Rows L2 GxR

/-- what is told of pairs of n people -/
def PairsOk (n : Nat) (J : List Lot) : Prop := (∀ p ∈ J, okP n p = true) ∧ ascL J = true ∧ J.length ≤ 1000
theorem okP_parts {n : Nat} {p : Lot} (h : okP n p = true) : ∃ a b : Int, p = [a, b] ∧ 0 ≤ a ∧ a < b ∧ b < nat n := by
  unfold okP at h
  split at h
  · rename_i a b
    simp only [Bool.and_eq_true, decide_eq_true_eq] at h
    exact ⟨a, b, rfl, h.1, h.2.1, h.2.2⟩
  · cases h
theorem okP_lot {n : Nat} {p : Lot} (h : okP n p = true) : LotOk (nat n) p ∧ p.length = 2 := by
  obtain ⟨a, b, rfl, h1, h2, h3⟩ := okP_parts h
  refine ⟨⟨by simp, fun x hx => ?_, by simp [ascI, h2]⟩, rfl⟩
  rcases List.mem_cons.mp hx with e | hx
  · omega
  · rw [List.mem_singleton.mp hx]
    omega
section
variable {P : Program} {w : World} {K : PySem.W.Frag} {mg : Str → Option Value} {base : Heap}
def spArePairs (K : PySem.W.Frag) : Sp := fun vs H Q _ => Tb (TBs K) H ∧ ∃ (n : Nat) (v : V) (J : List Lot), vs = [.int (nat n), v] ∧ IsG K H v J ∧ PairsOk n J ∧ ∀ H', Nx (TBs K) H H' → Q (.bl true) H'
abbrev N24 : List Str := ["size", "value", "one", "k"]
theorem scArePairs : FnScope N24 ["size", "value"] (defScope (top 24)) := ⟨rfl, rfl, rfl, by decide +kernel, rfl, by decide +kernel, by decide +kernel⟩
theorem ok_are_pairs (T : Pg K mg base) : Fx P w K mg base 8 "are_pairs" ["size", "value"] (spArePairs K) := by
  refine T.ok "are_pairs" 24 (by simp [fn]) scArePairs (fun _ _ _ _ _ _ us hl => match us, hl with | [_, _], _ => rfl) (fun vs H Q E h => ?_) fun A outer s H vs Q E hr h => ?_
  · obtain ⟨_, n, v, J, rfl, _⟩ := h
    rfl
  · obtain ⟨tb, n, v, J, rfl, hJ, ⟨j1, j2, j3⟩, q⟩ := h
    obtain ⟨a, xs, rfl, sq, pr⟩ := id hJ
    have hxl : xs.length = J.length := Paired.length pr
    have tP := tb _ (tb_mem (x := "are_pairs") (by decide +kernel))
    refine ⟨_, pss_cons (ps_if (PW.pt (pw_or (pt_not (pt_val (pe_callB k_isi (by rfl) (T.fr "isinstance") (by decide +kernel) (pa_cons (pv 1) (pa_cons (pe_bltn (v := .ty "tuple") (by rfl) (T.fr "tuple") (by decide +kernel) rfl) pa_nil)))))
        (pw_or1 (pt_not (pt_val (pe_all (TBs K) (x := "one") (j := 2) 5 rfl scArePairs.nd hr (by rfl) (T.fr "all") (T.tb "are_pairs") rfl (genOk_by (N := N24) (sc := defScope (top 24)) (by decide +kernel)) (pi_tup (pv 1))
          (fun _ _ _ _ _ _ _ _ => pg_name (i := 2) scArePairs.nd rfl (.inl rfl) (.inr rfl))
          (fun _ _ _ _ _ _ _ A' hrA => pe_and (pe_fx (ok_is_step T) hrA (by rfl) (pa_cons (pv 0) (pa_cons (pv 2) pa_nil))) (pe_one (pe_cmpR op_eq (pe_callB k_len (by rfl) (T.fr "len") PySem.boot_len (pa_cons (pv 2) pa_nil)) pe_int (nomark _))))))))))
        (pss_one (ps_ret pe_bl)) pss_nil)
      (pss_one (ps_ret (pe_all (TBs K) (x := "k") (j := 3) 1 rfl scArePairs.nd (hr.mono (by decide)) (by rfl) (T.fr "all") (T.tb "are_pairs") rfl (genOk_by (N := N24) (sc := defScope (top 24)) (by decide +kernel))
          (pi_range1 (by rfl) (T.fr "range") (pa_cons (pe_op op_sub (pe_callB k_len (by rfl) (T.fr "len") PySem.boot_len (pa_cons (pv 1) pa_nil)) pe_int) pa_nil))
          (fun _ _ _ _ _ _ _ _ => pg_name (i := 3) scArePairs.nd rfl (.inl rfl) (.inr rfl))
          (fun _ _ _ _ _ _ _ A' hrA => pe_cmpR (k_ltT hrA.units0) (pe_ix k_ixT (pv 1) (pv 3) fun _ _ => rfl) (pe_ix k_ixT (pv 1) (pe_op op_add (pv 3) pe_int) fun _ _ => rfl) (nomark _))))), ?_⟩
    refine ⟨_, rfl, _, _, _, _, true, rfl, .ty _, tyT sq, kit_ty (by decide +kernel), true, rfl, ?_⟩
    refine iteF ?_
    refine ⟨_, rfl, a, rfl, ⟨_, sq⟩, Lot, IsL K, _, J, fun _ => true, src_tup sq, persL, pr, tP, fun z x H' hz n' r C hC => ?_, fun H1 n1 => ?_⟩
    · obtain ⟨o1, o2⟩ := okP_lot (j1 z hz)
      obtain ⟨b, rfl, sqb⟩ := r.sq
      refine ⟨_, rfl, _, rfl, tb.nx n', nat n, _, z, rfl, r, by omega, o1, fun H3 n3 => ⟨true, rfl, ?_⟩⟩
      rw [if_pos rfl]
      refine ⟨_, rfl, b, _, rfl, .inr (n3.tupN.sq sqb), rfl, hC _ _ n3 (congrArg V.bl ?_)⟩
      rw [List.length_map, o2]
      exact decide_eq_true rfl
    refine ⟨true, by simp, ?_⟩
    refine iteF ?_
    refine ⟨_, rfl, _, _, rfl, .inr (n1.tupN.sq sq), _, _, rfl, rfl, ?_⟩
    rw [hxl]
    refine ⟨_, rfl, by omega, by omega, Int, IsI, _, _, fun _ => true, src_rng, persI, ints_paired _, n1.tab _ (tb_mem (x := "are_pairs") (by decide +kernel)) tP, fun z x H3 hz n4 r C hC => ?_, fun H3 n4 => ?_⟩
    · cases r
      obtain ⟨k, hk, rfl⟩ := rg0_mem hz
      have hk2 : k + 1 < J.length := by omega
      have n5 := n1.trans n4
      have sq2 := n5.tupN.sq sq
      have pr2 := persL.paired n5.tupN pr
      obtain ⟨x1, e1, r1⟩ := at_paired (d := []) pr2 (show k < J.length by omega)
      obtain ⟨x2, e2, r2⟩ := at_paired (d := []) pr2 hk2
      obtain ⟨b1, rfl, s1⟩ := r1.sq
      obtain ⟨b2, rfl, s2⟩ := r2.sq
      refine ⟨_, rfl, _, rfl, _, _, _, _, rfl, rfl, sq2, atI_nat e1, _, rfl, _, rfl, _, _, rfl, rfl, _, _, _, _, rfl, rfl, sq2, atI_succ e2, _, _, _, _, rfl, rfl, s1, s2, ?_⟩
      refine hC _ _ (.refl _) (congrArg V.bl ?_)
      rw [lexLt_ltL]
      exact ascL_at J j2 k hk2
    · have e : ((rgl 0 ((J.length : Int) - 1).toNat).all fun _ => true) = true := by simp
      show Q (.bl _) H3
      rw [e]
      exact q H3 (n1.trans n4)
/-! ### need_told -/
def spTold (K : PySem.W.Frag) : Sp := fun vs H Q _ => Tb (TBs K) H ∧ ∃ (n : Nat) (v : V) (J A : List Lot), vs = [.int (nat n), v] ∧ IsGs K H v [J, A] ∧ PairsOk n J ∧ PairsOk n A ∧ ∀ H', Nx (TBs K) H H' → Q .non H'
abbrev N25 : List Str := ["size", "told", "index", "part"]
theorem scTold : FnScope N25 ["size", "told"] (defScope (top 25)) := ⟨rfl, rfl, rfl, by decide +kernel, rfl, by decide +kernel, by decide +kernel⟩
theorem ok_need_told (T : Pg K mg base) : Fx P w K mg base 9 "need_told" ["size", "told"] (spTold K) := by
  refine T.ok "need_told" 25 (by simp [fn]) scTold (fun _ _ _ _ _ _ us hl => match us, hl with | [_, _], _ => rfl) (fun vs H Q E h => ?_) fun A outer s H vs Q E hr h => ?_
  · obtain ⟨_, n, v, J, A, rfl, _⟩ := h
    rfl
  · obtain ⟨tb, n, v, J, A, rfl, hT, hJ, hA, q⟩ := h
    obtain ⟨a, xs, rfl, sq, pr⟩ := id hT
    have hxl : xs.length = 2 := Paired.length pr
    have tP := tb _ (tb_mem (x := "need_told") (by decide +kernel))
    refine ⟨_, pss_cons (ps_if (PW.pt (pw_or (pt_not (pt_val (pe_callB k_isi (by rfl) (T.fr "isinstance") (by decide +kernel) (pa_cons (pv 1) (pa_cons (pe_bltn (v := .ty "tuple") (by rfl) (T.fr "tuple") (by decide +kernel) rfl) pa_nil)))))
        (pw_or (pt_cmpR op_ne (pe_callB k_len (by rfl) (T.fr "len") PySem.boot_len (pa_cons (pv 1) pa_nil)) pe_int (nomark _))
        (pw_or1 (pt_not (pt_val (pe_all (TBs K) (x := "part") (j := 3) 5 rfl scTold.nd (hr.mono (by decide)) (by rfl) (T.fr "all") (T.tb "need_told") rfl (genOk_by (N := N25) (sc := defScope (top 25)) (by decide +kernel)) (pi_tup (pv 1))
          (fun _ _ _ _ _ _ _ _ => pg_name (i := 3) scTold.nd rfl (.inl rfl) (.inr rfl))
          (fun _ _ _ _ _ _ _ A' hrA => pe_callB k_isi (by rfl) (T.fr "isinstance") (by decide +kernel) (pa_cons (pv 3) (pa_cons (pe_bltn (v := .ty "tuple") (by rfl) (T.fr "tuple") (by decide +kernel) rfl) pa_nil))))))))))
        (pss_one ps_never) pss_nil)
      (pss_one (ps_forS PassesOwn.never rfl (pi_enumT (by rfl) (T.fr "enumerate") (pa_cons (pv 1) pa_nil)) (pg_tup rfl (pgs_cons (pg_name (i := 2) scTold.nd rfl (.inl rfl)) (pgs_cons (pg_name (i := 3) scTold.nd rfl (.inl rfl)) pgs_nil)))
        (pss_one (ps_if (pt_not (pt_val (pe_fx (ok_are_pairs T) hr (by rfl) (pa_cons (pv 0) (pa_cons (pv 3) pa_nil))))) (pss_one ps_never) pss_nil)))), ?_⟩
    refine ⟨_, rfl, _, _, _, _, true, rfl, .ty _, tyT sq, kit_ty (by decide +kernel), true, rfl, ?_⟩
    refine iteF ?_
    refine ⟨_, rfl, a, xs, rfl, .inr sq, rfl, _, rfl, ?_⟩
    rw [hxl]
    refine iteNS rfl ?_
    refine ⟨_, rfl, a, rfl, ⟨_, sq⟩, List Lot, IsG K, _, [J, A], fun _ => true, src_tup sq, persG, pr, tP, fun z x H' hz n' r C hC => ?_, fun H1 n1 => ?_⟩
    · obtain ⟨b, ys, rfl, sqb, _⟩ := r
      exact ⟨_, rfl, _, _, _, _, true, rfl, .ty _, tyT sqb, kit_ty (by decide +kernel), hC _ _ (.refl _) rfl⟩
    refine ⟨true, by simp, ?_⟩
    refine iteF ?_
    refine ⟨_, rfl, a, xs, rfl, n1.tupN.sq sq, xs.length, _, _, fun i σ H' => Nx (TBs K) H H' ∧ ∃ o t, σ = [some (.int (nat n)), some (.ref a), o, t], walk_enumT, ⟨n1, none, none, rfl⟩, fun i σ H' _ h => h.1.tupN.sq sq, ?_, ?_⟩
    · rintro i x σ H2 H3 hi ⟨n2, o, t, rfl⟩ ⟨T', x1, y1, rfl, hT', rfl, h4, h5⟩
      cases h4
      obtain ⟨z, hz, r⟩ := paired_get pr h5
      have n3 := n2.new (o := .tup [.int (i : Nat), y1]) hT'
      refine ⟨T', _, rfl, SqT.of upd_same, rfl, _, _, rfl, _, _, rfl, rfl, ?_⟩
      have hz2 : PairsOk n z := by
        rcases List.mem_cons.mp (List.mem_of_getElem? hz) with e | e
        · rw [e]; exact hJ
        · rw [List.mem_singleton.mp e]; exact hA
      exact ⟨_, rfl, _, rfl, tb.nx n3, n, _, z, rfl, persG.nx n3 r, hz2, fun H4 n4 => ⟨true, rfl, n3.trans n4, _, _, rfl⟩⟩
    · rintro σ H2 ⟨n2, o, t, rfl⟩
      exact q H2 n2
end
end Tg
/-! is_together, fitting_of, need_sized, fitting_groupings, fitting_count. -/
namespace Tg
open PySem PySem.Spec PySem.W PyProof.Rows L2 GxR

section
variable {P : Program} {w : World} {K : PySem.W.Frag} {mg : Str → Option Value} {base : Heap}
def spTog (K : PySem.W.Frag) : Sp := fun vs H Q _ => Tb (TBs K) H ∧ ∃ (v u : V) (g : Gr) (p : Lot), vs = [v, u] ∧ IsG K H v g ∧ IsL K H u p ∧ p.length = 2 ∧ ∀ H', Nx (TBs K) H H' → Q (.bl (together g p)) H'
abbrev N26 : List Str := ["grouping", "pair", "lot"]
theorem scTog : FnScope N26 ["grouping", "pair"] (defScope (top 26)) := ⟨rfl, rfl, rfl, by decide +kernel, rfl, by decide +kernel, by decide +kernel⟩
theorem ok_is_together (T : Pg K mg base) : Fx P w K mg base 3 "is_together" ["grouping", "pair"] (spTog K) := by
  refine T.ok "is_together" 26 (by simp [fn]) scTog (fun _ _ _ _ _ _ us hl => match us, hl with | [_, _], _ => rfl) (fun vs H Q E h => ?_) fun A outer s H vs Q E hr h => ?_
  · obtain ⟨_, v, u, g, p, rfl, _⟩ := h
    rfl
  · obtain ⟨tb, v, u, g, p, rfl, hg, hp, hp2, q⟩ := h
    obtain ⟨x0, x1, rfl⟩ : ∃ x0 x1 : Int, p = [x0, x1] := by
      match p, hp2 with
      | [a, b], _ => exact ⟨a, b, rfl⟩
    have tP := tb _ (tb_mem (x := "is_together") (by decide +kernel))
    refine ⟨_, pss_one (ps_ret (pe_any (TBs K) (x := "lot") (j := 2) 0 rfl scTog.nd hr (by rfl) (T.fr "any") (T.tb "is_together") rfl (genOk_by (N := N26) (sc := defScope (top 26)) (by decide +kernel)) (pi_tup (pv 0))
          (fun _ _ _ _ _ _ _ _ => pg_name (i := 2) scTog.nd rfl (.inl rfl) (.inr rfl))
          (fun _ _ _ _ _ _ _ A' hrA => pe_and (pe_cmpR k_in (pe_ix k_ixT (pv 1) pe_int fun _ _ => rfl) (pv 2) rfl) (pe_one (pe_cmpR k_in (pe_ix k_ixT (pv 1) pe_int fun _ _ => rfl) (pv 2) rfl))))), ?_⟩
    obtain ⟨a, xs, rfl, sqa, pra⟩ := hg
    obtain ⟨b, rfl, sqb⟩ := hp.sq
    refine ⟨_, rfl, a, rfl, ⟨_, sqa⟩, Lot, IsL K, xs, g, fun l => l.contains x0 && l.contains x1, src_tup sqa, persL, pra, tP, fun l x H1 hl n1 r C hC => ?_, fun H1 n1 => q H1 n1⟩
    obtain ⟨c, rfl, sqc⟩ := r.sq
    have sq1 := n1.tupN.sq sqb
    refine ⟨_, rfl, _, _, _, _, rfl, rfl, sq1, atI_nat (j := 0) rfl, _, rfl, c, _, rfl, .inr sqc, rfl, by simp [flatV], ?_⟩
    have e0 : ∀ i : Int, (if false = true then !inV (.int i) (l.map V.int) else inV (.int i) (l.map V.int)) = l.contains i := fun i => by rw [if_neg (by simp), inV_ints]
    refine ⟨l.contains x0, congrArg V.bl (e0 x0), ?_⟩
    cases h0 : l.contains x0 with
    | false =>
      rw [if_neg (by simp)]
      refine hC _ _ (.refl _) ?_
      show V.bl false = V.bl (l.contains x0 && l.contains x1)
      rw [h0]
      rfl
    | true =>
      rw [if_pos rfl]
      refine ⟨_, rfl, _, _, _, _, rfl, rfl, sq1, atI_nat (j := 1) rfl, _, rfl, c, _, rfl, .inr sqc, rfl, by simp [flatV], ?_⟩
      refine hC _ _ (.refl _) ?_
      show V.bl _ = V.bl (l.contains x0 && l.contains x1)
      rw [h0, Bool.true_and]
      exact congrArg V.bl (e0 x1)
/-! ### fitting_of -/
def spFit (K : PySem.W.Frag) : Sp := fun vs H Q _ => Tb (TBs K) H ∧ ∃ (n : Nat) (v : V) (J A : List Lot), vs = [.int (nat n), v] ∧ 1 ≤ n ∧ n ≤ 5 ∧ IsGs K H v [J, A] ∧ (∀ p ∈ J, p.length = 2) ∧ (∀ p ∈ A, p.length = 2) ∧
  ∀ p ys H', Nx (TBs K) H H' → H p = none → H' p = some (.lst ys) → Paired (IsG K H') ys (fit n J A) → Q (.ref p) H'
abbrev N27 : List Str := ["size", "told", "found", "one", "pair"]
theorem scFit : FnScope N27 ["size", "told"] (defScope (top 27)) := ⟨rfl, rfl, rfl, by decide +kernel, rfl, by decide +kernel, by decide +kernel⟩
theorem AG_len {n : Nat} (h : n ≤ 5) : (AG n).length ≤ 52 := by
  rw [AG, (isort_perm ltG (rawG n)).length_eq]
  exact rawG_len h
theorem fit_len {n : Nat} {J A : List Lot} (h : n ≤ 5) : (fit n J A).length ≤ 52 := Nat.le_trans (List.length_filter_le _ _) (AG_len h)
theorem ok_fitting_of (T : Pg K mg base) : Fx P w K mg base 6 "fitting_of" ["size", "told"] (spFit K) := by
  refine T.ok "fitting_of" 27 (by simp [fn]) scFit (fun _ _ _ _ _ _ us hl => match us, hl with | [_, _], _ => rfl) (fun vs H Q E h => ?_) fun A outer s H vs Q E hr h => ?_
  · obtain ⟨_, n, v, J, A, rfl, _⟩ := h
    rfl
  · obtain ⟨tb, n, v, J, A, rfl, h1, h5, hT, hJ, hA, q⟩ := h
    obtain ⟨a, xs, rfl, sq, pr⟩ := id hT
    obtain ⟨xj, xa, rfl, rj, ra⟩ : ∃ xj xa, xs = [xj, xa] ∧ IsG K H xj J ∧ IsG K H xa A := by
      cases pr with
      | cons r1 t =>
        cases t with
        | cons r2 t =>
          cases t
          exact ⟨_, _, rfl, r1, r2⟩
    refine ⟨_, pss_cons (ps_set (i := 2) scFit.nd rfl (.inl rfl) (pe_lst pa_nil))
      (pss_cons (ps_forS PassesOwn.never rfl (pi_list (pe_fx (ok_all_groupings T) (hr.mono (by decide)) (by rfl) (pa_cons (pv 0) pa_nil))) (pg_name (i := 3) scFit.nd rfl (.inr rfl))
        (pss_one (ps_if (PW.pt (pw_and (pt_val (pe_all (TBs K) (x := "pair") (j := 4) 3 rfl scFit.nd hr (by rfl) (T.fr "all") (T.tb "fitting_of") rfl (genOk_by (N := N27) (sc := defScope (top 27)) (by decide +kernel)) (pi_tup (pe_ix k_ixT (pv 1) pe_int fun _ _ => rfl))
            (fun _ _ _ _ _ _ _ _ => pg_name (i := 4) scFit.nd rfl (.inl rfl) (.inr rfl))
            (fun _ _ _ _ _ _ _ A' hrA => pe_fx (ok_is_together T) hrA (by rfl) (pa_cons (pv 3) (pa_cons (pv 4) pa_nil)))))
          (pw_and1 (pt_not (pt_val (pe_any (TBs K) (x := "pair") (j := 4) 3 rfl scFit.nd hr (by rfl) (T.fr "any") (T.tb "fitting_of") rfl (genOk_by (N := N27) (sc := defScope (top 27)) (by decide +kernel)) (pi_tup (pe_ix k_ixT (pv 1) pe_int fun _ _ => rfl))
            (fun _ _ _ _ _ _ _ _ => pg_name (i := 4) scFit.nd rfl (.inl rfl) (.inr rfl))
            (fun _ _ _ _ _ _ _ A' hrA => pe_fx (ok_is_together T) hrA (by rfl) (pa_cons (pv 3) (pa_cons (pv 4) pa_nil)))))))))
          (pss_one (ps_expr (pe_bm PySem.F.plainAttrs_list PySem.F.slot_list_append PySem.F.type_list_append mt_append (pv 2) (pa_cons (pv 3) pa_nil)))) pss_nil)))
      (pss_one (ps_ret (pv 2)))), ?_⟩
    refine ⟨Nat.zero_le _, fun f hf => ?_⟩
    have n0 : Nx (TBs K) H (upd H f (.lst [])) := (Nx.refl H).new hf
    refine ⟨_, rfl, n, rfl, h1, h5, fun p ys H1 n1 hpn hp hpp => ?_⟩
    have hpf : f ≠ p := ne_of_none (o := .lst []) upd_same hpn
    refine ⟨p, rfl, ⟨_, SqL.of hp⟩, ys.length, _, _, fun i σ H' => Nx (TBs K) H H' ∧ H' p = some (.lst ys) ∧ Paired (IsG K H') ys (AG n) ∧ ∃ acc o, σ = [some (.int (nat n)), some (.ref a), some (.ref f), o, none] ∧ H' f = some (.lst acc) ∧
        Paired (IsG K H') acc (((AG n).take i).filter fun g => J.all (together g) && !(A.any (together g))),
      walk_list, ⟨n0.trans n1, hp, hpp, [], none, rfl, n1.lst upd_same, .nil⟩, fun i σ H' _ h => SqL.of h.2.1, ?_, ?_⟩
    · rintro i x σ H2 H2' hi ⟨n2, hp2, hpp2, acc, o, rfl, hf2, hacc⟩ ⟨rfl, hx⟩
      obtain ⟨g, hg, r⟩ := paired_get hpp2 hx
      have tk : (AG n).take (i + 1) = (AG n).take i ++ [g] := by
        rw [List.take_succ, hg]
        rfl
      have hal : acc.length ≤ 52 := by
        rw [Paired.length hacc]
        exact Nat.le_trans (List.length_filter_le _ _) (Nat.le_trans (List.length_take_le' _ _) (AG_len h5))
      have tP2 := (tb.nx n2) _ (tb_mem (x := "fitting_of") (by decide +kernel))
      have rj2 := persG.nx n2 rj
      obtain ⟨bj, vj, rfl, sqj, prj⟩ := id rj2
      refine ⟨_, rfl, a, [.ref bj, xa], _, _, rfl, rfl, n2.tupN.sq sq, atI_nat (j := 0) rfl, bj, rfl, ⟨_, sqj⟩, Lot, IsL K, vj, J, together g, src_tup sqj, persL, prj, tP2, fun z y H3 hz n3 r3 C hC => ?_, fun H3 n3 => ?_⟩
      · exact ⟨_, rfl, _, rfl, (tb.nx n2).nx n3, x, y, g, z, rfl, persG.nx n3 r, r3, hJ z hz, fun H4 n4 => hC _ _ n4 rfl⟩
      have n23 := n2.trans n3
      refine ⟨J.all (together g), rfl, ?_⟩
      have done : ∀ H4, Nx (TBs K) H2' H4 → (J.all (together g) && !(A.any (together g))) = false → Nx (TBs K) H H4 ∧ H4 p = some (.lst ys) ∧ Paired (IsG K H4) ys (AG n) ∧ ∃ acc o, [some (.int (nat n)), some (.ref a), some (.ref f), some x, none] = [some (.int (nat n)), some (.ref a), some (.ref f), o, none] ∧ H4 f = some (.lst acc) ∧
          Paired (IsG K H4) acc (((AG n).take (i + 1)).filter fun g => J.all (together g) && !(A.any (together g))) := fun H4 n4 hb => by
        refine ⟨n2.trans n4, n4.lst hp2, persG.paired n4.tupN hpp2, acc, _, rfl, n4.lst hf2, ?_⟩
        rw [tk, List.filter_append]
        simp only [List.filter_cons, hb, Bool.false_eq_true, if_false, List.filter_nil, List.append_nil]
        exact persG.paired n4.tupN hacc
      cases hja : J.all (together g) with
      | false =>
        refine iteF (iteF ?_)
        exact done H3 n3 (by rw [hja]; rfl)
      | true =>
        refine iteT ?_
        have ra3 := persG.nx n23 ra
        obtain ⟨ba, va, rfl, sqa2, pra2⟩ := id ra3
        refine ⟨_, rfl, a, [.ref bj, .ref ba], _, _, rfl, rfl, n23.tupN.sq sq, atI_nat (j := 1) rfl, ba, rfl, ⟨_, sqa2⟩, Lot, IsL K, va, A, together g, src_tup sqa2, persL, pra2, n3.tab _ (tb_mem (x := "fitting_of") (by decide +kernel)) tP2, fun z y H4 hz n4 r4 C hC => ?_, fun H4 n4 => ?_⟩
        · exact ⟨_, rfl, _, rfl, (tb.nx n23).nx n4, x, y, g, z, rfl, persG.nx (n3.trans n4) r, r4, hA z hz, fun H5 n5 => hC _ _ n5 rfl⟩
        refine ⟨A.any (together g), rfl, ?_⟩
        cases haa : A.any (together g) with
        | true =>
          refine iteF ?_
          exact done H4 (n3.trans n4) (by rw [hja, haa]; rfl)
        | false =>
          refine iteT ?_
          have n34 := n3.trans n4
          have hf4 := n34.lst hf2
          have tw := TupN.lst (ys := acc ++ [x]) hf4
          refine ⟨_, rfl, .inl ⟨rfl, _, SqL.of hf4⟩, _, rfl, f, acc, x, rfl, rfl, hf4, by rw [sizeLine_eq]; omega, ?_⟩
          refine ⟨(n2.trans n34).upd hf, by rw [upd_ne (Ne.symm hpf)]; exact n34.lst hp2, persG.paired (n34.tupN.trans tw) hpp2, acc ++ [x], _, rfl, upd_same, ?_⟩
          rw [tk, List.filter_append]
          simp only [List.filter_cons, hja, haa, Bool.not_false, Bool.and_self, if_true, List.filter_nil]
          exact paired_app (persG.paired (n34.tupN.trans tw) hacc) (.cons (persG _ _ _ _ (n34.tupN.trans tw) r) .nil)
    · rintro σ H2 ⟨n2, hp2, hpp2, acc, o, rfl, hf2, hacc⟩
      rw [show ys.length = (AG n).length from Paired.length hpp2, List.take_length] at hacc
      exact ⟨_, rfl, q f acc H2 n2 hf hf2 hacc⟩
end
end Tg
/-! need_sized, fitting_groupings, fitting_count, sure_pairs, least_lots, nearest_fitting. -/
namespace Tg
open PySem PySem.Spec PySem.W PyProof.Rows L2 GxR

def ToldOk (n : Nat) (J A : List Lot) : Prop := 1 ≤ n ∧ n ≤ 5 ∧ PairsOk n J ∧ PairsOk n A
theorem PairsOk.two {n : Nat} {J : List Lot} (h : PairsOk n J) : ∀ p ∈ J, p.length = 2 := fun p hp => (okP_lot (h.1 p hp)).2
open Classical in
/-- the first of the least -/
noncomputable def lowI (ns : List Int) : Int := if h : ∃ m, m ∈ ns ∧ ∀ y ∈ ns, m ≤ y then h.choose else 0
theorem low_is {ns : List Int} {m : Int} (h : m ∈ ns) (lb : ∀ y ∈ ns, m ≤ y) : m = lowI ns := by
  have e : ∃ m, m ∈ ns ∧ ∀ y ∈ ns, m ≤ y := ⟨m, h, lb⟩
  unfold lowI
  rw [dif_pos e]
  have q := e.choose_spec
  have h1 := lb _ q.1
  have h2 := q.2 _ h
  omega
def sureJ (n : Nat) (J A : List Lot) : List Lot := (pairsOf n).filter fun p => (fit n J A).all fun g => together g p
def sureA (n : Nat) (J A : List Lot) : List Lot := (pairsOf n).filter fun p => !((fit n J A).any fun g => together g p)
theorem pairsOf_two {n : Nat} : ∀ p ∈ pairsOf n, p.length = 2 := by
  intro p hp
  simp only [pairsOf, List.mem_flatMap, pairsRow, List.mem_map] at hp
  obtain ⟨i, _, j, _, rfl⟩ := hp
  rfl
theorem pairsOf_len {n : Nat} (h : n ≤ 5) : (pairsOf n).length ≤ 10 := by
  rcases (by omega : n = 0 ∨ n = 1 ∨ n = 2 ∨ n = 3 ∨ n = 4 ∨ n = 5) with rfl | rfl | rfl | rfl | rfl | rfl <;> decide +kernel
theorem empty_of {R : V → Gr → Prop} {ys : List V} {zs : List Gr} (p : Paired R ys zs) : ys.isEmpty = zs.isEmpty := by
  cases p <;> rfl
section
variable {P : Program} {w : World} {K : PySem.W.Frag} {mg : Str → Option Value} {base : Heap}
def spSized (K : PySem.W.Frag) : Sp := fun vs H Q _ => Tb (TBs K) H ∧ ∃ (n : Nat) (v : V) (J B : List Lot), vs = [.int (nat n), v] ∧ IsGs K H v [J, B] ∧ ToldOk n J B ∧ ∀ H', Nx (TBs K) H H' → Q .non H'
theorem scSized : FnScope ["size", "told"] ["size", "told"] (defScope (top 28)) := ⟨rfl, rfl, rfl, by decide +kernel, rfl, by decide +kernel, by decide +kernel⟩
theorem ok_need_sized (T : Pg K mg base) : Fx P w K mg base 10 "need_sized" ["size", "told"] (spSized K) := by
  refine T.ok "need_sized" 28 (by simp [fn]) scSized (fun _ _ _ _ _ _ us hl => match us, hl with | [_, _], _ => rfl) (fun vs H Q E h => ?_) fun A outer s H vs Q E hr h => ?_
  · obtain ⟨_, n, v, J, B, rfl, _⟩ := h
    rfl
  · obtain ⟨tb, n, v, J, B, rfl, hT, ⟨h1, h5, hJ, hB⟩, q⟩ := h
    refine ⟨_, pss_cons (ps_expr (pe_fx (ok_need_size T) (hr.mono (by decide)) (by rfl) (pa_cons (pv 0) pa_nil))) (pss_one (ps_expr (pe_fx (ok_need_told T) hr (by rfl) (pa_cons (pv 0) (pa_cons (pv 1) pa_nil))))), ?_⟩
    exact ⟨_, rfl, nat n, rfl, by unfold nat; omega, by unfold nat; omega, _, rfl, _, rfl, tb, n, v, J, B, rfl, hT, hJ, hB, fun H' n' => q H' n'⟩
/-! ### fitting_groupings -/
def spFits (K : PySem.W.Frag) : Sp := fun vs H Q _ => Tb (TBs K) H ∧ ∃ (n : Nat) (v : V) (J B : List Lot), vs = [.int (nat n), v] ∧ IsGs K H v [J, B] ∧ ToldOk n J B ∧ ∀ u H', Nx (TBs K) H H' → IsGs K H' u (fit n J B) → Q u H'
theorem scFits : FnScope ["size", "told"] ["size", "told"] (defScope (top 29)) := ⟨rfl, rfl, rfl, by decide +kernel, rfl, by decide +kernel, by decide +kernel⟩
theorem ok_fitting_groupings (T : Pg K mg base) : Fx P w K mg base 11 "fitting_groupings" ["size", "told"] (spFits K) := by
  refine T.ok "fitting_groupings" 29 (by simp [fn]) scFits (fun _ _ _ _ _ _ us hl => match us, hl with | [_, _], _ => rfl) (fun vs H Q E h => ?_) fun A outer s H vs Q E hr h => ?_
  · obtain ⟨_, n, v, J, B, rfl, _⟩ := h
    rfl
  · obtain ⟨tb, n, v, J, B, rfl, hT, ok, q⟩ := h
    refine ⟨_, pss_cons (ps_expr (pe_fx (ok_need_sized T) hr (by rfl) (pa_cons (pv 0) (pa_cons (pv 1) pa_nil)))) (pss_one (ps_ret (pe_callTy call_tuple_of (by rfl) (T.fr "tuple") (by decide +kernel) (pa_cons (pe_fx (ok_fitting_of T) (hr.mono (by decide)) (by rfl) (pa_cons (pv 0) (pa_cons (pv 1) pa_nil))) pa_nil)))), ?_⟩
    refine ⟨_, rfl, _, rfl, tb, n, v, J, B, rfl, hT, ok, fun H1 n1 => ?_⟩
    refine ⟨_, rfl, _, rfl, tb.nx n1, n, v, J, B, rfl, ok.1, ok.2.1, persGs.nx n1 hT, ok.2.2.1.two, ok.2.2.2.two, fun p ys H2 n2 hpn hp hpp => ?_⟩
    refine ⟨p, ys, rfl, .inl ⟨SqL.of hp, fun l hl => ?_⟩⟩
    have n3 := n2.new (o := .tup ys) hl
    exact q _ _ (n1.trans n3) ⟨l, ys, rfl, SqT.of upd_same, persG.paired ((Nx.refl (ts := TBs K) H2).new hl).tupN hpp⟩
/-! ### fitting_count -/
def spCount (K : PySem.W.Frag) : Sp := fun vs H Q _ => Tb (TBs K) H ∧ ∃ (n : Nat) (v : V) (J B : List Lot), vs = [.int (nat n), v] ∧ IsGs K H v [J, B] ∧ ToldOk n J B ∧ ∀ H', Nx (TBs K) H H' → Q (.int (nat (fit n J B).length)) H'
theorem scCount : FnScope ["size", "told"] ["size", "told"] (defScope (top 30)) := ⟨rfl, rfl, rfl, by decide +kernel, rfl, by decide +kernel, by decide +kernel⟩
theorem ok_fitting_count (T : Pg K mg base) : Fx P w K mg base 11 "fitting_count" ["size", "told"] (spCount K) := by
  refine T.ok "fitting_count" 30 (by simp [fn]) scCount (fun _ _ _ _ _ _ us hl => match us, hl with | [_, _], _ => rfl) (fun vs H Q E h => ?_) fun A outer s H vs Q E hr h => ?_
  · obtain ⟨_, n, v, J, B, rfl, _⟩ := h
    rfl
  · obtain ⟨tb, n, v, J, B, rfl, hT, ok, q⟩ := h
    refine ⟨_, pss_cons (ps_expr (pe_fx (ok_need_sized T) hr (by rfl) (pa_cons (pv 0) (pa_cons (pv 1) pa_nil)))) (pss_one (ps_ret (pe_callB k_len (by rfl) (T.fr "len") PySem.boot_len (pa_cons (pe_fx (ok_fitting_of T) (hr.mono (by decide)) (by rfl) (pa_cons (pv 0) (pa_cons (pv 1) pa_nil))) pa_nil)))), ?_⟩
    refine ⟨_, rfl, _, rfl, tb, n, v, J, B, rfl, hT, ok, fun H1 n1 => ?_⟩
    refine ⟨_, rfl, _, rfl, tb.nx n1, n, v, J, B, rfl, ok.1, ok.2.1, persGs.nx n1 hT, ok.2.2.1.two, ok.2.2.2.two, fun p ys H2 n2 hpn hp hpp => ?_⟩
    refine ⟨p, ys, rfl, .inl (SqL.of hp), ?_⟩
    rw [Paired.length hpp]
    exact q H2 (n1.trans n2)
/-! ### sure_pairs -/
def spSure (K : PySem.W.Frag) : Sp := fun vs H Q _ => Tb (TBs K) H ∧ ∃ (n : Nat) (v : V) (J B : List Lot), vs = [.int (nat n), v] ∧ IsGs K H v [J, B] ∧ ToldOk n J B ∧ (fit n J B = [] → ∀ H', Nx (TBs K) H H' → Q .non H') ∧
  (fit n J B ≠ [] → ∀ u H', Nx (TBs K) H H' → IsGs K H' u [sureJ n J B, sureA n J B] → Q u H')
abbrev N31 : List Str := ["size", "told", "some", "joined", "pair", "one"]
theorem scSure : FnScope N31 ["size", "told"] (defScope (top 31)) := ⟨rfl, rfl, rfl, by decide +kernel, rfl, by decide +kernel, by decide +kernel⟩
theorem ok_sure_pairs (T : Pg K mg base) : Fx P w K mg base 11 "sure_pairs" ["size", "told"] (spSure K) := by
  refine T.ok "sure_pairs" 31 (by simp [fn]) scSure (fun _ _ _ _ _ _ us hl => match us, hl with | [_, _], _ => rfl) (fun vs H Q E h => ?_) fun A outer s H vs Q E hr h => ?_
  · obtain ⟨_, n, v, J, B, rfl, _⟩ := h
    rfl
  · obtain ⟨tb, n, v, J, B, rfl, hT, ok, q0, q1⟩ := h
    have hr5 : Room 5 (cxD P w K mg base N31 "sure_pairs" 31 A outer s H E).A := hr.mono (by decide)
    refine ⟨_, pss_cons (ps_expr (pe_fx (ok_need_sized T) hr (by rfl) (pa_cons (pv 0) (pa_cons (pv 1) pa_nil))))
      (pss_cons (ps_set (i := 2) scSure.nd rfl (.inr rfl) (pe_fx (ok_fitting_of T) (hr.mono (by decide)) (by rfl) (pa_cons (pv 0) (pa_cons (pv 1) pa_nil))))
      (pss_cons (ps_if (pt_not (pt_truth (pv 2) (by intro _; rfl))) (pss_one (ps_ret pe_non)) pss_nil)
      (pss_cons (ps_set (i := 3) scSure.nd rfl (.inl rfl) (pe_callTy call_tuple_of (by rfl) (T.fr "tuple") (by decide +kernel) (pa_cons
        (pe_lcU (TBs K) (x := "pair") (j := 4) rfl scSure.nd (pi_list (pe_fx (ok_pairs_of T) (hr.mono (by decide)) (by rfl) (pa_cons (pv 0) pa_nil))) (blkOk_by (by kernel_rfl)) (fun _ _ _ _ _ => pg_name (i := 4) scSure.nd rfl (.inr rfl) (.inl rfl))
          (fun _ _ _ _ _ => pts_one (pt_val (pe_all (TBs K) (x := "one") (j := 5) 3 rfl scSure.nd hr5 (by rfl) (T.fr "all") (T.tb "sure_pairs") rfl (genOk_by (by kernel_rfl)) (k_list (pv 2))
            (fun _ _ _ _ _ _ _ _ => pg_name (i := 5) scSure.nd rfl (.inl rfl) (.inr rfl)) (fun _ _ _ _ _ _ _ A' hrA => pe_fx (ok_is_together T) hrA (by rfl) (pa_cons (pv 5) (pa_cons (pv 4) pa_nil))))))
          (fun _ _ _ _ _ => pv 4)) pa_nil)))
      (pss_one (ps_ret (pe_tup (pa_cons (pv 3) (pa_cons (pe_callTy call_tuple_of (by rfl) (T.fr "tuple") (by decide +kernel) (pa_cons
        (pe_lcU (TBs K) (x := "pair") (j := 4) rfl scSure.nd (pi_list (pe_fx (ok_pairs_of T) (hr.mono (by decide)) (by rfl) (pa_cons (pv 0) pa_nil))) (blkOk_by (by kernel_rfl)) (fun _ _ _ _ _ => pg_name (i := 4) scSure.nd rfl (.inr rfl) (.inl rfl))
          (fun _ _ _ _ _ => pts_one (pt_not (pt_val (pe_any (TBs K) (x := "one") (j := 5) 3 rfl scSure.nd hr5 (by rfl) (T.fr "any") (T.tb "sure_pairs") rfl (genOk_by (by kernel_rfl)) (k_list (pv 2))
            (fun _ _ _ _ _ _ _ _ => pg_name (i := 5) scSure.nd rfl (.inl rfl) (.inr rfl)) (fun _ _ _ _ _ _ _ A' hrA => pe_fx (ok_is_together T) hrA (by rfl) (pa_cons (pv 5) (pa_cons (pv 4) pa_nil)))))))
          (fun _ _ _ _ _ => pv 4)) pa_nil)) pa_nil)))))))), ?_⟩
    obtain ⟨h1, h5, hJ, hB⟩ := id ok
    refine ⟨_, rfl, _, rfl, tb, n, v, J, B, rfl, hT, ok, fun H1 n1 => ?_⟩
    refine ⟨_, rfl, _, rfl, tb.nx n1, n, v, J, B, rfl, h1, h5, persGs.nx n1 hT, hJ.two, hB.two, fun p ys H2 n2 hpn hp hpp => ?_⟩
    have n12 := n1.trans n2
    refine ⟨_, rfl, !ys.isEmpty, .inl ⟨_, SqL.of hp, rfl⟩, ?_⟩
    rw [empty_of hpp]
    by_cases hf : fit n J B = []
    · rw [hf]
      exact iteT (q0 hf H2 n12)
    have hfe : (fit n J B).isEmpty = false := by
      cases e : fit n J B with
      | nil => exact absurd e hf
      | cons _ _ => rfl
    rw [hfe]
    refine iteF ?_
    have bnd : (pairsOf n).length ≤ sizeLine := by
      have := pairsOf_len h5
      rw [sizeLine_eq]
      omega
    refine ⟨_, rfl, n, rfl, by omega, fun pp zs H3 n3 hppn hpz hpzz => ?_⟩
    have n13 := n12.trans n3
    refine ⟨pp, rfl, ⟨_, SqL.of hpz⟩, Lot, Lot, IsL K, IsL K, zs, pairsOf n, fun z => (fit n J B).all fun g => together g z, fun z => z, src_list (SqL.of hpz), persL, hpzz, bnd, persL, fun z x H4 hz n4 r => ⟨fun C hC => ?_, fun _ H5 n5 r5 C hC => ⟨_, rfl, hC _ _ (.refl _) r5⟩⟩, fun D ws H4 hD n4 hw hpw => ?_⟩
    · have n14 := n13.trans n4
      have n24 := n3.trans n4
      exact ⟨_, rfl, p, rfl, ⟨_, SqL.of (n24.lst hp)⟩, Gr, IsG K, ys, fit n J B, fun g => together g z, src_list (SqL.of (n24.lst hp)), persG, persG.paired n24.tupN hpp, (tb.nx n14) _ (tb_mem (x := "sure_pairs") (by decide +kernel)),
        fun g y H5 hg n5 r5 C5 hC5 => ⟨_, rfl, _, rfl, (tb.nx n14).nx n5, y, x, g, z, rfl, r5, persL.nx n5 r, pairsOf_two z hz, fun H6 n6 => hC5 _ _ n6 rfl⟩, fun H5 n5 => ⟨_, rfl, hC H5 n5⟩⟩
    rw [List.map_id'] at hpw
    refine ⟨D, ws, rfl, .inl ⟨SqL.of hw, fun j hj => ?_⟩⟩
    have n4j := n4.new (o := .tup ws) hj
    have rJ : IsG K (upd H4 j (.tup ws)) (.ref j) (sureJ n J B) := ⟨j, ws, rfl, SqT.of upd_same, persL.paired ((Nx.refl (ts := TBs K) H4).new hj).tupN hpw⟩
    generalize upd H4 j (.tup ws) = H5 at n4j rJ
    have n15 := n13.trans n4j
    have n25 := n3.trans n4j
    refine ⟨_, rfl, _, rfl, n, rfl, by omega, fun pp2 zs2 H6 n6 hppn2 hpz2 hpzz2 => ?_⟩
    have n16 := n15.trans n6
    refine ⟨pp2, rfl, ⟨_, SqL.of hpz2⟩, Lot, Lot, IsL K, IsL K, zs2, pairsOf n, fun z => !((fit n J B).any fun g => together g z), fun z => z, src_list (SqL.of hpz2), persL, hpzz2, bnd, persL, fun z x H7 hz n7 r => ⟨fun C hC => ?_, fun _ H8 n8 r8 C hC => ⟨_, rfl, hC _ _ (.refl _) r8⟩⟩, fun D2 ws2 H7 hD2 n7 hw2 hpw2 => ?_⟩
    · have n17 := n16.trans n7
      have n27 := (n25.trans n6).trans n7
      exact ⟨_, rfl, p, rfl, ⟨_, SqL.of (n27.lst hp)⟩, Gr, IsG K, ys, fit n J B, fun g => together g z, src_list (SqL.of (n27.lst hp)), persG, persG.paired n27.tupN hpp, (tb.nx n17) _ (tb_mem (x := "sure_pairs") (by decide +kernel)),
        fun g y H8 hg n8 r8 C8 hC8 => ⟨_, rfl, _, rfl, (tb.nx n17).nx n8, y, x, g, z, rfl, r8, persL.nx n8 r, pairsOf_two z hz, fun H9 n9 => hC8 _ _ n9 rfl⟩, fun H8 n8 => ⟨_, rfl, hC H8 n8⟩⟩
    rw [List.map_id'] at hpw2
    refine ⟨D2, ws2, rfl, .inl ⟨SqL.of hw2, fun t ht => ?_⟩⟩
    have n7t := n7.new (o := .tup ws2) ht
    have rA : IsG K (upd H7 t (.tup ws2)) (.ref t) (sureA n J B) := ⟨t, ws2, rfl, SqT.of upd_same, persL.paired ((Nx.refl (ts := TBs K) H7).new ht).tupN hpw2⟩
    generalize upd H7 t (.tup ws2) = H8 at n7t rA
    refine ⟨by show 2 ≤ sizeLine; decide, fun u hu => ?_⟩
    have n8u := (Nx.refl (ts := TBs K) H8).new (o := .tup [.ref j, .ref t]) hu
    exact q1 hf _ _ ((n16.trans n7t).trans n8u) ⟨u, _, rfl, SqT.of upd_same, .cons (persG.nx ((n6.trans n7t).trans n8u) rJ) (.cons (persG.nx n8u rA) .nil)⟩
/-! ### least_lots -/
def spLeast (K : PySem.W.Frag) : Sp := fun vs H Q _ => Tb (TBs K) H ∧ ∃ (n : Nat) (v : V) (J B : List Lot), vs = [.int (nat n), v] ∧ IsGs K H v [J, B] ∧ ToldOk n J B ∧ (fit n J B = [] → ∀ H', Nx (TBs K) H H' → Q .non H') ∧
  (fit n J B ≠ [] → ∀ H', Nx (TBs K) H H' → Q (.int (lowI ((fit n J B).map fun g => nat g.length))) H')
abbrev N32 : List Str := ["size", "told", "some", "one"]
theorem scLeast : FnScope N32 ["size", "told"] (defScope (top 32)) := ⟨rfl, rfl, rfl, by decide +kernel, rfl, by decide +kernel, by decide +kernel⟩
theorem ok_least_lots (T : Pg K mg base) : Fx P w K mg base 11 "least_lots" ["size", "told"] (spLeast K) := by
  refine T.ok "least_lots" 32 (by simp [fn]) scLeast (fun _ _ _ _ _ _ us hl => match us, hl with | [_, _], _ => rfl) (fun vs H Q E h => ?_) fun A outer s H vs Q E hr h => ?_
  · obtain ⟨_, n, v, J, B, rfl, _⟩ := h
    rfl
  · obtain ⟨tb, n, v, J, B, rfl, hT, ok, q0, q1⟩ := h
    refine ⟨_, pss_cons (ps_expr (pe_fx (ok_need_sized T) hr (by rfl) (pa_cons (pv 0) (pa_cons (pv 1) pa_nil))))
      (pss_cons (ps_set (i := 2) scLeast.nd rfl (.inl rfl) (pe_fx (ok_fitting_of T) (hr.mono (by decide)) (by rfl) (pa_cons (pv 0) (pa_cons (pv 1) pa_nil))))
      (pss_one (ps_ret (pe_ifExp (pt_truth (pv 2) (by intro _; rfl)) (pe_callB (cr_min rfl) (by rfl) (T.fr "min") (by decide +kernel) (pa_cons
        (pe_lcU (TBs K) (x := "one") (j := 3) rfl scLeast.nd (pi_list (pv 2)) (blkOk_by (by kernel_rfl)) (fun _ _ _ _ _ => pg_name (i := 3) scLeast.nd rfl (.inl rfl) (.inr rfl)) (fun _ _ _ _ _ => pts_nil)
          (fun _ _ _ _ _ => pe_callB k_len (by rfl) (T.fr "len") PySem.boot_len (pa_cons (pv 3) pa_nil))) pa_nil)) pe_non)))), ?_⟩
    obtain ⟨h1, h5, hJ, hB⟩ := id ok
    refine ⟨_, rfl, _, rfl, tb, n, v, J, B, rfl, hT, ok, fun H1 n1 => ?_⟩
    refine ⟨_, rfl, _, rfl, tb.nx n1, n, v, J, B, rfl, h1, h5, persGs.nx n1 hT, hJ.two, hB.two, fun p ys H2 n2 hpn hp hpp => ?_⟩
    have n12 := n1.trans n2
    refine ⟨_, rfl, !ys.isEmpty, .inl ⟨_, SqL.of hp, rfl⟩, ?_⟩
    rw [empty_of hpp]
    by_cases hf : fit n J B = []
    · rw [hf]
      exact iteF (q0 hf H2 n12)
    have hfe : (fit n J B).isEmpty = false := by
      cases e : fit n J B with
      | nil => exact absurd e hf
      | cons _ _ => rfl
    rw [hfe]
    refine iteT ?_
    have fl := fit_len (n := n) (J := J) (A := B) h5
    refine ⟨_, rfl, p, rfl, ⟨_, SqL.of hp⟩, Gr, Int, IsG K, IsI, ys, fit n J B, fun _ => true, fun g => nat g.length, src_list (SqL.of hp), persG, hpp, by rw [sizeLine_eq]; omega, persI, fun g x H3 hg n3 r => ⟨TIs.yes, fun _ H4 n4 r4 C hC => ?_⟩, fun D ws H3 hD n3 hw hpw => ?_⟩
    · obtain ⟨b, zs, rfl, sqb, prb⟩ := r4
      refine ⟨_, rfl, b, zs, rfl, .inr sqb, hC _ _ (.refl _) ?_⟩
      show V.int _ = V.int _
      rw [Paired.length prb]
      rfl
    · rw [keep_map] at hpw
      have ez := paired_ints hpw
      subst ez
      refine ⟨D, _, rfl, SqL.of hw, by rw [List.length_map]; exact List.length_pos_iff.mpr hf, fun m hm hlb => ?_⟩
      rw [low_is hm hlb]
      exact q1 hf H3 (n12.trans n3)
/-! ### nearest_fitting -/
def IsN (K : PySem.W.Frag) : Rel (Int × Gr) := fun H v p => ∃ a x, v = .ref a ∧ SqT K H a [.int p.1, x] ∧ IsG K H x p.2
theorem persN : PersT (IsN K) := fun H H' v p t ⟨a, x, e, h, r⟩ => ⟨a, x, e, t.sq h, persG _ _ _ _ t r⟩
theorem IsN.dp {H : Hp} {v : V} {p : Int × Gr} (h : IsN K H v p) : Dp K H v (dN p) := by
  obtain ⟨a, x, rfl, h, r⟩ := h
  exact .tup h (.cons (.int _) (.cons r.dp .nil))
theorem depthAll_dN : ∀ l : List (Int × Gr), PyData.depthAll (l.map dN) ≤ 3
  | [] => by simp [PyData.depthAll]
  | p :: l => by
    show PyData.depthAll (dN p :: l.map dN) ≤ 3
    rw [PyData.depthAll]
    have := depthAll_dN l
    have := depth_dN p
    omega
/-- the nearest: the first of the least of (steps, grouping) -/
noncomputable def nearOf (s : Gr) : List Gr → Gr
  | [] => []
  | g :: r => ((r.map fun g => (stepsB s g, g)).foldl (fun a y => if ltN y a then y else a) (stepsB s g, g)).2
def spNear (K : PySem.W.Frag) : Sp := fun vs H Q _ => Tb (TBs K) H ∧ ∃ (n : Nat) (u v : V) (s : Gr) (J B : List Lot), vs = [u, v] ∧ IsG K H u s ∧ okG n s = true ∧ IsGs K H v [J, B] ∧ ToldOk n J B ∧ (∀ g ∈ fit n J B, okG n g = true) ∧ (fit n J B = [] → ∀ H', Nx (TBs K) H H' → Q .non H') ∧
  (fit n J B ≠ [] → ∀ x H', Nx (TBs K) H H' → IsG K H' x (nearOf s (fit n J B)) → Q x H')
abbrev N33 : List Str := ["grouping", "told", "some", "one"]
theorem scNear : FnScope N33 ["grouping", "told"] (defScope (top 33)) := ⟨rfl, rfl, rfl, by decide +kernel, rfl, by decide +kernel, by decide +kernel⟩
theorem ok_nearest_fitting (T : Pg K mg base) : Fx P w K mg base 11 "nearest_fitting" ["grouping", "told"] (spNear K) := by
  refine T.ok "nearest_fitting" 33 (by simp [fn]) scNear (fun _ _ _ _ _ _ us hl => match us, hl with | [_, _], _ => rfl) (fun vs H Q E h => ?_) fun A outer s H vs Q E hr h => ?_
  · obtain ⟨_, n, u, v, s, J, B, rfl, _⟩ := h
    rfl
  · obtain ⟨tb, n, u, v, st, J, B, rfl, hs, os, hT, ok, gok, q0, q1⟩ := h
    have hr4 : Room 4 (cxD P w K mg base N33 "nearest_fitting" 33 A outer s H E).A := hr.mono (by decide)
    refine ⟨_, pss_cons (ps_expr (pe_fx (ok_need_grouping T) (hr.mono (by decide)) (by rfl) (pa_cons (pv 0) pa_nil)))
      (pss_cons (ps_expr (pe_fx (ok_need_told T) (hr.mono (by decide)) (by rfl) (pa_cons (pe_fx (ok_size_of T) (hr.mono (by decide)) (by rfl) (pa_cons (pv 0) pa_nil)) (pa_cons (pv 1) pa_nil))))
      (pss_cons (ps_lcU (i := 2) (TBs K) (x := "one") (j := 3) rfl scNear.nd rfl rfl (sw_true rfl rfl rfl (by decide +kernel)) (pi_list (pe_fx (ok_fitting_of T) (hr.mono (by decide)) (by rfl) (pa_cons (pe_fx (ok_size_of T) (hr.mono (by decide)) (by rfl) (pa_cons (pv 0) pa_nil)) (pa_cons (pv 1) pa_nil))))
          (blkOk_by (by kernel_rfl)) (fun _ _ _ _ _ => pg_name (i := 3) scNear.nd rfl (.inl rfl) (.inr rfl)) (fun _ _ _ _ _ => pts_nil)
          (fun _ _ _ _ _ => pe_tup (pa_cons (pe_fx (ok_steps_between T) hr4 (by rfl) (pa_cons (pv 0) (pa_cons (pv 3) pa_nil))) (pa_cons (pv 3) pa_nil))))
      (pss_one (ps_ret (pe_ifExp (pt_truth (pv 2) (by intro _; rfl)) (pe_ix k_ixT (pe_callB (cr_minD (R := IsN K) rfl dataLt_dN alike_dN (fun b => by simp [dN]) depthAll_dN (fun H v b h => h.dp) (by have := hr.units; omega)) (by rfl) (T.fr "min") (by decide +kernel) (pa_cons (pv 2) pa_nil)) pe_int fun _ _ => rfl) pe_non))))), ?_⟩
    obtain ⟨h1, h5, hJ, hB⟩ := id ok
    refine ⟨_, rfl, tb, n, u, st, rfl, hs, by omega, os, fun H1 n1 => ?_⟩
    refine ⟨_, rfl, tb.nx n1, u, st, rfl, persG.nx n1 hs, by rw [okG_size os]; omega, fun H2 n2 => ?_⟩
    have n12 := n1.trans n2
    rw [okG_size os]
    refine ⟨_, rfl, tb.nx n12, n, v, J, B, rfl, persGs.nx n12 hT, hJ, hB, fun H3 n3 => ?_⟩
    have n13 := n12.trans n3
    refine ⟨_, rfl, tb.nx n13, u, st, rfl, persG.nx n13 hs, by rw [okG_size os]; omega, fun H4 n4 => ?_⟩
    have n14 := n13.trans n4
    rw [okG_size os]
    refine ⟨_, rfl, tb.nx n14, n, v, J, B, rfl, h1, h5, persGs.nx n14 hT, hJ.two, hB.two, fun p ys H5 n5 hpn hp hpp => ?_⟩
    have n15 := n14.trans n5
    have fl := fit_len (n := n) (J := J) (A := B) h5
    refine ⟨p, rfl, ⟨_, SqL.of hp⟩, Gr, Int × Gr, IsG K, IsN K, ys, fit n J B, fun _ => true, fun g => (stepsB st g, g), src_list (SqL.of hp), persG, hpp, by rw [sizeLine_eq]; omega, persN, fun g x H6 hg n6 r => ⟨TIs.yes, fun _ H7 n7 r7 C hC => ?_⟩, fun D ws H6 hD n6 hw hpw => ?_⟩
    · have n17 := n15.trans n7
      refine ⟨_, rfl, _, rfl, tb.nx n17, n, u, x, st, g, rfl, persG.nx n17 hs, r7, by omega, os, gok g hg, fun H8 n8 => ?_⟩
      refine ⟨_, rfl, by show 2 ≤ sizeLine; decide, fun t ht => ?_⟩
      have n9 := n8.new (o := .tup [.int (stepsB st g), x]) ht
      exact hC _ _ n9 ⟨t, x, rfl, SqT.of upd_same, persG.nx n9 r7⟩
    rw [keep_map] at hpw
    have n16 := n15.trans n6
    have hwl : ws.isEmpty = (fit n J B).isEmpty := by
      have q := Paired.length hpw
      rw [List.length_map] at q
      cases ws <;> cases e : fit n J B <;> simp_all
    refine ⟨_, rfl, !ws.isEmpty, .inl ⟨_, SqL.of hw, rfl⟩, ?_⟩
    rw [hwl]
    cases hf : fit n J B with
    | nil => exact iteF (q0 hf H6 n16)
    | cons g0 gr =>
      refine iteT ?_
      rw [hf] at hpw
      have q2 := q1 (by rw [hf]; simp)
      rw [hf] at q2
      refine ⟨_, rfl, D, ws, _, _, rfl, hw, hpw, fun m hm => ?_⟩
      obtain ⟨a, x, rfl, sqa, rx⟩ := hm
      exact ⟨a, _, 1, x, rfl, rfl, sqa, atI_nat (j := 1) rfl, q2 x H6 n16 rx⟩
end
end Tg
/-! the law's helpers: _law_taken, _law_pick. -/
namespace Tg
open PySem PySem.Spec PySem.W PyProof.Rows L2 GxR

theorem fmod_bd {a b : Int} (h : 0 < b) : 0 ≤ a.fmod b ∧ a.fmod b < b := by
  rw [Int.fmod_eq_emod_of_nonneg a (Int.le_of_lt h)]
  exact ⟨Int.emod_nonneg a (by omega), Int.emod_lt_of_pos a h⟩
section
variable {P : Program} {w : World} {K : PySem.W.Frag} {mg : Str → Option Value} {base : Heap}
/-- the row that is drawn from -/
def rowO (sc : Addr) (i s t : Int) : HO := .lst [.ref sc, .int i, .int s, .int t]
def RowOk (i s : Int) : Prop := 0 ≤ i ∧ 0 ≤ s ∧ s < 2147483647
def spTaken (K : PySem.W.Frag) : Sp := fun vs H Q _ => ∃ (r sc : Addr) (m i s t : Int) (ns : List Int), vs = [.ref r, .int m] ∧ 0 < m ∧ m < 1073741824 ∧ H r = some (rowO sc i s t) ∧ RowOk i s ∧ (∀ ys, SqL K (upd H r (.lst ys)) sc (ns.map V.int)) ∧
  ∀ d i' s' t', 0 ≤ d → d < m → RowOk i' s' → Q (.int d) (upd H r (rowO sc i' s' t'))
abbrev N35 : List Str := ["_law_row_here", "_law_many", "_law_found", "_law_cell"]
theorem scTaken : FnScope N35 ["_law_row_here", "_law_many"] (defScope (top 35)) := ⟨rfl, rfl, rfl, by decide +kernel, rfl, by decide +kernel, by decide +kernel⟩
theorem ok_taken (T : Pg K mg base) : Fx P w K mg base 1 "_law_taken" ["_law_row_here", "_law_many"] (spTaken K) := by
  refine T.ok "_law_taken" 35 (by simp [fn]) scTaken (fun _ _ _ _ _ _ us hl => match us, hl with | [_, _], _ => rfl) (fun vs H Q E h => ?_) fun A outer s H vs Q E hr h => ?_
  · obtain ⟨r, sc, m, i, s, t, ns, rfl, _⟩ := h
    rfl
  · obtain ⟨r, sc, m, i, s, t, ns, rfl, m0, m1, hrow, ⟨i0, s0, s1⟩, hsc, q⟩ := h
    refine ⟨_, pss_cons (ps_if (pt_cmpR op_gt (pe_ix ix_list (pv 0) pe_int fun _ _ => rfl) pe_int (nomark _))
        (pss_cons (ps_set (i := 2) scTaken.nd rfl (.inl rfl) (pe_op op_modN (pe_callTy call_int1 (by rfl) (T.fr "int") (by decide +kernel) (pa_cons (pe_ix ix_list (pv 0) pe_int fun _ _ => rfl) pa_nil)) (pv 1)))
        (pss_cons (ps_asg (pe_op op_fdivN (pe_ix ix_list (pv 0) pe_int fun _ _ => rfl) (pv 1)) (pg_sub (pv 0) pe_int set_list))
        (pss_one (ps_ret (pv 2))))) pss_nil)
      (pss_cons (ps_asg (pe_op op_add (pe_ix ix_list (pv 0) pe_int fun _ _ => rfl) pe_int) (pg_sub (pv 0) pe_int set_list))
      (pss_cons (ps_if (pt_cmpR op_gt (pe_ix ix_list (pv 0) pe_int fun _ _ => rfl) (pe_callB k_len (by rfl) (T.fr "len") PySem.boot_len (pa_cons (pe_ix ix_list (pv 0) pe_int fun _ _ => rfl) pa_nil)) (nomark _))
        (pss_cons (ps_asg (pe_op op_modN (pe_callTy call_int1 (by rfl) (T.fr "int") (by decide +kernel) (pa_cons (pe_op op_add (pe_op op_mul (pe_ix ix_list (pv 0) pe_int fun _ _ => rfl) pe_int) pe_int) pa_nil)) pe_int) (pg_sub (pv 0) pe_int set_list))
        (pss_one (ps_ret (pe_op op_modN (pe_callTy call_int1 (by rfl) (T.fr "int") (by decide +kernel) (pa_cons (pe_op op_fdivN (pe_ix ix_list (pv 0) pe_int fun _ _ => rfl) pe_int) pa_nil)) (pv 1))))) pss_nil)
      (pss_cons (ps_set (i := 3) scTaken.nd rfl (.inl rfl) (pe_ix ix_list (pe_ix ix_list (pv 0) pe_int fun _ _ => rfl) (pe_op op_sub (pe_ix ix_list (pv 0) pe_int fun _ _ => rfl) pe_int) fun _ _ => rfl))
      (pss_cons (ps_asg (pe_op op_modN (pe_callTy call_int1 (by rfl) (T.fr "int") (by decide +kernel) (pa_cons (pe_op op_add (pe_op op_add (pe_op op_mul (pe_ix ix_list (pv 0) pe_int fun _ _ => rfl) pe_int) (pv 3)) pe_int) pa_nil)) pe_int) (pg_sub (pv 0) pe_int set_list))
      (pss_cons (ps_if (pt_cmpR op_ge (pv 3) (pe_op op_pow pe_int pe_int) (nomark _))
        (pss_one (ps_asg (pe_op op_fdivN (pv 3) (pv 1)) (pg_sub (pv 0) pe_int set_list))) pss_nil)
      (pss_one (ps_ret (pe_op op_modN (pe_callTy call_int1 (by rfl) (T.fr "int") (by decide +kernel) (pa_cons (pv 3) pa_nil)) (pv 1))))))))), ?_⟩
    refine ⟨_, rfl, r, _, 3, _, rfl, rfl, SqL.of hrow, rfl, _, _, rfl, rfl, _, rfl, ?_⟩
    refine ite2 (fun hc => ?_) fun hc => ?_
    · refine ⟨_, rfl, r, _, 3, _, rfl, rfl, SqL.of hrow, rfl, .inl ⟨_, rfl, _, rfl, _, _, rfl, rfl, by omega, ?_⟩⟩
      refine ⟨_, rfl, r, _, 3, _, rfl, rfl, SqL.of hrow, rfl, _, rfl, _, _, rfl, rfl, ⟨by omega, by omega⟩, _, rfl, r, _, 3, 3, rfl, rfl, hrow, rfl, ?_⟩
      exact ⟨_, rfl, q _ i s _ (fmod_bd m0).1 (fmod_bd m0).2 ⟨i0, s0, s1⟩⟩
    · refine ⟨_, rfl, r, _, 1, _, rfl, rfl, SqL.of hrow, rfl, _, _, rfl, rfl, _, rfl, r, _, 1, 1, rfl, rfl, hrow, rfl, ?_⟩
      refine ⟨_, rfl, r, _, 1, _, rfl, rfl, SqL.of upd_same, rfl, _, rfl, r, _, 0, _, rfl, rfl, SqL.of upd_same, rfl, sc, _, rfl, .inl (hsc _), _, _, rfl, rfl, _, rfl, ?_⟩
      refine ite2 (fun hc2 => ?_) fun hc2 => ?_
      · refine ⟨_, rfl, r, _, 2, _, rfl, rfl, SqL.of upd_same, rfl, _, _, rfl, rfl, .inl ⟨by omega, by omega⟩, _, _, rfl, rfl, .inl ⟨_, rfl, _, _, rfl, rfl, (by decide : (2147483647 : Int) ≠ 0), _, rfl, r, _, 2, 2, rfl, rfl, upd_same, rfl, ?_⟩⟩
        rw [upd_upd]
        refine ⟨_, rfl, r, _, 2, _, rfl, rfl, SqL.of upd_same, rfl, _, _, rfl, rfl, ⟨by decide, by decide⟩, .inl ⟨_, rfl, _, rfl, _, _, rfl, rfl, by omega, ?_⟩⟩
        exact q _ (i + 1) _ t (fmod_bd m0).1 (fmod_bd m0).2 ⟨by omega, (fmod_bd (by decide)).1, (fmod_bd (by decide)).2⟩
      · have hlt : i < ns.length := by
          have h2 := hc2
          simp only [decide_eq_true_eq, List.length_map] at h2
          omega
        have hat : (ns.map V.int)[i.toNat]? = some (.int (ns.getD i.toNat 0)) := by
          have hi : i.toNat < ns.length := by omega
          rw [List.getElem?_map, List.getElem?_eq_getElem hi, List.getD_eq_getElem?_getD, List.getElem?_eq_getElem hi]
          rfl
        generalize ns.getD i.toNat 0 = c at hat
        refine ⟨_, rfl, r, _, 0, _, rfl, rfl, SqL.of upd_same, rfl, _, rfl, r, _, 1, _, rfl, rfl, SqL.of upd_same, rfl, _, _, rfl, rfl, sc, _, _, _, rfl, rfl, hsc _, at_of (j := i.toNat) (by omega) hat, ?_⟩
        refine ⟨_, rfl, r, _, 2, _, rfl, rfl, SqL.of upd_same, rfl, _, _, rfl, rfl, .inl ⟨by omega, by omega⟩, _, rfl, _, _, rfl, rfl, _, _, rfl, rfl, .inl ⟨_, rfl, _, _, rfl, rfl, (by decide : (2147483647 : Int) ≠ 0), _, rfl, r, _, 2, 2, rfl, rfl, upd_same, rfl, ?_⟩⟩
        rw [upd_upd]
        have b1 := fmod_bd (a := s * 48271 + c + 11) (b := 2147483647) (by decide)
        refine ⟨_, rfl, 10, 18, rfl, rfl, ⟨by decide, by decide, by decide⟩, _, _, rfl, rfl, _, rfl, ?_⟩
        refine ite2 (fun hc3 => ?_) fun hc3 => ?_
        · refine ⟨_, rfl, _, rfl, _, _, rfl, rfl, ⟨by omega, by omega⟩, _, rfl, r, _, 3, 3, rfl, rfl, upd_same, rfl, ?_⟩
          rw [upd_upd]
          refine ⟨_, rfl, .inl ⟨_, rfl, _, rfl, _, _, rfl, rfl, by omega, ?_⟩⟩
          exact q _ (i + 1) _ _ (fmod_bd m0).1 (fmod_bd m0).2 ⟨by omega, b1.1, b1.2⟩
        · refine ⟨_, rfl, .inl ⟨_, rfl, _, rfl, _, _, rfl, rfl, by omega, ?_⟩⟩
          exact q _ (i + 1) _ t (fmod_bd m0).1 (fmod_bd m0).2 ⟨by omega, b1.1, b1.2⟩
/-! ### _law_pick -/
def spPick (K : PySem.W.Frag) : Sp := fun vs H Q _ => ∃ (r sc p : Addr) (i s t : Int) (ns : List Int) (xs : List V), vs = [.ref r, .ref p] ∧ H r = some (rowO sc i s t) ∧ RowOk i s ∧ (∀ ys, SqL K (upd H r (.lst ys)) sc (ns.map V.int)) ∧ p ≠ r ∧ H p = some (.lst xs) ∧ 0 < xs.length ∧ xs.length < 1000000 ∧
  ∀ (k : Nat) x i' s' t', xs[k]? = some x → RowOk i' s' → Q x (upd H r (rowO sc i' s' t'))
theorem scPick : FnScope ["_law_row_here", "_law_things"] ["_law_row_here", "_law_things"] (defScope (top 36)) := ⟨rfl, rfl, rfl, by decide +kernel, rfl, by decide +kernel, by decide +kernel⟩
theorem ok_pick (T : Pg K mg base) : Fx P w K mg base 2 "_law_pick" ["_law_row_here", "_law_things"] (spPick K) := by
  refine T.ok "_law_pick" 36 (by simp [fn]) scPick (fun _ _ _ _ _ _ us hl => match us, hl with | [_, _], _ => rfl) (fun vs H Q E h => ?_) fun A outer s H vs Q E hr h => ?_
  · obtain ⟨r, sc, p, i, s, t, ns, xs, rfl, _⟩ := h
    rfl
  · obtain ⟨r, sc, p, i, s, t, ns, xs, rfl, hrow, ok, hsc, hpr, hp, x0, x1, q⟩ := h
    refine ⟨_, pss_one (ps_ret (pe_ix ix_list (pv 1) (pe_fx (ok_taken T) hr (by rfl) (pa_cons (pv 0) (pa_cons (pe_callB k_len (by rfl) (T.fr "len") PySem.boot_len (pa_cons (pv 1) pa_nil)) pa_nil))) fun _ _ => rfl)), ?_⟩
    refine ⟨_, rfl, _, rfl, _, rfl, p, xs, rfl, .inl (SqL.of hp), r, sc, xs.length, i, s, t, ns, rfl, by omega, by omega, hrow, ok, hsc, fun d i' s' t' d0 d1 ok' => ?_⟩
    have hd : d.toNat < xs.length := by omega
    exact ⟨p, xs, d, _, rfl, rfl, SqL.of (by rw [upd_ne hpr]; exact hp), at_of (j := d.toNat) (by omega) (List.getElem?_eq_getElem hd), q d.toNat _ i' s' t' (List.getElem?_eq_getElem hd) ok'⟩
end
end Tg
/-! _law_alike. -/
namespace Tg
open PySem PySem.Spec PySem.W PyProof.Rows L2 GxR

/-- both are the same tree of ints and tuples, less deep than d -/
def AlD (K : PySem.W.Frag) : Nat → Hp → V → V → Prop
  | 0, _, _, _ => False
  | d + 1, H, v, u => (∃ i : Int, v = .int i ∧ u = .int i) ∨ ∃ a b xs ys, v = .ref a ∧ u = .ref b ∧ SqT K H a xs ∧ SqT K H b ys ∧ Paired (AlD K d H) xs ys ∧ xs.length ≤ 1000
theorem AlD.tup {K : PySem.W.Frag} : ∀ (d : Nat) {H H' : Hp} {v u : V}, TupN H H' → AlD K d H v u → AlD K d H' v u
  | 0, _, _, _, _, _, h => h
  | d + 1, _, _, _, _, t, .inl h => .inl h
  | d + 1, _, _, _, _, t, .inr ⟨a, b, xs, ys, e1, e2, h1, h2, p, l⟩ => .inr ⟨a, b, xs, ys, e1, e2, t.sq h1, t.sq h2, Paired.mapP p fun x y q => AlD.tup d t q, l⟩
theorem ald_pair {α : Type} {R : V → α → Prop} {S : V → V → Prop} (h : ∀ v u x, R v x → R u x → S v u) : ∀ {vs us : List V} {xs : List α}, Paired R vs xs → Paired R us xs → Paired S vs us
  | _, _, _, .nil, .nil => .nil
  | _, _, _, .cons a t, .cons b t' => .cons (h _ _ _ a b) (ald_pair h t t')
section
variable {K : PySem.W.Frag} {H : Hp}
theorem ald_int {d : Nat} {v u : V} {i : Int} (h1 : IsI H v i) (h2 : IsI H u i) : AlD K (d + 1) H v u := .inl ⟨i, h1, h2⟩
theorem ald_L {d : Nat} {v u : V} {l : Lot} (h1 : IsL K H v l) (h2 : IsL K H u l) (z : l.length ≤ 1000) : AlD K (d + 2) H v u := by
  obtain ⟨a, xs, rfl, s1, p1⟩ := h1
  obtain ⟨b, ys, rfl, s2, p2⟩ := h2
  exact .inr ⟨a, b, xs, ys, rfl, rfl, s1, s2, ald_pair (R := IsI H) (S := AlD K (d + 1) H) (fun v u x a b => ald_int a b) p1 p2, by rw [Paired.length p1]; exact z⟩
theorem paired_mem {α : Type} {R S : V → α → Prop} : ∀ {vs : List V} {xs : List α}, Paired R vs xs → (∀ v x, x ∈ xs → R v x → S v x) → Paired S vs xs
  | _, _, .nil, _ => .nil
  | _, _, .cons a t, h => .cons (h _ _ List.mem_cons_self a) (paired_mem t fun v x hx => h v x (List.mem_cons_of_mem _ hx))
theorem ald_G {d : Nat} {v u : V} {g : Gr} (h1 : IsG K H v g) (h2 : IsG K H u g) (z : g.length ≤ 1000) (zl : ∀ l ∈ g, l.length ≤ 1000) : AlD K (d + 3) H v u := by
  obtain ⟨a, xs, rfl, s1, p1⟩ := h1
  obtain ⟨b, ys, rfl, s2, p2⟩ := h2
  refine .inr ⟨a, b, xs, ys, rfl, rfl, s1, s2, ald_pair (S := AlD K (d + 2) H) (R := fun v l => IsL K H v l ∧ l.length ≤ 1000) (fun v u x a b => ald_L a.1 b.1 a.2) (paired_mem p1 fun v x hx r => ⟨r, zl x hx⟩) (paired_mem p2 fun v x hx r => ⟨r, zl x hx⟩), by rw [Paired.length p1]; exact z⟩
theorem ald_Gs {d : Nat} {v u : V} {gs : List Gr} (h1 : IsGs K H v gs) (h2 : IsGs K H u gs) (z : gs.length ≤ 1000) (zg : ∀ g ∈ gs, g.length ≤ 1000 ∧ ∀ l ∈ g, l.length ≤ 1000) : AlD K (d + 4) H v u := by
  obtain ⟨a, xs, rfl, s1, p1⟩ := h1
  obtain ⟨b, ys, rfl, s2, p2⟩ := h2
  refine .inr ⟨a, b, xs, ys, rfl, rfl, s1, s2, ald_pair (S := AlD K (d + 3) H) (R := fun v g => IsG K H v g ∧ g.length ≤ 1000 ∧ ∀ l ∈ g, l.length ≤ 1000) (fun v u x a b => ald_G a.1 b.1 a.2.1 a.2.2) (paired_mem p1 fun v x hx r => ⟨r, zg x hx⟩) (paired_mem p2 fun v x hx r => ⟨r, zg x hx⟩), by rw [Paired.length p1]; exact z⟩
end
theorem kit_tl {K : PySem.W.Frag} : kitAny K (.type "tuple") [.type "tuple", .type "list"] = some true := kitAny_cons (b := true) (kit_ty (by decide +kernel)) (fun h => by cases h) fun _ => rfl
theorem kit_il {K : PySem.W.Frag} : kitAny K (.type "int") [.type "tuple", .type "list"] = some false :=
  kitAny_cons (b := false) (kit_ty (by decide +kernel)) (fun _ => kitAny_cons (b := false) (kit_ty (by decide +kernel)) (fun _ => kitAny_nil) fun h => by cases h) fun h => by cases h

section
variable {P : Program} {w : World} {K : PySem.W.Frag} {mg : Str → Option Value} {base : Heap}
def spAl (K : PySem.W.Frag) (d : Nat) : Sp := fun vs H Q _ => ∃ v u, vs = [v, u] ∧ AlD K d H v u ∧ ∀ H', Nx (TBs K) H H' → Q (.bl true) H'
abbrev N37 : List Str := ["_law_found", "_law_due", "_law_k"]
theorem scAl : FnScope N37 ["_law_found", "_law_due"] (defScope (top 37)) := ⟨rfl, rfl, rfl, by decide +kernel, rfl, by decide +kernel, by decide +kernel⟩
theorem ok_alike (T : Pg K mg base) : ∀ d, Fx P w K mg base (d + 1) "_law_alike" ["_law_found", "_law_due"] (spAl K d)
  | 0 => by
    refine T.ok "_law_alike" 37 (by simp [fn]) scAl (fun _ _ _ _ _ _ us hl => match us, hl with | [_, _], _ => rfl) (fun vs H Q E h => ?_) fun A outer s H vs Q E hr h => ?_
    · obtain ⟨v, u, rfl, _⟩ := h
      rfl
    · obtain ⟨v, u, rfl, h, _⟩ := h
      exact h.elim
  | d + 1 => by
    have F := ok_alike T d
    refine T.ok "_law_alike" 37 (by simp [fn]) scAl (fun _ _ _ _ _ _ us hl => match us, hl with | [_, _], _ => rfl) (fun vs H Q E h => ?_) fun A outer s H vs Q E hr h => ?_
    · obtain ⟨v, u, rfl, _⟩ := h
      rfl
    · obtain ⟨v, u, rfl, h, q⟩ := h
      refine ⟨_, pss_cons (ps_if (pt_val (pe_callB call_isiT (by rfl) (T.fr "isinstance") (by decide +kernel) (pa_cons (pv 1) (pa_cons (pe_tup (pa_cons (pe_bltn (v := .ty "tuple") (by rfl) (T.fr "tuple") (by decide +kernel) rfl) (pa_cons (pe_bltn (v := .ty "list") (by rfl) (T.fr "list") (by decide +kernel) rfl) pa_nil))) pa_nil))))
          (pss_cons (ps_if (PW.pt (pw_or (pt_not (pt_val (pe_callB call_isiT (by rfl) (T.fr "isinstance") (by decide +kernel) (pa_cons (pv 0) (pa_cons (pe_tup (pa_cons (pe_bltn (v := .ty "tuple") (by rfl) (T.fr "tuple") (by decide +kernel) rfl) (pa_cons (pe_bltn (v := .ty "list") (by rfl) (T.fr "list") (by decide +kernel) rfl) pa_nil))) pa_nil)))))
              (pw_or1 (pt_cmpR op_ne (pe_callB k_isi (by rfl) (T.fr "isinstance") (by decide +kernel) (pa_cons (pv 0) (pa_cons (pe_bltn (v := .ty "list") (by rfl) (T.fr "list") (by decide +kernel) rfl) pa_nil)))
                (pe_callB k_isi (by rfl) (T.fr "isinstance") (by decide +kernel) (pa_cons (pv 1) (pa_cons (pe_bltn (v := .ty "list") (by rfl) (T.fr "list") (by decide +kernel) rfl) pa_nil))) (nomark _))))) (pss_one (ps_ret pe_bl)) pss_nil)
          (pss_cons (ps_if (pt_cmpR op_ne (pe_callB k_len (by rfl) (T.fr "len") PySem.boot_len (pa_cons (pv 0) pa_nil)) (pe_callB k_len (by rfl) (T.fr "len") PySem.boot_len (pa_cons (pv 1) pa_nil)) (nomark _)) (pss_one (ps_ret pe_bl)) pss_nil)
          (pss_one (ps_ret (pe_cmpR (op_eqD hr.units) (pe_lcU (TBs K) (x := "_law_k") (j := 2) rfl scAl.nd (pi_range1 (by rfl) (T.fr "range") (pa_cons (pe_callB k_len (by rfl) (T.fr "len") PySem.boot_len (pa_cons (pv 1) pa_nil)) pa_nil)) (blkOk_by (by kernel_rfl))
            (fun _ _ _ _ _ => pg_name (i := 2) scAl.nd rfl (.inl rfl) (.inr rfl)) (fun _ _ _ _ _ => pts_one (pt_not (pt_val (pe_fx F hr (by rfl) (pa_cons (pe_ix k_ixT (pv 0) (pv 2) fun _ _ => rfl) (pa_cons (pe_ix k_ixT (pv 1) (pv 2) fun _ _ => rfl) pa_nil)))))) (fun _ _ _ _ _ => pv 2)) (pe_lst pa_nil) (nomark _)))))) pss_nil)
        (pss_cons (ps_if (PW.pt (pw_or (pt_cmp (pc_isN (pv 1)) rfl) (pw_or1 (pt_val (pe_callB k_isi (by rfl) (T.fr "isinstance") (by decide +kernel) (pa_cons (pv 1) (pa_cons (pe_bltn (v := .ty "str") (by rfl) (T.fr "str") (by decide +kernel) rfl) pa_nil))))))) (pss_one ps_never) pss_nil)
        (pss_one (ps_ret (pe_and (pe_callB k_isi (by rfl) (T.fr "isinstance") (by decide +kernel) (pa_cons (pv 0) (pa_cons (pe_bltn (v := .ty "int") (by rfl) (T.fr "int") (by decide +kernel) rfl) pa_nil)))
          (pe_and (pe_cmpR op_eq (pe_callB k_isi (by rfl) (T.fr "isinstance") (by decide +kernel) (pa_cons (pv 0) (pa_cons (pe_bltn (v := .ty "bool") (by rfl) (T.fr "bool") (by decide +kernel) rfl) pa_nil)))
              (pe_callB k_isi (by rfl) (T.fr "isinstance") (by decide +kernel) (pa_cons (pv 1) (pa_cons (pe_bltn (v := .ty "bool") (by rfl) (T.fr "bool") (by decide +kernel) rfl) pa_nil))) (nomark _))
            (pe_one (pe_cmpR op_eq (pv 0) (pv 1) (nomark _)))))))), ?_⟩
      rcases h with ⟨i, rfl, rfl⟩ | ⟨a, b, xs, ys, rfl, rfl, sa, sb, pr, hz⟩
      · refine ⟨_, rfl, by show 2 ≤ sizeLine; decide, fun tp htp => ⟨_, tp, _, _, _, false, rfl, upd_same, .cons (.ty _) (.cons (.ty _) .nil), .base (.int i), kit_il, false, rfl, ?_⟩⟩
        have n1 := (Nx.refl (ts := TBs K) H).new (o := .tup [.ty "tuple", .ty "list"]) htp
        refine iteF ?_
        refine ⟨_, rfl, _, rfl, ?_⟩
        refine iteF ?_
        refine ⟨_, rfl, _, _, _, _, false, rfl, .ty _, .base (.int i), kit_ty (by decide +kernel), false, rfl, ?_⟩
        refine iteF ?_
        refine ⟨_, rfl, _, _, _, _, true, rfl, .ty _, .base (.int i), kit_ty (by decide +kernel), true, rfl, ?_⟩
        refine iteT ?_
        refine ⟨_, rfl, _, _, _, _, false, rfl, .ty _, .base (.int i), kit_ty (by decide +kernel), _, rfl, _, _, _, _, false, rfl, .ty _, .base (.int i), kit_ty (by decide +kernel), rfl, true, by simp, ?_⟩
        refine iteT ?_
        refine ⟨_, rfl, _, rfl, rfl, ?_⟩
        have e : decide (V.int i = V.int i) = true := decide_eq_true rfl
        rw [e]
        exact q _ n1
      · have hl : xs.length = ys.length := Paired.length pr
        refine ⟨_, rfl, by show 2 ≤ sizeLine; decide, fun tp htp => ?_⟩
        have n1 := (Nx.refl (ts := TBs K) H).new (o := .tup [.ty "tuple", .ty "list"]) htp
        refine ⟨_, tp, _, _, _, true, rfl, upd_same, .cons (.ty _) (.cons (.ty _) .nil), tyT (n1.tupN.sq sb), kit_tl, true, rfl, ?_⟩
        generalize upd H tp (.tup [.ty "tuple", .ty "list"]) = H1 at n1
        refine iteT ?_
        refine ⟨_, rfl, by show 2 ≤ sizeLine; decide, fun tq htq => ?_⟩
        have n2 := n1.new (o := .tup [.ty "tuple", .ty "list"]) htq
        refine ⟨_, tq, _, _, _, true, rfl, upd_same, .cons (.ty _) (.cons (.ty _) .nil), tyT (n2.tupN.sq sa), kit_tl, true, rfl, ?_⟩
        generalize upd H1 tq (.tup [.ty "tuple", .ty "list"]) = H2 at n2
        have sa2 := n2.tupN.sq sa
        have sb2 := n2.tupN.sq sb
        refine iteF ?_
        refine ⟨_, rfl, _, _, _, _, false, rfl, .ty _, tyT sa2, kit_ty (by decide +kernel), _, rfl, _, _, _, _, false, rfl, .ty _, tyT sb2, kit_ty (by decide +kernel), rfl, _, rfl, ?_⟩
        refine iteNS rfl ?_
        refine ⟨_, rfl, a, xs, rfl, .inr sa2, _, rfl, b, ys, rfl, .inr sb2, rfl, _, rfl, ?_⟩
        rw [hl]
        refine iteNS rfl ?_
        refine ⟨_, rfl, b, ys, rfl, .inr sb2, _, rfl, by omega, by omega, Int, Int, IsI, IsI, _, rgl 0 ys.length, fun _ => false, fun z => z, src_rng, persI, ints_paired _, by rw [rgl_len, sizeLine_eq]; omega, persI, fun z x H3 hz3 n3 r => ⟨fun C hC => ?_, fun h => by cases h⟩, fun D ws H3 hD n3 hw hpw => ?_⟩
        · cases r
          obtain ⟨k, hk, rfl⟩ := rg0_mem hz3
          have n23 := n2.trans n3
          have hk2 : k < xs.length := by omega
          obtain ⟨y, hy, r⟩ := paired_get pr (List.getElem?_eq_getElem hk2)
          exact ⟨_, rfl, _, rfl, a, xs, _, _, rfl, rfl, n23.tupN.sq sa, atI_nat (List.getElem?_eq_getElem hk2), _, rfl, _, rfl, b, ys, _, _, rfl, rfl, n23.tupN.sq sb, atI_nat hy, _, _, rfl, AlD.tup d n23.tupN r, fun H4 n4 => ⟨true, rfl, hC H4 n4⟩⟩
        · have ew : ws = [] := by
            have q0 := Paired.length hpw
            have f0 : (rgl 0 ys.length).filter (fun _ => false) = [] := by simp
            have q1 : ws.length = ((rgl 0 ys.length).filter fun _ => false).length := by simpa using q0
            rw [f0] at q1
            exact List.length_eq_zero_iff.mp q1
          subst ew
          refine ⟨Nat.zero_le _, fun e he => ?_⟩
          have hDe : D ≠ e := ne_of_none hw he
          refine ⟨.list [], .list [], .lst (SqL.of (by rw [upd_ne hDe]; exact hw)) .nil, .lst (SqL.of upd_same) .nil, rfl, rfl, ?_⟩
          have e1 : PyData.eqv (.list []) (.list []) = true := by simp [PyData.eqv, PyData.eqvAll]
          rw [e1]
          exact q _ ((n2.trans n3).new he)
end
end Tg
/-! _law_steps, _law_lots. -/
namespace Tg
open PySem PySem.Spec PySem.W PyProof.Rows L2 GxR

/-! ### the labels of a list, in order -/
theorem insU_mem {a x : Int} : ∀ {l : List Int}, x ∈ insU a l ↔ x = a ∨ x ∈ l
  | [] => by simp [insU]
  | b :: r => by
    unfold insU
    split
    · rw [List.mem_cons, insU_mem, List.mem_cons]
      constructor
      · rintro (h | h | h)
        · exact .inr (.inl h)
        · exact .inl h
        · exact .inr (.inr h)
      · rintro (h | h | h)
        · exact .inr (.inl h)
        · exact .inl h
        · exact .inr (.inr h)
    · split
      · rename_i e
        subst e
        simp
      · simp
theorem insU_asc {a : Int} : ∀ {l : List Int}, l.Pairwise (· < ·) → (insU a l).Pairwise (· < ·)
  | [], _ => by simp [insU]
  | b :: r, h => by
    have hb := (List.pairwise_cons.mp h).1
    have hr := (List.pairwise_cons.mp h).2
    unfold insU
    split
    · refine List.pairwise_cons.mpr ⟨fun y hy => ?_, insU_asc hr⟩
      rcases insU_mem.mp hy with e | hy
      · rw [e]; assumption
      · exact hb y hy
    · split
      · exact h
      · refine List.pairwise_cons.mpr ⟨fun y hy => ?_, h⟩
        rcases List.mem_cons.mp hy with e | hy
        · rw [e]; omega
        · have := hb y hy; omega
theorem labs_mem {x : Int} : ∀ {l : List Int}, x ∈ labs l ↔ x ∈ l
  | [] => by simp [labs]
  | a :: r => by rw [labs, insU_mem, labs_mem, List.mem_cons]
theorem labs_asc : ∀ l : List Int, (labs l).Pairwise (· < ·)
  | [] => .nil
  | a :: r => insU_asc (labs_asc r)
theorem asc_uniq : ∀ {l m : List Int}, l.Pairwise (· < ·) → m.Pairwise (· < ·) → (∀ x, x ∈ l ↔ x ∈ m) → l = m
  | [], [], _, _, _ => rfl
  | [], b :: m, _, _, h => absurd ((h b).mpr List.mem_cons_self) (by simp)
  | a :: l, [], _, _, h => absurd ((h a).mp List.mem_cons_self) (by simp)
  | a :: l, b :: m, h1, h2, h => by
    have a1 := (List.pairwise_cons.mp h1).1
    have b1 := (List.pairwise_cons.mp h2).1
    have e : a = b := by
      rcases List.mem_cons.mp ((h a).mp List.mem_cons_self) with e | q
      · exact e
      · rcases List.mem_cons.mp ((h b).mpr List.mem_cons_self) with e | q2
        · exact e.symm
        · have := a1 b q2
          have := b1 a q
          omega
    subst e
    rw [asc_uniq (List.pairwise_cons.mp h1).2 (List.pairwise_cons.mp h2).2 fun x => ?_]
    constructor
    · intro hx
      rcases List.mem_cons.mp ((h x).mp (List.mem_cons_of_mem _ hx)) with e | q
      · have := a1 x hx; omega
      · exact q
    · intro hx
      rcases List.mem_cons.mp ((h x).mpr (List.mem_cons_of_mem _ hx)) with e | q
      · have := b1 x hx; omega
      · exact q
theorem pos_eq (ls : List Int) (x : Int) : (rgl 0 ls.length).filter (fun z => decide (ls.getD z.toNat 0 = x)) = posOf ls x := by
  unfold rgl posOf
  rw [List.filter_map]
  have e : ((fun z : Int => decide (ls.getD z.toNat 0 = x)) ∘ fun i : Nat => (0 : Int) + (i : Nat)) = fun k => decide (ls.getD k 0 = x) := by
    funext k
    simp
  rw [e]
  exact List.map_congr_left fun i _ => by simp [nat]
theorem pos_len (ls : List Int) (x : Int) : (posOf ls x).length ≤ ls.length := by
  unfold posOf
  rw [List.length_map]
  exact Nat.le_trans (List.length_filter_le _ _) (by simp)
theorem pos_ne {ls : List Int} {x : Int} (h : x ∈ ls) : posOf ls x ≠ [] := by
  obtain ⟨k, hk, e⟩ := List.mem_iff_getElem.mp h
  intro z
  have q : nat k ∈ posOf ls x := by
    unfold posOf
    refine List.mem_map.mpr ⟨k, List.mem_filter.mpr ⟨List.mem_range.mpr hk, ?_⟩, rfl⟩
    rw [List.getD_eq_getElem?_getD, List.getElem?_eq_getElem hk]
    exact decide_eq_true e
  rw [z] at q
  cases q
theorem labs_len (l : List Int) : (labs l).length ≤ l.length := by
  have ins : ∀ (a : Int) (l : List Int), (insU a l).length ≤ l.length + 1 := by
    intro a l
    induction l with
    | nil => simp [insU]
    | cons b r ih =>
      unfold insU
      split
      · simp only [List.length_cons]; omega
      · split
        · simp only [List.length_cons]; omega
        · simp
  induction l with
  | nil => simp [labs]
  | cons a r ih =>
    have := ins a (labs r)
    simp only [labs, List.length_cons]
    omega

section
variable {P : Program} {w : World} {K : PySem.W.Frag} {mg : Str → Option Value} {base : Heap}
/-! ### _law_steps -/
def spLSteps (K : PySem.W.Frag) : Sp := fun vs H Q _ => ∃ (n : Nat), vs = [.int (nat n)] ∧ n ≤ 5 ∧ ∀ p ys H', Nx (TBs K) H H' → H p = none → H' p = some (.lst ys) → Paired (IsL K H') ys (steps n) → Q (.ref p) H'
abbrev N43 : List Str := ["_law_size", "_law_one", "_law_found", "_law_other"]
theorem scLSteps : FnScope N43 ["_law_size"] (defScope (top 43)) := ⟨rfl, rfl, rfl, by decide +kernel, rfl, by decide +kernel, by decide +kernel⟩
theorem ones_eq {n : Nat} : (rgl 0 (nat n).toNat).map (fun z => [z]) = (List.range n).map (fun i => [nat i]) := by
  simp only [rgl, List.map_map]
  rw [show (nat n).toNat = n by simp [nat]]
  exact List.map_congr_left fun i _ => by simp [nat]
theorem stepsRaw_ne {n : Nat} : ∀ s ∈ stepsRaw n, s ≠ [] := by
  intro s hs
  simp only [stepsRaw, List.mem_append, List.mem_map, pairsOf, List.mem_flatMap, pairsRow] at hs
  rcases hs with ⟨i, _, rfl⟩ | ⟨i, _, j, _, rfl⟩ <;> simp
theorem sortL_of {l : List Lot} (h : ∀ s ∈ l, s ≠ []) : Sortable (l.map dL) := .inl fun d hd => by
  obtain ⟨s, hs, rfl⟩ := List.mem_map.mp hd
  cases s with
  | nil => exact absurd rfl (h _ hs)
  | cons a r => exact ⟨_, _, rfl⟩
theorem ok_law_steps (T : Pg K mg base) : Fx P w K mg base 1 "_law_steps" ["_law_size"] (spLSteps K) := by
  refine T.ok "_law_steps" 43 (by simp [fn]) scLSteps (fun _ _ _ _ _ _ us hl => match us, hl with | [_], _ => rfl) (fun vs H Q E h => ?_) fun A outer s H vs Q E hr h => ?_
  · obtain ⟨n, rfl, _⟩ := h
    rfl
  · obtain ⟨n, rfl, h5, q⟩ := h
    refine ⟨_, pss_cons (ps_lcU (i := 2) (TBs K) (x := "_law_one") (j := 1) rfl scLSteps.nd rfl rfl (sw_true rfl rfl rfl (by decide +kernel)) (pi_range1 (by rfl) (T.fr "range") (pa_cons (pv 0) pa_nil)) (blkOk_by (by kernel_rfl)) (fun _ _ _ _ _ => pg_name (i := 1) scLSteps.nd rfl (.inl rfl) (.inr rfl)) (fun _ _ _ _ _ => pts_nil)
        (fun _ _ _ _ _ => pe_tup (pa_cons (pv 1) pa_nil)))
      (pss_cons (ps_forS PassesOwn.never rfl (pi_range1 (by rfl) (T.fr "range") (pa_cons (pv 0) pa_nil)) (pg_name (i := 1) scLSteps.nd rfl (.inr rfl))
        (pss_one (ps_set (i := 2) scLSteps.nd rfl (.inl rfl) (pe_op op_cat (pv 2) (pe_lcU (TBs K) (x := "_law_other") (j := 3) rfl scLSteps.nd (pi_range2 (by rfl) (T.fr "range") (pa_cons (pe_op op_add (pv 1) pe_int) (pa_cons (pv 0) pa_nil)))
          (blkOk_by (by kernel_rfl)) (fun _ _ _ _ _ => pg_name (i := 3) scLSteps.nd rfl (.inl rfl) (.inr rfl)) (fun _ _ _ _ _ => pts_nil) (fun _ _ _ _ _ => pe_tup (pa_cons (pv 1) (pa_cons (pv 3) pa_nil))))))))
      (pss_one (ps_ret (pe_callB (cr_sortD (R := IsL K) stoL dataLt_dL alike_dL (fun b => by rw [depth_dL]; decide) (fun H v b h => h.dp) (by have := hr.units; omega)) (by rfl) (T.fr "sorted") (by decide +kernel) (pa_cons (pv 2) pa_nil))))), ?_⟩
    refine ⟨_, rfl, nat n, rfl, by unfold nat; omega, by unfold nat; omega, Int, Lot, IsI, IsL K, _, rgl 0 (nat n).toNat, fun _ => true, fun z => [z], src_rng, persI, ints_paired _, by rw [rgl_len, sizeLine_eq]; simp [nat]; omega, persL, fun z x H2 hz n2 r => ⟨TIs.yes, fun _ H3 n3 r3 C hC => ?_⟩, fun f0 zs0 H0 hf0 n0 hz0 hp0 => ?_⟩
    · cases r3
      exact ⟨_, rfl, by show 1 ≤ sizeLine; decide, fun p hp => hC _ _ ((Nx.refl H3).new hp) (IsL.of (l := [z]) (SqT.of upd_same))⟩
    rw [keep_map, ones_eq] at hp0
    have hzl0 : zs0.length ≤ 5 := by
      rw [Paired.length hp0]
      simp
      omega
    refine ⟨_, rfl, nat n, rfl, by unfold nat; omega, by unfold nat; omega, (nat n).toNat, _, _, fun i σ H' => Nx (TBs K) H H' ∧ ∃ f ys o t, σ = [some (.int (nat n)), o, some (.ref f), t] ∧ H' f = some (.lst ys) ∧ Paired (IsL K H') ys ((List.range n).map (fun i => [nat i]) ++ (List.range i).flatMap (pairsRow n)) ∧ H f = none ∧ ys.length ≤ 5 + 6 * i,
      walk_range, ⟨n0, f0, zs0, none, none, rfl, hz0, by simpa using hp0, hf0, by omega⟩, fun _ _ _ _ _ => trivial, ?_, ?_⟩
    · rintro i x σ H1 H' hi ⟨n1, f, ys, o, t, rfl, hf, hp, hfn, hlen⟩ ⟨rfl, hx⟩
      have hx' : x = .int (nat i) := by rw [hx]; simp [nat]
      subst hx'
      clear hx
      have hin : i < n := by simpa [nat] using hi
      refine ⟨_, rfl, _, rfl, _, _, rfl, rfl, _, rfl, _, _, rfl, ⟨by unfold nat; omega, by unfold nat; omega, by unfold nat; omega, by unfold nat; omega⟩, Int, Lot, IsI, IsL K, _, rgl (nat i + 1) (nat n - (nat i + 1)).toNat, fun _ => true, fun z => [nat i, z], src_rng, persI, ints_paired _, ?_, persL, fun z x H2 hz n2 r => ⟨TIs.yes, fun _ H3 n3 r3 C hC => ?_⟩, fun D zs H2 hD n2 hz hpz => ?_⟩
      · rw [rgl_len, sizeLine_eq]
        simp [nat]
        omega
      · cases r3
        exact ⟨_, rfl, _, rfl, by show 2 ≤ sizeLine; decide, fun p hp => hC _ _ ((Nx.refl H3).new hp) (IsL.of (l := [nat i, z]) (SqT.of upd_same))⟩
      · rw [keep_map, row_eq] at hpz
        have hzl : zs.length ≤ 6 := by rw [Paired.length hpz]; exact pairsRow_len (by omega)
        refine ⟨f, D, ys, zs, rfl, rfl, n2.lst hf, hz, by rw [sizeLine_eq]; omega, fun p hpn => ?_⟩
        have n4 := n2.new (o := .lst (ys ++ zs)) hpn
        refine ⟨n1.trans n4, p, ys ++ zs, _, _, rfl, upd_same, ?_, n1.non _ (n2.non _ hpn), by rw [List.length_append]; omega⟩
        rw [List.range_succ, List.flatMap_append, ← List.append_assoc]
        simp only [List.flatMap_cons, List.flatMap_nil, List.append_nil]
        exact paired_app (persL.paired n4.tupN hp) (persL.paired ((Nx.refl (ts := TBs K) H2).new hpn).tupN hpz)
    · rintro σ H1 ⟨n1, f, ys, o, t, rfl, hf, hp, hfn, hlen⟩
      have en : (nat n).toNat = n := by simp [nat]
      rw [en] at hp
      refine ⟨_, rfl, f, ys, stepsRaw n, rfl, hf, hp, sortL_of stepsRaw_ne, fun p zs hpn hz => ?_⟩
      exact q p zs _ (n1.new hpn) (n1.non p hpn) upd_same (persL.paired ((Nx.refl (ts := TBs K) H1).new hpn).tupN hz)
/-! ### _law_lots -/
def spLots (K : PySem.W.Frag) : Sp := fun vs H Q _ => ∃ (l : Addr) (ns : List Int), vs = [.ref l] ∧ H l = some (.lst (ns.map V.int)) ∧ ns.length ≤ 60 ∧ ∀ v H', Nx (TBs K) H H' → IsG K H' v (lots ns) → Q v H'
abbrev N38 : List Str := ["_law_labels_here", "_law_found", "_law_label", "_law_k"]
theorem scLots : FnScope N38 ["_law_labels_here"] (defScope (top 38)) := ⟨rfl, rfl, rfl, by decide +kernel, rfl, by decide +kernel, by decide +kernel⟩
theorem ok_law_lots (T : Pg K mg base) : Fx P w K mg base 1 "_law_lots" ["_law_labels_here"] (spLots K) := by
  refine T.ok "_law_lots" 38 (by simp [fn]) scLots (fun _ _ _ _ _ _ us hl => match us, hl with | [_], _ => rfl) (fun vs H Q E h => ?_) fun A outer s H vs Q E hr h => ?_
  · obtain ⟨l, ns, rfl, _⟩ := h
    rfl
  · obtain ⟨l, ns, rfl, hl, h60, q⟩ := h
    refine ⟨_, pss_cons (ps_set (i := 1) scLots.nd rfl (.inl rfl) (pe_lst pa_nil))
      (pss_cons (ps_forS PassesOwn.never rfl (pi_list (pe_callB (cr_sortedSet rfl) (by rfl) (T.fr "sorted") (by decide +kernel) (pa_cons (pe_callTy (cr_setL rfl) (by rfl) (T.fr "set") (by decide +kernel) (pa_cons (pv 0) pa_nil)) pa_nil))) (pg_name (i := 2) scLots.nd rfl (.inr rfl))
        (pss_one (ps_expr (pe_bm PySem.F.plainAttrs_list PySem.F.slot_list_append PySem.F.type_list_append mt_append (pv 1) (pa_cons (pe_callTy call_tuple_of (by rfl) (T.fr "tuple") (by decide +kernel) (pa_cons
          (pe_lcU (TBs K) (x := "_law_k") (j := 3) rfl scLots.nd (pi_range1 (by rfl) (T.fr "range") (pa_cons (pe_callB k_len (by rfl) (T.fr "len") PySem.boot_len (pa_cons (pv 0) pa_nil)) pa_nil)) (blkOk_by (by kernel_rfl)) (fun _ _ _ _ _ => pg_name (i := 3) scLots.nd rfl (.inl rfl) (.inr rfl))
            (fun _ _ _ _ _ => pts_one (pt_cmpR op_eq (pe_ix k_ixL (pv 0) (pv 3) fun _ _ => rfl) (pv 2) (nomark _))) (fun _ _ _ _ _ => pv 3)) pa_nil)) pa_nil)))))
      (pss_one (ps_ret (pe_callTy call_tuple_of (by rfl) (T.fr "tuple") (by decide +kernel) (pa_cons (pe_callB (cr_sortD (R := IsL K) stoL dataLt_dL alike_dL (fun b => by rw [depth_dL]; decide) (fun H v b h => h.dp) (by have := hr.units; omega)) (by rfl) (T.fr "sorted") (by decide +kernel) (pa_cons (pv 1) pa_nil)) pa_nil))))), ?_⟩
    refine ⟨Nat.zero_le _, fun f hf => ?_⟩
    have n0 : Nx (TBs K) H (upd H f (.lst [])) := (Nx.refl H).new hf
    refine ⟨_, rfl, l, ns, rfl, SqL.of (n0.lst hl), by omega, fun se c hse hc => ?_⟩
    refine ⟨se, _, c, rfl, upd_same, by omega, fun ms p hasc hmem hml hpn => ?_⟩
    have em : ms = labs ns := asc_uniq hasc (labs_asc ns) fun x => by
      rw [hmem x, decide_eq_true_iff, labs_mem]
    subst em
    have n1 := (n0.new (o := SetO w se (fun j => decide (j ∈ ns)) c) hse).new (o := .lst ((labs ns).map V.int)) hpn
    have e1 : f ≠ se := ne_of_none (o := .lst []) upd_same hse
    have e2 : f ≠ p := ne_of_none (o := .lst []) (by rw [upd_ne e1]; exact upd_same) hpn
    have hf1 : (upd (upd (upd H f (.lst [])) se (SetO w se (fun j => decide (j ∈ ns)) c)) p (.lst ((labs ns).map V.int))) f = some (.lst []) := by rw [upd_ne e2, upd_ne e1, upd_same]
    have hp1 : (upd (upd (upd H f (.lst [])) se (SetO w se (fun j => decide (j ∈ ns)) c)) p (.lst ((labs ns).map V.int))) p = some (.lst ((labs ns).map V.int)) := upd_same
    refine ⟨p, rfl, ⟨_, SqL.of hp1⟩, (labs ns).length, _, _, fun i σ H' => Nx (TBs K) H H' ∧ H' p = some (.lst ((labs ns).map V.int)) ∧ ∃ acc o, σ = [some (.ref l), some (.ref f), o, none] ∧ H' f = some (.lst acc) ∧ Paired (IsL K H') acc (((labs ns).take i).map (posOf ns)),
      (by have q := walk_list (K := K) (a := p) (xs := (labs ns).map V.int); rwa [List.length_map] at q), ⟨n1, hp1, [], none, rfl, hf1, .nil⟩, fun i σ H' _ h => SqL.of h.2.1, ?_, ?_⟩
    · rintro i x σ H2 H2' hi ⟨n2, hp2, acc, o, rfl, hf2, hacc⟩ ⟨rfl, hx⟩
      have hli : (labs ns)[i]? = some ((labs ns).getD i 0) := by rw [List.getD_eq_getElem?_getD, List.getElem?_eq_getElem hi]; rfl
      have hx' : x = .int ((labs ns).getD i 0) := by
        rw [List.getElem?_map, hli] at hx
        exact (Option.some.inj hx).symm
      subst hx'
      clear hx
      have tk : (labs ns).take (i + 1) = (labs ns).take i ++ [(labs ns).getD i 0] := by
        rw [List.take_succ, hli]
        rfl
      generalize (labs ns).getD i 0 = y at hli tk
      have ll := labs_len ns
      refine ⟨_, rfl, .inl ⟨rfl, _, SqL.of hf2⟩, ?_⟩
      refine ⟨_, rfl, l, _, rfl, .inl (SqL.of (n2.lst hl)), _, rfl, by omega, by rw [List.length_map]; omega, Int, Int, IsI, IsI, _, rgl 0 ns.length, fun z => decide (ns.getD z.toNat 0 = y), fun z => z, by rw [List.length_map]; exact src_rng, persI, ints_paired _, by rw [rgl_len, sizeLine_eq]; omega, persI, fun z x H3 hz3 n3 r => ⟨fun C hC => ?_, fun _ H4 n4 r4 C hC => ⟨_, rfl, hC _ _ (.refl _) r4⟩⟩, fun D ws H3 hD n3 hw hpw => ?_⟩
      · cases r
        obtain ⟨k, hk, rfl⟩ := rg0_mem hz3
        refine ⟨_, rfl, _, rfl, l, _, _, _, rfl, rfl, SqL.of ((n2.trans n3).lst hl), at_ints hk, _, rfl, rfl, _, rfl, ?_⟩
        have e : decide (V.int (ns.getD k 0) = V.int y) = decide (ns.getD k 0 = y) := by simp
        rw [e]
        exact hC H3 (.refl _)
      · rw [List.map_id', pos_eq] at hpw
        have ez := paired_ints hpw
        subst ez
        refine ⟨D, _, rfl, .inl ⟨SqL.of hw, fun t ht => ?_⟩⟩
        have n4 := n3.new (o := .tup ((posOf ns y).map V.int)) ht
        have hf4 := n4.lst hf2
        have hacl : acc.length ≤ 60 := by
          rw [Paired.length hacc, List.length_map]
          have := List.length_take_le' i (labs ns)
          omega
        refine ⟨f, acc, _, rfl, rfl, hf4, by rw [sizeLine_eq]; omega, ?_⟩
        have tw := TupN.lst (ys := acc ++ [.ref t]) hf4
        refine ⟨(n2.trans n4).upd hf, by rw [upd_ne (Ne.symm e2)]; exact n4.lst hp2, acc ++ [.ref t], _, rfl, upd_same, ?_⟩
        rw [tk, List.map_append]
        exact paired_app (persL.paired (n4.tupN.trans tw) hacc) (.cons (persL _ _ _ _ tw (IsL.of (l := posOf ns y) (SqT.of upd_same))) .nil)
    · rintro σ H2 ⟨n2, hp2, acc, o, rfl, hf2, hacc⟩
      rw [List.take_length] at hacc
      refine ⟨_, rfl, f, acc, _, rfl, hf2, hacc, sortL_of fun s hs => ?_, fun g zs hg hz => ⟨g, zs, rfl, .inl ⟨SqL.of upd_same, fun t ht => ?_⟩⟩⟩
      · obtain ⟨y, hy, rfl⟩ := List.mem_map.mp hs
        exact pos_ne (labs_mem.mp hy)
      · have n3 := (n2.new (o := .lst zs) hg).new (o := .tup zs) ht
        exact q _ _ n3 ⟨t, zs, rfl, SqT.of upd_same, persL.paired (((Nx.refl (ts := TBs K) H2).new hg).new ht).tupN hz⟩
end
end Tg
/-! _law_labels. -/
namespace Tg
open PySem PySem.Spec PySem.W PyProof.Rows L2 GxR

theorem label_at : ∀ {g : List Lot} {k : Nat} {p : Int}, g.flatten.Nodup → p ∈ g.getD k [] → g.findIdx (fun l => l.contains p) = k
  | [], k, p, _, h => by simp at h
  | a :: r, 0, p, _, h => by
    have h : p ∈ a := by simpa using h
    rw [List.findIdx_cons, show a.contains p = true by simpa using h]
    rfl
  | a :: r, k + 1, p, hn, h => by
    have h : p ∈ r.getD k [] := by simpa using h
    rw [List.flatten_cons, List.nodup_append] at hn
    have hr : p ∈ r.flatten := by
      rw [List.getD_eq_getElem?_getD] at h
      cases e : r[k]? with
      | none => rw [e] at h; simp at h
      | some l =>
        rw [e] at h
        exact List.mem_flatten.mpr ⟨l, List.mem_of_getElem? e, by simpa using h⟩
    have ha : a.contains p = false := by
      rw [Bool.eq_false_iff]
      intro z
      have z : p ∈ a := by simpa using z
      exact hn.2.2 p z p hr rfl
    rw [List.findIdx_cons, ha, label_at hn.2.1 h]
    rfl
abbrev kvF (g : Gr) (pre : List Int) : List (Key × V) := pre.map fun p => (Sum.inl p, V.int (labelOf g p))
theorem put_new {kvs : List (Key × V)} {k : Key} {v : V} (h : ∀ kv ∈ kvs, kv.1 ≠ k) : putK kvs k v = kvs ++ [(k, v)] := by
  unfold putK
  rw [if_neg]
  intro z
  obtain ⟨kv, h1, h2⟩ := List.any_eq_true.mp z
  exact h kv h1 (of_decide_eq_true h2)
theorem put_kvF {g : Gr} {pre : List Int} {p : Int} (h : p ∉ pre) : putK (kvF g pre) (Sum.inl p) (V.int (labelOf g p)) = kvF g (pre ++ [p]) := by
  rw [put_new]
  · show _ = List.map _ (pre ++ [p])
    rw [List.map_append]
    rfl
  · intro kv hkv e
    obtain ⟨q, hq, rfl⟩ := List.mem_map.mp hkv
    exact h (by
      have e : (Sum.inl q : Key) = Sum.inl p := e
      injection e with e
      rw [← e]
      exact hq)
theorem val_kvF {g : Gr} {p : Int} : ∀ {pre : List Int}, p ∈ pre → valV (kvF g pre) (Sum.inl p) = some (V.int (labelOf g p))
  | [], h => by cases h
  | q :: pre, h => by
    by_cases e : q = p
    · subst e
      exact valV_pos rfl
    · have h : p ∈ pre := by
        rcases List.mem_cons.mp h with z | z
        · exact absurd z.symm e
        · exact z
      have ih := val_kvF (g := g) h
      unfold valV at ih ⊢
      show ((List.find? _ ((Sum.inl q, V.int (labelOf g q)) :: kvF g pre)).map _) = _
      rw [List.find?_cons]
      have e2 : decide ((Sum.inl q : Key) = Sum.inl p) = false := decide_eq_false fun z => e (by injection z)
      simp only [e2]
      exact ih
theorem TupN.dK {H : Hp} {p : Addr} {kvs : List (Key × V)} {o : HO} (h : H p = some (.dK kvs)) : TupN H (L2.upd H p o) := fun b zs hb => by
  have ne : b ≠ p := fun e => by
    subst e
    rcases hb with hb | ⟨_, hb⟩ <;> (rw [h] at hb; cases hb)
  rcases hb with hb | ⟨u, hb⟩
  · exact .inl (by rw [upd_ne ne]; exact hb)
  · exact .inr ⟨u, by rw [upd_ne ne]; exact hb⟩
/-- the people ahead of the j-th of lot k -/
abbrev ahead (g : Gr) (k j : Nat) : List Int := (g.take k).flatten ++ (g.getD k []).take j
theorem ahead_next {g : Gr} {k : Nat} {l : Lot} (h : g[k]? = some l) : ahead g k l.length = ahead g (k + 1) 0 := by
  have e : g.getD k [] = l := by rw [List.getD_eq_getElem?_getD, h]; rfl
  have tk : g.take (k + 1) = g.take k ++ [l] := by
    rw [List.take_succ, h]
    rfl
  simp only [ahead]
  rw [e, List.take_length, tk, List.flatten_append, List.take_zero, List.append_nil]
  simp
theorem ahead_new {g : Gr} {k j : Nat} {l : Lot} {p : Int} (hn : g.flatten.Nodup) (h : g[k]? = some l) (hp : l[j]? = some p) : p ∉ ahead g k j ∧ ahead g k (j + 1) = ahead g k j ++ [p] := by
  have e : g.getD k [] = l := by rw [List.getD_eq_getElem?_getD, h]; rfl
  have tk : g.take (k + 1) = g.take k ++ [l] := by
    rw [List.take_succ, h]
    rfl
  have tj : l.take (j + 1) = l.take j ++ [p] := by
    rw [List.take_succ, hp]
    rfl
  have e1 : ahead g k (j + 1) = ahead g k j ++ [p] := by
    simp only [ahead]
    rw [e, tj, List.append_assoc]
  refine ⟨fun z => ?_, e1⟩
  have q1 : (ahead g k l.length).Nodup := by
    rw [ahead_next h]
    simp only [ahead, List.take_zero, List.append_nil]
    refine List.Nodup.sublist ?_ hn
    conv => rhs; rw [← List.take_append_drop (k + 1) g]
    rw [List.flatten_append]
    exact List.sublist_append_left _ _
  have q2 : (ahead g k (j + 1)).Nodup := by
    refine List.Nodup.sublist ?_ q1
    simp only [ahead]
    rw [e, List.take_length]
    exact List.Sublist.append_left (List.take_sublist _ _) _
  rw [e1, List.nodup_append] at q2
  exact q2.2.2 p z p (by simp) rfl
theorem okG_nodup {n : Nat} {g : Gr} (h : okG n g = true) : g.flatten.Nodup := by
  have p := isort_perm (fun a b : Int => decide (a < b)) g.flatten
  rw [(okG_parts h).2.2.1] at p
  refine p.nodup_iff.mp ?_
  unfold rng
  exact List.Pairwise.map nat (fun a b h z => h (by have z : ((a : Nat) : Int) = ((b : Nat) : Int) := z; omega)) List.nodup_range

section
variable {P : Program} {w : World} {K : PySem.W.Frag} {mg : Str → Option Value} {base : Heap}
def spLabels (K : PySem.W.Frag) : Sp := fun vs H Q _ => ∃ (n : Nat) (v : V) (g : Gr), vs = [v] ∧ IsG K H v g ∧ n ≤ 6 ∧ okG n g = true ∧ ∀ p H', Nx (TBs K) H H' → H p = none → H' p = some (.lst ((labels g).map V.int)) → Q (.ref p) H'
abbrev N39 : List Str := ["_law_grouping_here", "_law_found", "_law_k", "_law_person"]
theorem scLabels : FnScope N39 ["_law_grouping_here"] (defScope (top 39)) := ⟨rfl, rfl, rfl, by decide +kernel, rfl, by decide +kernel, by decide +kernel⟩
theorem ok_law_labels (T : Pg K mg base) : Fx P w K mg base 1 "_law_labels" ["_law_grouping_here"] (spLabels K) := by
  refine T.ok "_law_labels" 39 (by simp [fn]) scLabels (fun _ _ _ _ _ _ us hl => match us, hl with | [_], _ => rfl) (fun vs H Q E h => ?_) fun A outer s H vs Q E hr h => ?_
  · obtain ⟨n, v, g, rfl, _⟩ := h
    rfl
  · obtain ⟨n, v, g, rfl, hg, hn, hok, q⟩ := h
    obtain ⟨a, xs, rfl, sq, pr⟩ := id hg
    have hu := hu_of hr
    refine ⟨_, pss_cons (ps_set (i := 1) scLabels.nd rfl (.inr rfl) pe_dnewK)
      (pss_cons (ps_forS PassesOwn.never rfl (pi_range1 (by rfl) (T.fr "range") (pa_cons (pe_callB k_len (by rfl) (T.fr "len") PySem.boot_len (pa_cons (pv 0) pa_nil)) pa_nil)) (pg_name (i := 2) scLabels.nd rfl (.inl rfl))
        (pss_one (ps_forS PassesOwn.never rfl (pi_tup (pe_ix k_ixT (pv 0) (pv 2) fun _ _ => rfl)) (pg_name (i := 3) scLabels.nd rfl (.inl rfl))
          (pss_one (ps_dput hu (pv 1) (pv 3) (pv 2) rfl)))))
      (pss_one (ps_ret (pe_lcU (TBs K) (x := "_law_person") (j := 3) rfl scLabels.nd (pi_list (pe_callB cr_sorted (by rfl) (T.fr "sorted") (by decide +kernel) (pa_cons (pe_callTy (call_list_dK rfl) (by rfl) (T.fr "list") (by decide +kernel) (pa_cons (pv 1) pa_nil)) pa_nil)))
        (blkOk_by (by kernel_rfl)) (fun _ _ _ _ _ => pg_name (i := 3) scLabels.nd rfl (.inl rfl) (.inr rfl)) (fun _ _ _ _ _ => pts_nil) (fun _ _ _ _ _ => pe_dget hu (pv 1) (pv 3) fun _ _ => rfl))))), ?_⟩
    refine fun d hd => ?_
    have n0 : Nx (TBs K) H (upd H d (.dK [])) := (Nx.refl H).new hd
    have nod := okG_nodup hok
    have hxl : xs.length = g.length := Paired.length pr
    have gc := okG_cnt hok
    refine ⟨_, rfl, a, xs, rfl, .inr (n0.tupN.sq sq), _, rfl, by omega, by omega, ((xs.length : Nat) : Int).toNat, _, _, fun k σ H' => Nx (TBs K) H H' ∧ H' d = some (.dK (kvF g (ahead g k 0))) ∧ ∃ o t, σ = [some (.ref a), some (.ref d), o, t],
      walk_range, ⟨n0, upd_same, none, none, rfl⟩, fun _ _ _ _ _ => trivial, ?_, ?_⟩
    · rintro k x σ H1 H' hk ⟨n1, hd1, o, t, rfl⟩ ⟨rfl, hx⟩
      have hx' : x = .int (nat k) := by rw [hx]; simp [nat]
      subst hx'
      clear hx
      have hkx : k < xs.length := by simpa using hk
      obtain ⟨l, hl, r⟩ := paired_get pr (List.getElem?_eq_getElem hkx)
      have el : g.getD k [] = l := by rw [List.getD_eq_getElem?_getD, hl]; rfl
      obtain ⟨b, eb, sqb⟩ := r.sq
      have hat : xs[k]? = some (.ref b) := by rw [List.getElem?_eq_getElem hkx, eb]
      refine ⟨_, rfl, _, rfl, a, xs, _, _, rfl, rfl, n1.tupN.sq sq, atI_nat hat, b, rfl, ⟨_, n1.tupN.sq sqb⟩, l.length, _, _, fun j σ H2 => Nx (TBs K) H H2 ∧ H2 d = some (.dK (kvF g (ahead g k j))) ∧ ∃ t, σ = [some (.ref a), some (.ref d), some (.int (nat k)), t],
        (by have q := walk_tup (K := K) (a := b) (xs := l.map V.int); rwa [List.length_map] at q), ⟨n1, hd1, t, rfl⟩, fun j σ H2 _ h => h.1.tupN.sq sqb, ?_, ?_⟩
      · rintro j x σ H2 H3 hj ⟨n2, hd2, t, rfl⟩ ⟨rfl, hx⟩
        have hlj : l[j]? = some (l.getD j 0) := by rw [List.getD_eq_getElem?_getD, List.getElem?_eq_getElem hj]; rfl
        have hx' : x = .int (l.getD j 0) := by
          rw [List.getElem?_map, hlj] at hx
          exact (Option.some.inj hx).symm
        subst hx'
        clear hx
        generalize l.getD j 0 = p at hlj
        obtain ⟨a1, a2⟩ := ahead_new nod hl hlj
        have lab : labelOf g p = nat k := by
          unfold labelOf
          rw [label_at nod (k := k) (by rw [el]; exact List.mem_of_getElem? hlj)]
        have hlen : (kvF g (ahead g k j)).length ≤ n := by
          rw [List.length_map, ← okG_len hok]
          refine List.Sublist.length_le ?_
          refine List.Sublist.trans (l₂ := ahead g k l.length) ?_ ?_
          · simp only [ahead]
            rw [el, List.take_length]
            exact List.Sublist.append_left (List.take_sublist _ _) _
          · rw [ahead_next hl]
            simp only [ahead, List.take_zero, List.append_nil]
            conv => rhs; rw [← List.take_append_drop (k + 1) g]
            rw [List.flatten_append]
            exact List.sublist_append_left _ _
        refine ⟨_, rfl, _, rfl, _, rfl, d, _, rfl, DPut.k (k := Sum.inl p) hd2 (by rw [sizeLine_eq]; omega), ?_⟩
        refine ⟨n2.upd hd, ?_, _, rfl⟩
        rw [upd_same, a2, ← put_kvF a1, lab]
      · rintro σ H2 ⟨n2, hd2, t, rfl⟩
        rw [ahead_next hl] at hd2
        exact ⟨n2, hd2, _, _, rfl⟩
    · rintro σ H1 ⟨n1, hd1, o, t, rfl⟩
      have ea : ahead g ((xs.length : Nat) : Int).toNat 0 = g.flatten := by
        simp only [ahead, List.take_zero, List.append_nil]
        rw [show ((xs.length : Nat) : Int).toNat = g.length by omega, List.take_length]
      rw [ea] at hd1
      refine ⟨_, rfl, d, _, rfl, hd1, fun r hr1 => ?_⟩
      have ek : (kvF g g.flatten).map (fun kv => kV kv.1) = g.flatten.map V.int := by
        rw [List.map_map]
        exact List.map_congr_left fun i _ => rfl
      rw [ek]
      have gl := okG_len hok
      refine ⟨r, _, rfl, SqL.of upd_same, by omega, fun ns' u hperm hsort hu => ?_⟩
      have en : ns' = rng n := by rw [isort_of hperm hsort, (okG_parts hok).2.2.1]
      subst en
      have n2 := (n1.new (o := .lst (g.flatten.map V.int)) hr1).new (o := .lst ((rng n).map V.int)) hu
      have n12 := ((Nx.refl (ts := TBs K) H1).new (o := .lst (g.flatten.map V.int)) hr1).new (o := .lst ((rng n).map V.int)) hu
      have hd2 := n12.ext d _ hd1 fun ps z => by cases z
      refine ⟨u, rfl, ⟨_, SqL.of upd_same⟩, Int, Int, IsI, IsI, _, rng n, fun _ => true, labelOf g, src_list (SqL.of upd_same), persI, ints_paired _, by simp [rng, sizeLine_eq]; omega, persI, fun z x H3 hz n3 r3 => ⟨TIs.yes, fun _ H4 n4 r4 C hC => ?_⟩, fun D ws H3 hD n3 hw hpw => ?_⟩
      · cases r4
        have hd4 := n4.ext d _ hd2 fun ps z => by cases z
        have zin : z ∈ g.flatten := hperm.mem_iff.mp hz
        have g1 := DGet.k (k := Sum.inl z) hd4
        rw [val_kvF zin] at g1
        exact ⟨_, rfl, _, rfl, d, _, rfl, g1, hC _ _ (.refl _) rfl⟩
      · rw [keep_map] at hpw
        have ez := paired_ints hpw
        subst ez
        have q2 := q D H3 (n2.trans n3) (n2.non D hD)
        unfold labels at q2
        rw [okG_size hok] at q2
        exact q2 hw
end
end Tg
/-! _law_groupings. -/
namespace Tg
open PySem PySem.Spec PySem.W PyProof.Rows L2 GxR

/-- a list of ints that is not changed -/
def IsIL : Rel (List Int) := fun H v ns => ∃ a, v = .ref a ∧ H a = some (.lst (ns.map V.int))
theorem IsIL.nx {ts : List Addr} {H H' : Hp} {v : V} {ns : List Int} (n : Nx ts H H') (h : IsIL H v ns) : IsIL H' v ns := by
  obtain ⟨a, e, h⟩ := h
  exact ⟨a, e, n.lst h⟩
theorem il_paired {ts : List Addr} {H H' : Hp} (n : Nx ts H H') {xs : List V} {ls : List (List Int)} (p : Paired (IsIL H) xs ls) : Paired (IsIL H') xs ls := Paired.mapP p fun v x q => q.nx n
/-- the values with what they stand for -/
abbrev IsFst {β : Type} : Rel (V × β) := fun _ v b => v = b.1
theorem persF {β : Type} : PersT (IsFst (β := β)) := fun _ _ _ _ _ h => h
theorem zip_paired {β : Type} {R : V → β → Prop} {H : Hp} : ∀ {xs : List V} {zs : List β}, Paired R xs zs → Paired (IsFst H) xs (xs.zip zs)
  | _, _, .nil => .nil
  | _, _, .cons _ t => .cons rfl (zip_paired t)
theorem zip_mem {β : Type} {R : V → β → Prop} : ∀ {xs : List V} {zs : List β}, Paired R xs zs → ∀ b ∈ xs.zip zs, R b.1 b.2 ∧ b.2 ∈ zs
  | _, _, .nil, b, h => by simp at h
  | _, _, .cons r t, b, h => by
    rw [List.zip_cons_cons] at h
    rcases List.mem_cons.mp h with e | h
    · rw [e]; exact ⟨r, List.mem_cons_self⟩
    · have q := zip_mem t b h
      exact ⟨q.1, List.mem_cons_of_mem _ q.2⟩
theorem zip_len {β : Type} {R : V → β → Prop} {xs : List V} {zs : List β} (p : Paired R xs zs) : (xs.zip zs).length = zs.length := by
  rw [List.length_zip, Paired.length p, Nat.min_self]
theorem rawL_len {n : Nat} (h : n ≤ 5) : (rawL n).length ≤ 52 := by
  rcases (by omega : n = 0 ∨ n = 1 ∨ n = 2 ∨ n = 3 ∨ n = 4 ∨ n = 5) with rfl | rfl | rfl | rfl | rfl | rfl <;> decide +kernel
theorem rawL_all {n : Nat} (h : n ≤ 5) : ∀ ls ∈ rawL n, ls.length ≤ 5 ∧ 0 ≤ topOf ls ∧ topOf ls ≤ 7 := by
  have q : (rawL n).all (fun ls => decide (ls.length ≤ 5) && (decide (0 ≤ topOf ls) && decide (topOf ls ≤ 7))) = true := by
    rcases (by omega : n = 0 ∨ n = 1 ∨ n = 2 ∨ n = 3 ∨ n = 4 ∨ n = 5) with rfl | rfl | rfl | rfl | rfl | rfl <;> decide +kernel
  intro ls hls
  have q2 := List.all_eq_true.mp q ls hls
  simp only [Bool.and_eq_true, decide_eq_true_eq] at q2
  exact q2
theorem lots_ne {n : Nat} (h1 : 1 ≤ n) (h : n ≤ 5) : ∀ g ∈ (rawL n).map lots, g ≠ [] := by
  have q : ((rawL n).map lots).all (fun g => !g.isEmpty) = true := by
    rcases (by omega : n = 1 ∨ n = 2 ∨ n = 3 ∨ n = 4 ∨ n = 5) with rfl | rfl | rfl | rfl | rfl <;> decide +kernel
  intro g hg e
  have q2 := List.all_eq_true.mp q g hg
  rw [e] at q2
  cases q2
theorem top_fold : ∀ (ls : List Int) (m : Int), let r := ls.foldl (fun m x => if m < x then x else m) m; (r = m ∨ r ∈ ls) ∧ m ≤ r ∧ ∀ y ∈ ls, y ≤ r
  | [], m => ⟨.inl rfl, Int.le_refl _, fun y hy => by cases hy⟩
  | a :: r, m => by
    simp only [List.foldl_cons]
    have ih := top_fold r (if m < a then a else m)
    obtain ⟨i1, i2, i3⟩ := ih
    by_cases hm : m < a
    · rw [if_pos hm] at i1 i2 i3 ⊢
      refine ⟨.inr ?_, by omega, fun y hy => ?_⟩
      · rcases i1 with e | e
        · rw [e]; exact List.mem_cons_self
        · exact List.mem_cons_of_mem _ e
      · rcases List.mem_cons.mp hy with e | hy
        · rw [e]; exact i2
        · exact i3 y hy
    · rw [if_neg hm] at i1 i2 i3 ⊢
      refine ⟨?_, i2, fun y hy => ?_⟩
      · rcases i1 with e | e
        · exact .inl e
        · exact .inr (List.mem_cons_of_mem _ e)
      · rcases List.mem_cons.mp hy with e | hy
        · rw [e]; omega
        · exact i3 y hy
theorem top_eq {ls : List Int} {m : Int} (h : m ∈ ls ++ [-1]) (ub : ∀ y ∈ ls ++ [-1], y ≤ m) : m + 2 = topOf ls := by
  obtain ⟨i1, i2, i3⟩ := top_fold ls (-1)
  unfold topOf
  have e : m = ls.foldl (fun m x => if m < x then x else m) (-1) := by
    have u1 := ub (-1) (by simp)
    rcases List.mem_append.mp h with hm | hm
    · have := i3 m hm
      rcases i1 with e | e
      · omega
      · have := ub _ (List.mem_append_left _ e)
        omega
    · have hm := List.mem_singleton.mp hm
      rcases i1 with e | e
      · omega
      · have := ub _ (List.mem_append_left _ e)
        omega
  rw [e]
theorem growL_eq (ls : List Int) : (rgl 0 (topOf ls).toNat).map (fun z => ls ++ [z]) = growL ls := by
  simp only [rgl, growL, List.map_map]
  exact List.map_congr_left fun k _ => by simp [nat]
section
variable {P : Program} {w : World} {K : PySem.W.Frag} {mg : Str → Option Value} {base : Heap}
def spLGs (K : PySem.W.Frag) : Sp := fun vs H Q _ => ∃ (n : Nat), vs = [.int (nat n)] ∧ 1 ≤ n ∧ n ≤ 5 ∧ ∀ p ys H', Nx (TBs K) H H' → H p = none → H' p = some (.lst ys) → Paired (IsG K H') ys (LG n) → Q (.ref p) H'
abbrev N45 : List Str := ["_law_size", "_law_found", "_law_person", "_law_more", "_law_labels_here", "_law_top", "_law_label"]
theorem scLGs : FnScope N45 ["_law_size"] (defScope (top 45)) := ⟨rfl, rfl, rfl, by decide +kernel, rfl, by decide +kernel, by decide +kernel⟩
theorem ok_law_groupings (T : Pg K mg base) : Fx P w K mg base 2 "_law_groupings" ["_law_size"] (spLGs K) := by
  refine T.ok "_law_groupings" 45 (by simp [fn]) scLGs (fun _ _ _ _ _ _ us hl => match us, hl with | [_], _ => rfl) (fun vs H Q E h => ?_) fun A outer s H vs Q E hr h => ?_
  · obtain ⟨n, rfl, _⟩ := h
    rfl
  · obtain ⟨n, rfl, h1, h5, q⟩ := h
    refine ⟨_, pss_cons (ps_set (i := 1) scLGs.nd rfl (.inl rfl) (pe_lst (pa_cons (pe_lst pa_nil) pa_nil)))
      (pss_cons (ps_forS PassesOwn.never rfl (pi_range1 (by rfl) (T.fr "range") (pa_cons (pv 0) pa_nil)) (pg_name (i := 2) scLGs.nd rfl (.inl rfl))
        (pss_cons (ps_set (i := 3) scLGs.nd rfl (.inl rfl) (pe_lst pa_nil))
        (pss_cons (ps_forS PassesOwn.never rfl (pi_list (pv 1)) (pg_name (i := 4) scLGs.nd rfl (.inr rfl))
          (pss_cons (ps_set (i := 5) scLGs.nd rfl (.inl rfl) (pe_op op_add (pe_callB (cr_max rfl) (by rfl) (T.fr "max") (by decide +kernel) (pa_cons (pe_op op_cat (pv 4) (pe_lst (pa_cons (pe_un un_neg pe_int) pa_nil))) pa_nil)) pe_int))
          (pss_one (ps_set (i := 3) scLGs.nd rfl (.inl rfl) (pe_op op_cat (pv 3) (pe_lcS (TBs K) (x := "_law_label") (j := 6) rfl scLGs.nd (pi_range1 (by rfl) (T.fr "range") (pa_cons (pv 5) pa_nil)) (blkOk_by (by kernel_rfl)) (fun _ _ _ _ _ => pg_name (i := 6) scLGs.nd rfl (.inl rfl) (.inr rfl)) (fun _ _ _ _ _ => pts_nil)
            (fun _ _ _ _ _ => pe_op op_cat (pv 4) (pe_lst (pa_cons (pv 6) pa_nil)))))))))
        (pss_one (ps_set (i := 1) scLGs.nd rfl (.inl rfl) (pv 3))))))
      (pss_one (ps_ret (pe_callB (cr_sortD (R := IsG K) stoG dataLt_dG alike_dG (fun b => Nat.le_trans (depth_dG b) (by decide)) (fun H v b h => h.dp) (by have := hr.units; omega)) (by rfl) (T.fr "sorted") (by decide +kernel) (pa_cons
        (pe_lcU (TBs K) (x := "_law_labels_here") (j := 4) rfl scLGs.nd (pi_list (pv 1)) (blkOk_by (by kernel_rfl)) (fun _ _ _ _ _ => pg_name (i := 4) scLGs.nd rfl (.inl rfl) (.inr rfl)) (fun _ _ _ _ _ => pts_nil) (fun _ _ _ _ _ => pe_fx (ok_law_lots T) hr (by rfl) (pa_cons (pv 4) pa_nil))) pa_nil))))), ?_⟩
    refine ⟨Nat.zero_le _, fun t0 ht0 => ⟨by show 1 ≤ sizeLine; decide, fun f0 hf0 => ?_⟩⟩
    have n0 : Nx (TBs K) H (upd (upd H t0 (.lst [])) f0 (.lst [.ref t0])) := ((Nx.refl H).new ht0).new hf0
    have htf : t0 ≠ f0 := ne_of_none (o := .lst []) upd_same hf0
    refine ⟨_, rfl, nat n, rfl, by unfold nat; omega, by unfold nat; omega, (nat n).toNat, _, _, fun i σ H' => Nx (TBs K) H H' ∧ ∃ f ys a b c d e, σ = [some (.int (nat n)), some (.ref f), a, b, c, d, e] ∧ H' f = some (.lst ys) ∧ Paired (IsIL H') ys (rawL i),
      walk_range, ⟨n0, f0, _, none, none, none, none, none, rfl, upd_same, .cons ⟨t0, rfl, by rw [upd_ne htf, upd_same]; rfl⟩ .nil⟩, fun _ _ _ _ _ => trivial, ?_, ?_⟩
    · rintro i x σ H1 H' hi ⟨n1, f, ys, a, b, c, d, e, rfl, hf, hp⟩ ⟨rfl, hx⟩
      have hx' : x = .int (nat i) := by rw [hx]; simp [nat]
      subst hx'
      clear hx
      have hin : i < n := by simpa [nat] using hi
      have big : (rawL (i + 1)).length ≤ 52 := rawL_len (by omega)
      refine ⟨Nat.zero_le _, fun m0 hm0 => ?_⟩
      have nm := (Nx.refl (ts := TBs K) H').new (o := .lst []) hm0
      refine ⟨_, rfl, f, rfl, ⟨ys, SqL.of (nm.lst hf)⟩, ys.length, _, _, fun k σ H2 => Nx (TBs K) H' H2 ∧ ∃ m acc c d e, σ = [some (.int (nat n)), some (.ref f), some (.int (nat i)), some (.ref m), c, d, e] ∧ H2 m = some (.lst acc) ∧ Paired (IsIL H2) acc (((rawL i).take k).flatMap growL),
        walk_list, ⟨nm, m0, [], c, d, e, rfl, upd_same, .nil⟩, fun k σ H2 _ h => SqL.of (h.1.lst hf), ?_, ?_⟩
      · rintro k x σ H2 H2' hk ⟨n2, m, acc, c, d, e, rfl, hm2, hacc⟩ ⟨rfl, hx⟩
        obtain ⟨ls, hls, r⟩ := paired_get hp hx
        obtain ⟨la, rfl, hla⟩ := r
        have lin := List.mem_of_getElem? hls
        obtain ⟨l1, l2, l3⟩ := rawL_all (show i ≤ 5 by omega) ls lin
        have tk : (rawL i).take (k + 1) = (rawL i).take k ++ [ls] := by
          rw [List.take_succ, hls]
          rfl
        have cnt : (((rawL i).take k).flatMap growL).length + (growL ls).length ≤ 52 := by
          have q1 := flatMap_take_len growL (rawL i) (k + 1)
          rw [tk, List.flatMap_append, List.length_append] at q1
          simp only [List.flatMap_cons, List.flatMap_nil, List.append_nil] at q1
          exact Nat.le_trans q1 big
        have hla2 := n2.lst hla
        refine ⟨_, rfl, 1, rfl, by show 1 ≤ sizeLine; decide, fun t ht => ?_⟩
        have n3 := (Nx.refl (ts := TBs K) H2').new (o := .lst [.int (-1)]) ht
        refine ⟨la, t, _, _, rfl, rfl, n3.lst hla2, upd_same, by simp [sizeLine_eq]; omega, fun u hu => ?_⟩
        have n4 := n3.new (o := .lst (ls.map V.int ++ [.int (-1)])) hu
        refine ⟨u, ls ++ [-1], rfl, SqL.of (by rw [upd_same, List.map_append]; rfl), by simp, fun mx hmx hub => ?_⟩
        have etop := top_eq hmx hub
        refine ⟨_, _, rfl, rfl, ?_⟩
        generalize (upd (upd H2' t (.lst [.int (-1)])) u (.lst (ls.map V.int ++ [.int (-1)]))) = H4 at n4
        have hla4 := n4.lst hla2
        refine ⟨_, rfl, _, rfl, _, rfl, by omega, by omega, Int, List Int, IsI, fun D => fun H v ns => ∃ a, v = .ref a ∧ a ≠ D ∧ H a = some (.lst (ns.map V.int)), _, rgl 0 (mx + 2).toNat, fun _ => true, fun z => ls ++ [z], src_rng, persI, ints_paired _, by rw [rgl_len, sizeLine_eq]; omega, fun D hD => ⟨?_, ?_, ?_⟩, fun D ws H5 hD n5 hw hpw => ?_⟩
        · rintro Ha Hb v z na ⟨a, e, ne, h⟩
          exact ⟨a, e, ne, na.lst h⟩
        · rintro Ha ac ac' v z hDa ⟨a, e, ne, h⟩
          exact ⟨a, e, ne, by rw [upd_ne ne]; exact h⟩
        · intro z y H5 hz n5 hD5 r5
          refine ⟨TIs.yes, fun _ H6 n6 hD6 r6 C hC => ?_⟩
          cases r6
          refine ⟨_, rfl, _, rfl, by show 1 ≤ sizeLine; decide, fun t6 ht6 => ?_⟩
          have n7 := (Nx.refl (ts := TBs K) H6).new (o := .lst [.int z]) ht6
          refine ⟨la, t6, _, _, rfl, rfl, n7.lst (n6.lst hla4), upd_same, by simp [sizeLine_eq]; omega, fun u6 hu6 => ?_⟩
          exact hC _ _ (n7.new hu6) ⟨u6, rfl, fun e => hD6 (by rw [← e]; exact n7.non u6 hu6), by rw [upd_same, List.map_append]; rfl⟩
        · rw [keep_map, etop, growL_eq] at hpw
          have hpw2 : Paired (IsIL H5) ws (growL ls) := Paired.mapP hpw fun v z ⟨a, e, _, h⟩ => ⟨a, e, h⟩
          have wl := Paired.length hpw2
          have al := Paired.length hacc
          have n45 := n4.trans n5
          refine ⟨m, D, acc, ws, rfl, rfl, n45.lst hm2, hw, by rw [sizeLine_eq]; omega, fun p6 hp6 => ?_⟩
          have n6 := n45.new (o := .lst (acc ++ ws)) hp6
          refine ⟨n2.trans n6, p6, acc ++ ws, _, _, _, rfl, upd_same, ?_⟩
          rw [tk, List.flatMap_append]
          simp only [List.flatMap_cons, List.flatMap_nil, List.append_nil]
          exact paired_app (il_paired n6 hacc) (il_paired ((Nx.refl (ts := TBs K) H5).new hp6) hpw2)
      · rintro σ H2 ⟨n2, m, acc, c, d, e, rfl, hm2, hacc⟩
        rw [show ys.length = (rawL i).length from Paired.length hp, List.take_length] at hacc
        exact ⟨_, rfl, n1.trans n2, m, acc, _, _, c, d, e, rfl, hm2, hacc⟩
    · rintro σ H1 ⟨n1, f, ys, a, b, c, d, e, rfl, hf, hp⟩
      have en : (nat n).toNat = n := by simp [nat]
      rw [en] at hp
      have rl := rawL_len h5
      refine ⟨_, rfl, f, rfl, ⟨_, SqL.of hf⟩, V × List Int, Gr, IsFst, IsG K, ys, ys.zip (rawL n), fun _ => true, fun b => lots b.2, src_list (SqL.of hf), persF, zip_paired hp, by rw [zip_len hp, sizeLine_eq]; omega, persG, fun z x H2 hz n2 r => ⟨TIs.yes, fun _ H3 n3 r3 C hC => ?_⟩, fun D ws H2 hD n2 hw hpw => ?_⟩
      · obtain ⟨⟨la, e1, hla⟩, lin⟩ := zip_mem hp z hz
        have r3 : x = z.1 := r3
        rw [r3, e1]
        obtain ⟨l1, _⟩ := rawL_all h5 z.2 lin
        exact ⟨_, rfl, la, z.2, rfl, n3.lst hla, by omega, fun v H4 n4 hv => hC v H4 n4 hv⟩
      · rw [keep_map, show (ys.zip (rawL n)).map (fun b => lots b.2) = ((ys.zip (rawL n)).map (·.2)).map lots by rw [List.map_map]; rfl, zip_snd hp] at hpw
        refine ⟨D, ws, _, rfl, hw, hpw, .inl fun d hd => ?_, fun p zs hpn hz => ?_⟩
        · obtain ⟨g, hg, rfl⟩ := List.mem_map.mp hd
          cases g with
          | nil => exact absurd rfl (lots_ne h1 h5 _ hg)
          | cons l g => exact ⟨_, _, rfl⟩
        · exact q p zs _ ((n1.trans n2).new hpn) (n1.non p (n2.non p hpn)) upd_same (persG.paired ((Nx.refl (ts := TBs K) H2).new hpn).tupN hz)
end
end Tg
/-! the law's plain mathematics. -/
namespace Tg
open PySem PyProof.Rows

structure Ck (n : Nat) : Prop where
  lg : LG n = AG n
  ok : ∀ g ∈ AG n, okG n g = true
  asc : ascG (AG n) = true
  st : (steps n).filter (fun s => decide (s.length = 2)) = pairsOf n
  okp : ∀ p ∈ pairsOf n, okP n p = true
  ascp : ascL (pairsOf n) = true
  ne : AG n ≠ []
  tog : ∀ g ∈ AG n, ∀ p ∈ pairsOf n, together g p = decide (atL (labels g) (p.getD 0 0) = atL (labels g) (p.getD 1 0))
theorem ck {n : Nat} (h1 : 1 ≤ n) (h5 : n ≤ 5) : Ck n := by
  have h := check_all h1 h5
  simp only [check, Bool.and_eq_true, decide_eq_true_eq, List.all_eq_true, Bool.not_eq_true', List.isEmpty_eq_false_iff] at h
  obtain ⟨a, b, c, d, e, f, g, k⟩ := h
  exact ⟨a, b, c, d, e, f, g, fun x hx y hy => eq_of_beq (k x hx y hy)⟩
theorem ascL_pw : ∀ {l : List Lot}, ascL l = true → l.Pairwise (fun a b => ltL a b = true)
  | [], _ => .nil
  | [_], _ => by simp
  | a :: b :: r, h => by
    simp only [ascL, Bool.and_eq_true] at h
    have ih := ascL_pw h.2
    refine List.pairwise_cons.mpr ⟨fun y hy => ?_, ih⟩
    rcases List.mem_cons.mp hy with e | hy
    · rw [e]; exact h.1
    · exact ltL_tr _ _ _ h.1 ((List.pairwise_cons.mp ih).1 y hy)
theorem pw_ascL : ∀ {l : List Lot}, l.Pairwise (fun a b => ltL a b = true) → ascL l = true
  | [], _ => rfl
  | [_], _ => rfl
  | a :: b :: r, h => by
    have h2 := List.pairwise_cons.mp h
    simp only [ascL, Bool.and_eq_true]
    exact ⟨h2.1 b List.mem_cons_self, pw_ascL h2.2⟩
theorem ascG_pw : ∀ {l : List Gr}, ascG l = true → l.Pairwise (fun a b => ltG a b = true)
  | [], _ => .nil
  | [_], _ => by simp
  | a :: b :: r, h => by
    simp only [ascG, Bool.and_eq_true] at h
    have ih := ascG_pw h.2
    refine List.pairwise_cons.mpr ⟨fun y hy => ?_, ih⟩
    rcases List.mem_cons.mp hy with e | hy
    · rw [e]; exact h.1
    · exact ltG_tr _ _ _ h.1 ((List.pairwise_cons.mp ih).1 y hy)
theorem pairs_sub {n : Nat} (c : Ck n) (h5 : n ≤ 5) {J : List Lot} (h : J.Sublist (pairsOf n)) : PairsOk n J := by
  refine ⟨fun p hp => c.okp p (h.subset hp), pw_ascL ((ascL_pw c.ascp).sublist h), ?_⟩
  have := h.length_le
  have := pairsOf_len h5
  omega
/-- what is wrong of a grouping -/
def badOf (J A : List Lot) (g : Gr) : List Lot := J.filter (fun p => !decide (atL (labels g) (p.getD 0 0) = atL (labels g) (p.getD 1 0))) ++ A.filter (fun p => decide (atL (labels g) (p.getD 0 0) = atL (labels g) (p.getD 1 0)))
theorem bad_fit {n : Nat} (c : Ck n) {J A : List Lot} (hJ : ∀ p ∈ J, p ∈ pairsOf n) (hA : ∀ p ∈ A, p ∈ pairsOf n) {g : Gr} (hg : g ∈ AG n) : (badOf J A g).isEmpty = (J.all (together g) && !(A.any (together g))) := by
  rw [Bool.eq_iff_iff, List.isEmpty_iff]
  unfold badOf
  rw [List.append_eq_nil_iff, List.filter_eq_nil_iff, List.filter_eq_nil_iff, Bool.and_eq_true, List.all_eq_true, Bool.not_eq_true', List.any_eq_false]
  constructor
  · rintro ⟨h1, h2⟩
    refine ⟨fun p hp => ?_, fun p hp => ?_⟩
    · have q := h1 p hp
      rw [c.tog g hg p (hJ p hp)]
      simpa using q
    · have q := h2 p hp
      rw [c.tog g hg p (hA p hp)]
      simpa using q
  · rintro ⟨h1, h2⟩
    refine ⟨fun p hp => ?_, fun p hp => ?_⟩
    · have q := h1 p hp
      rw [c.tog g hg p (hJ p hp)] at q
      simpa using q
    · have q := h2 p hp
      rw [c.tog g hg p (hA p hp)] at q
      simpa using q
theorem fit_mem {n : Nat} {J A : List Lot} {g : Gr} (h : g ∈ fit n J A) : g ∈ AG n := (List.mem_filter.mp h).1
theorem law_fit {n : Nat} (c : Ck n) {J A : List Lot} (hJ : ∀ p ∈ J, p ∈ pairsOf n) (hA : ∀ p ∈ A, p ∈ pairsOf n) : (LG n).filter (fun g => (badOf J A g).isEmpty) = fit n J A := by
  rw [c.lg]
  exact List.filter_congr fun g hg => bad_fit c hJ hA hg
/-- the law's own pairs that are together everywhere, nowhere -/
def lawJ (n : Nat) (gs : List Gr) : List Lot := (pairsOf n).filter fun p => ((gs.map labels).filter fun ls => !decide (atL ls (p.getD 0 0) = atL ls (p.getD 1 0))).isEmpty
def lawA (n : Nat) (gs : List Gr) : List Lot := (pairsOf n).filter fun p => ((gs.map labels).filter fun ls => decide (atL ls (p.getD 0 0) = atL ls (p.getD 1 0))).isEmpty
theorem law_J {n : Nat} (c : Ck n) {J A : List Lot} : lawJ n (fit n J A) = sureJ n J A := by
  refine List.filter_congr fun p hp => ?_
  rw [Bool.eq_iff_iff, List.isEmpty_iff, List.filter_eq_nil_iff, List.all_eq_true]
  constructor
  · intro h g hg
    rw [c.tog g (fit_mem hg) p hp]
    simpa using h (labels g) (List.mem_map_of_mem hg)
  · intro h ls hls
    obtain ⟨g, hg, rfl⟩ := List.mem_map.mp hls
    have q := h g hg
    rw [c.tog g (fit_mem hg) p hp] at q
    simpa using q
theorem law_A {n : Nat} (c : Ck n) {J A : List Lot} : lawA n (fit n J A) = sureA n J A := by
  refine List.filter_congr fun p hp => ?_
  rw [Bool.eq_iff_iff, List.isEmpty_iff, List.filter_eq_nil_iff, Bool.not_eq_true', List.any_eq_false]
  constructor
  · intro h g hg
    rw [c.tog g (fit_mem hg) p hp]
    simpa using h (labels g) (List.mem_map_of_mem hg)
  · intro h ls hls
    obtain ⟨g, hg, rfl⟩ := List.mem_map.mp hls
    have q := h g hg
    rw [c.tog g (fit_mem hg) p hp] at q
    simpa using q
theorem near_fold (f : Gr → Int) : ∀ (r : List Gr) (g0 : Gr), (g0 :: r).Pairwise (fun a b => ltG a b = true) → ∃ j g, (r.map fun g => (f g, g)).foldl (fun a y => if ltN y a then y else a) (f g0, g0) = (f g, g) ∧ (g0 :: r)[j]? = some g ∧
    (∀ (k : Nat) y, (g0 :: r)[k]? = some y → f g ≤ f y) ∧ ∀ (k : Nat) y, k < j → (g0 :: r)[k]? = some y → f g < f y
  | [], g0, _ => ⟨0, g0, rfl, rfl, fun k y h => by
      cases k with
      | zero => have e := Option.some.inj (show some g0 = some y from h); subst e; exact Int.le_refl _
      | succ k => simp at h, fun k y h => absurd h (Nat.not_lt_zero _)⟩
  | y :: r, g0, h => by
    have h1 := List.pairwise_cons.mp h
    have h2 := List.pairwise_cons.mp h1.2
    have hlt := h1.1 y List.mem_cons_self
    have hn : ltN (f y, y) (f g0, g0) = decide (f y < f g0) := by
      unfold ltN
      by_cases e : f y = f g0
      · rw [if_pos e, stoG.asymm hlt]
        exact (decide_eq_false (by omega)).symm
      · rw [if_neg e]
    rw [List.map_cons, List.foldl_cons, hn]
    by_cases hc : f y < f g0
    · rw [if_pos (decide_eq_true hc)]
      obtain ⟨j, g, e, hj, hle, hltk⟩ := near_fold f r y h1.2
      have q0 := hle 0 y rfl
      refine ⟨j + 1, g, e, by simpa using hj, fun k z hz => ?_, fun k z hk hz => ?_⟩
      · cases k with
        | zero => have ez := Option.some.inj (show some g0 = some z from hz); subst ez; omega
        | succ k => exact hle k z (by simpa using hz)
      · cases k with
        | zero => have ez := Option.some.inj (show some g0 = some z from hz); subst ez; omega
        | succ k => exact hltk k z (by omega) (by simpa using hz)
    · rw [if_neg (by simpa using hc)]
      obtain ⟨j, g, e, hj, hle, hltk⟩ := near_fold f r g0 (List.pairwise_cons.mpr ⟨fun z hz => h1.1 z (List.mem_cons_of_mem _ hz), h2.2⟩)
      have q0 := hle 0 g0 rfl
      cases j with
      | zero =>
        refine ⟨0, g, e, hj, fun k z hz => ?_, fun k z hk hz => absurd hk (Nat.not_lt_zero _)⟩
        match k, hz with
        | 0, hz => exact hle 0 z hz
        | 1, hz => have ez := Option.some.inj (show some y = some z from hz); subst ez; omega
        | k + 2, hz => exact hle (k + 1) z (by simpa using hz)
      | succ j =>
        have q1 := hltk 0 g0 (by omega) rfl
        refine ⟨j + 2, g, e, by simpa using hj, fun k z hz => ?_, fun k z hk hz => ?_⟩
        · match k, hz with
          | 0, hz => exact hle 0 z hz
          | 1, hz => have ez := Option.some.inj (show some y = some z from hz); subst ez; omega
          | k + 2, hz => exact hle (k + 1) z (by simpa using hz)
        · match k, hk, hz with
          | 0, hk, hz => exact hltk 0 z (by omega) hz
          | 1, hk, hz => have ez := Option.some.inj (show some y = some z from hz); subst ez; omega
          | k + 2, hk, hz => exact hltk (k + 1) z (by omega) (by simpa using hz)
theorem near_at {s : Gr} {gs : List Gr} (hne : gs ≠ []) (pw : gs.Pairwise (fun a b => ltG a b = true)) : ∃ j : Nat, gs[j]? = some (nearOf s gs) ∧ (gs.map (stepsB s))[j]? = some (lowI (gs.map (stepsB s))) ∧ ∀ (k : Nat) (d : Int), k < j → (gs.map (stepsB s))[k]? = some d → d ≠ lowI (gs.map (stepsB s)) := by
  cases gs with
  | nil => exact absurd rfl hne
  | cons g0 r =>
    obtain ⟨j, g, e, hj, hle, hlt⟩ := near_fold (stepsB s) r g0 pw
    have en : nearOf s (g0 :: r) = g := congrArg Prod.snd e
    have el : stepsB s g = lowI ((g0 :: r).map (stepsB s)) := by
      refine low_is (List.mem_map_of_mem (List.mem_of_getElem? hj)) fun y hy => ?_
      obtain ⟨z, hz, rfl⟩ := List.mem_map.mp hy
      obtain ⟨k, hk, ez⟩ := List.mem_iff_getElem.mp hz
      exact hle k z (by rw [List.getElem?_eq_getElem hk, ez])
    refine ⟨j, by rw [en]; exact hj, by rw [List.getElem?_map, hj, ← el]; rfl, fun k d hk hd => ?_⟩
    rw [List.getElem?_map] at hd
    cases e2 : (g0 :: r)[k]? with
    | none => rw [e2] at hd; cases hd
    | some z =>
      rw [e2] at hd
      have ez := Option.some.inj hd
      have q := hlt k z hk e2
      rw [← el, ← ez]
      omega
end Tg
/-! a comprehension whose test changes the row; tests of pairs by labels. -/
namespace Tg
open PySem PySem.Spec PySem.W PyProof.Rows L2 GxR

/-! ### a comprehension whose test may change an object -/
def tLcW (wi : TI) (tt : TT) (te : TE) (j : Nat) : TE := fun σ H Q => wi σ H fun J H1 => ∀ D, H1 D = none → ∃ (n : Nat) (G : Hp → Prop) (Y : Nat → Hp → V → Hp → Prop) (Pv : Nat → Hp → Prop), Walk J n G Y ∧ Pv 0 (upd H1 D (.lst [])) ∧ (∀ i H, i ≤ n → Pv i H → G H) ∧
  (∀ i x H H', i < n → Pv i H → Y i H x H' → tt ((wipe σ [j]).set j (some x)) H' fun b H3 => if b = true then te ((wipe σ [j]).set j (some x)) H3 fun y H4 => ∃ acc, H4 D = some (.lst acc) ∧ acc.length < sizeLine ∧ Pv (i + 1) (upd H4 D (.lst (acc ++ [y]))) else Pv (i + 1) H3) ∧
  ∀ H, Pv n H → Q (.ref D) H
theorem pe_lcW {X : Cx} {elt tg iter : Expr} {ifs : List Expr} {scope : Scope} {pos : Pos} {wi : TI} {tt : TT} {te : TE} {j : Nat} {x : Str} (hc : X.calm = true) (hN : X.N.Nodup) (hi : PI X tg iter wi) (ok : BlkOk X.N X.env.scope scope [(x, j)])
    (hg : ∀ (s : Shared) (H : Hp) (C : Addr) (cl : List (Str × Addr)) (fp : List Addr), PG (X.blk s H scope (compEnvC scope cl C X.env) fp) tg (gName j)) (ht : ∀ (s : Shared) (H : Hp) (C : Addr) (cl : List (Str × Addr)) (fp : List Addr), PTs (X.blk s H scope (compEnvC scope cl C X.env) fp) ifs tt)
    (he : ∀ (s : Shared) (H : Hp) (C : Addr) (cl : List (Str × Addr)) (fp : List Addr), PE (X.blk s H scope (compEnvC scope cl C X.env) fp) elt te) (hs : ∀ x, foldedSetIterable iter X.env x = pure x := by intro _; rfl) :
    PE X (.ListComp elt [⟨tg, iter, ifs, 0⟩] scope pos) (tLcW wi tt te j) :=
  PE.imp (pe_lc (own := [(x, j)]) hc hN (PI.star hi) ok hg ht he hs) fun σ H Q q => ⟨_, q, fun J H1 h => fun D hD => by
    obtain ⟨n, G, Y, Pv, w, h0, hG, st, e⟩ := h D hD
    exact lc_it w Pv h0 hG (fun i x H H' hi hp y => ⟨wipe_set σ j x, st i x H H' hi hp y⟩) e⟩
section
variable {X : Cx} {K : PySem.W.Frag}
theorem k_eqD (hu : X.A.units + 64 < cLine) (e : X.K = K := by rfl) : OpR X (compareOp .Eq) (rEqD K) := e ▸ op_eqD hu
end

/-! ### all stays but the list at r -/
structure Nr (ts : List Addr) (r : Addr) (H H' : Hp) : Prop where
  ext : ∀ b o, b ≠ r → H b = some o → (∀ ps, o ≠ .tbl ps) → H' b = some o
  tab : ∀ P ∈ ts, TabG H P → TabG H' P
  non : ∀ b, H' b = none → H b = none
  tup : TupN H H'
section
variable {ts : List Addr} {r p : Addr} {H H0 H1 H2 : Hp} {o : HO}
theorem Nr.refl (H : Hp) : Nr ts r H H := ⟨fun _ _ _ h _ => h, fun _ _ h => h, fun _ h => h, .refl _⟩
theorem Nr.trans (a : Nr ts r H H1) (b : Nr ts r H1 H2) : Nr ts r H H2 := ⟨fun c o ne h n => b.ext c o ne (a.ext c o ne h n) n, fun P hP h => b.tab P hP (a.tab P hP h), fun c h => a.non c (b.non c h), a.tup.trans b.tup⟩
theorem Nx.nr (a : Nx ts H H1) : Nr ts r H H1 := ⟨fun c o _ h n => a.ext c o h n, a.tab, a.non, a.tupN⟩
theorem Nr.row {xs ys : List V} (h : H r = some (.lst xs)) : Nr ts r H (upd H r (.lst ys)) := by
  refine ⟨fun c o ne hc n => by rw [upd_ne ne]; exact hc, fun P hP t => ?_, fun c hc => ?_, TupN.lst h⟩
  · obtain ⟨ps, e, t⟩ := t
    have ne : P ≠ r := fun z => by subst z; rw [h] at e; cases e
    exact ⟨ps, by rw [upd_ne ne]; exact e, t⟩
  · by_cases e : c = r
    · subst e
      rw [upd_same] at hc
      cases hc
    · rw [upd_ne e] at hc
      exact hc
theorem Nr.lst {xs : List V} (a : Nr ts r H H1) (ne : p ≠ r) (h : H p = some (.lst xs)) : H1 p = some (.lst xs) := a.ext _ _ ne h fun ps e => by cases e
/-- a list that was not there at the start grows -/
theorem Nr.grow {xs ys : List V} (a : Nr ts r H0 H) (n : H0 p = none) (h : H p = some (.lst xs)) : Nr ts r H0 (upd H p (.lst ys)) := by
  refine ⟨fun c o ne hc q => ?_, fun P hP t => ?_, fun c hc => ?_, a.tup.trans (TupN.lst h)⟩
  · rw [upd_ne (ne_of_none hc n)]
    exact a.ext c o ne hc q
  · obtain ⟨ps, e, t2⟩ := a.tab P hP t
    obtain ⟨ps0, e0, _⟩ := t
    exact ⟨ps, by rw [upd_ne (ne_of_none e0 n)]; exact e, t2⟩
  · by_cases e : c = p
    · subst e
      exact n
    · rw [upd_ne e] at hc
      exact a.non c hc
theorem Nx.comp (a : Nx ts H H1) (n : H r = none) (b : Nr ts r H1 H2) : Nx ts H H2 := ⟨fun c o h q => b.ext c o (ne_of_none h n) (a.ext c o h q) q, fun P hP h => b.tab P hP (a.tab P hP h), fun c h => a.non c (b.non c h)⟩
end
def RowAt (H : Hp) (r sc : Addr) : Prop := ∃ i s t, H r = some (rowO sc i s t) ∧ RowOk i s
theorem RowAt.nx {ts : List Addr} {H H' : Hp} {r sc : Addr} (h : RowAt H r sc) (n : Nx ts H H') : RowAt H' r sc := by
  obtain ⟨i, s, t, e, ok⟩ := h
  exact ⟨i, s, t, n.lst e, ok⟩
theorem draw_lc {K : PySem.W.Frag} {ts : List Addr} {r sc pl D : Addr} {Hs : Hp} {ps : List V} {prs : List Lot} {σ : L2.St} {j : Nat} {tt : TT} {te : TE} {Qd : Hp → Prop} (row : RowAt Hs r sc) (ne : pl ≠ r) (hpl : Hs pl = some (.lst ps)) (hps : Paired (IsL K Hs) ps prs) (hD : Hs D = none) (hz : prs.length ≤ 1000)
    (hts : ∀ x Hc, Nr ts r Hs Hc → ∀ i s t, Hc r = some (rowO sc i s t) → RowOk i s → ∀ C : Bool → Hp → Prop, (∀ b i' s' t', RowOk i' s' → C b (upd Hc r (rowO sc i' s' t'))) → tt ((wipe σ [j]).set j (some x)) Hc C)
    (hte : ∀ x Hc (C : VK), C x Hc → te ((wipe σ [j]).set j (some x)) Hc C)
    (hd : ∀ He acc Js, Nr ts r Hs He → RowAt He r sc → He D = some (.lst acc) → Js.Sublist prs → Paired (IsL K He) acc Js → Qd He) :
    ∃ (n : Nat) (G : Hp → Prop) (Y : Nat → Hp → V → Hp → Prop) (Pv : Nat → Hp → Prop), Walk (Itl K pl) n G Y ∧ Pv 0 (upd Hs D (.lst [])) ∧ (∀ i H, i ≤ n → Pv i H → G H) ∧
      (∀ i x H H', i < n → Pv i H → Y i H x H' → tt ((wipe σ [j]).set j (some x)) H' fun b H3 => if b = true then te ((wipe σ [j]).set j (some x)) H3 fun y H4 => ∃ acc, H4 D = some (.lst acc) ∧ acc.length < sizeLine ∧ Pv (i + 1) (upd H4 D (.lst (acc ++ [y]))) else Pv (i + 1) H3) ∧
      ∀ H, Pv n H → Qd H := by
  obtain ⟨i0, s0, t0, hr0, ok0⟩ := row
  have hDr : r ≠ D := ne_of_none hr0 hD
  have hpz : ps.length = prs.length := Paired.length hps
  refine ⟨ps.length, _, _, fun i Hc => Nr ts r Hs Hc ∧ RowAt Hc r sc ∧ ∃ acc Js, Hc D = some (.lst acc) ∧ acc.length ≤ i ∧ Js.Sublist (prs.take i) ∧ Paired (IsL K Hc) acc Js, walk_list, ⟨((Nx.refl Hs).new hD).nr, ⟨i0, s0, t0, by rw [upd_ne hDr]; exact hr0, ok0⟩, [], [], upd_same, Nat.le_refl _, by simp, .nil⟩, fun i Hc _ h => SqL.of (h.1.lst ne hpl), ?_, ?_⟩
  · rintro i x Hc Hc' hi ⟨nr, ⟨i1, s1, t1, hr1, ok1⟩, acc, Js, hacc, hal, hsub, hp⟩ ⟨rfl, hx⟩
    obtain ⟨z, hzz, rz⟩ := paired_get hps hx
    have tk : prs.take (i + 1) = prs.take i ++ [z] := by
      rw [List.take_succ, hzz]
      rfl
    refine hts x Hc' nr i1 s1 t1 hr1 ok1 _ fun b i2 s2 t2 ok2 => ?_
    have nrow : Nr ts r Hc' (upd Hc' r (rowO sc i2 s2 t2)) := Nr.row hr1
    have nr2 := nr.trans nrow
    have hacc2 : upd Hc' r (rowO sc i2 s2 t2) D = some (.lst acc) := by rw [upd_ne (Ne.symm hDr)]; exact hacc
    have hp2 := persL.paired nrow.tup hp
    cases b with
    | true =>
      rw [if_pos rfl]
      refine hte x _ _ ?_
      have tw := TupN.lst (ys := acc ++ [x]) hacc2
      refine ⟨acc, hacc2, by rw [sizeLine_eq]; omega, nr2.grow hD hacc2, ⟨i2, s2, t2, by rw [upd_ne hDr, upd_same], ok2⟩, acc ++ [x], Js ++ [z], upd_same, by simp; omega, ?_, paired_app (persL.paired tw hp2) (.cons (persL _ _ _ _ ((nr.tup.trans nrow.tup).trans tw) rz) .nil)⟩
      rw [tk]
      exact List.Sublist.append hsub (List.Sublist.refl _)
    | false =>
      rw [if_neg (by simp)]
      refine ⟨nr2, ⟨i2, s2, t2, upd_same, ok2⟩, acc, Js, hacc2, by omega, ?_, hp2⟩
      rw [tk]
      exact hsub.trans (List.sublist_append_left _ _)
  · rintro Hc ⟨nr, row, acc, Js, hacc, hal, hsub, hp⟩
    rw [hpz, List.take_length] at hsub
    exact hd Hc acc Js nr row hacc hsub hp

/-! ### labels of a pair -/
theorem at_lab {ls : List Int} {a : Int} (h0 : 0 ≤ a) (h : a < nat ls.length) : atI (ls.map V.int) a = some (V.int (atL ls a)) := by
  have hk : a.toNat < ls.length := by unfold nat at h; omega
  have q := at_ints (l := ls) hk
  rw [show ((a.toNat : Nat) : Int) = a by omega] at q
  exact q
theorem pair_vals {K : PySem.W.Frag} {n : Nat} {p : Lot} (h : okP n p = true) : ∃ a b : Int, p = [a, b] ∧ 0 ≤ a ∧ a < nat n ∧ 0 ≤ b ∧ b < nat n := by
  obtain ⟨a, b, e, h1, h2, h3⟩ := okP_parts h
  exact ⟨a, b, e, h1, by omega, by omega, h3⟩
theorem eqv_nil (ds : List PyData) : PyData.eqv (.list ds) (.list []) = ds.isEmpty := by
  rw [eqv_list]
  cases ds <;> simp [PyData.eqvAll]
section
variable {K : PySem.W.Frag} {H : Hp} {a : Addr} {xs : List V}
theorem dp_lots {l : List Lot} (h : H a = some (.lst xs)) (p : Paired (IsL K H) xs l) : Dp K H (.ref a) (.list (l.map dL)) := .lst (SqL.of h) (dpAll_of (enc := dL) (fun v x q => IsL.dp q) p)
theorem dp_grs {l : List Gr} (h : H a = some (.lst xs)) (p : Paired (IsG K H) xs l) : Dp K H (.ref a) (.list (l.map dG)) := .lst (SqL.of h) (dpAll_of (enc := dG) (fun v x q => IsG.dp q) p)
theorem dp_nil (h : H a = some (.lst [])) : Dp K H (.ref a) (.list []) := .lst (SqL.of h) .nil
def dI (l : List Int) : PyData := .list (l.map .int)
theorem dp_ils {l : List (List Int)} (h : H a = some (.lst xs)) (p : Paired (fun v ns => ∃ b, v = V.ref b ∧ H b = some (.lst (ns.map V.int))) xs l) : Dp K H (.ref a) (.list (l.map dI)) := by
  refine .lst (SqL.of h) (dpAll_of (R := IsIL) (enc := dI) (fun v ns ⟨b, e, hb⟩ => ?_) p)
  subst e
  exact dp_ints hb
end
theorem lay_ils : ∀ l : List (List Int), PyData.canLayAll0 (l.map dI) = true
  | [] => rfl
  | x :: l => by simp [PyData.canLayAll0, dI, PyData.canLay0, lay_ints, lay_ils l]
theorem depth_ils : ∀ l : List (List Int), PyData.depthAll (l.map dI) ≤ 1
  | [] => by simp [PyData.depthAll]
  | x :: l => by
    show PyData.depthAll (dI x :: l.map dI) ≤ 1
    rw [PyData.depthAll]
    have := depth_ils l
    have e : (dI x).depth = 1 := by simp [dI, PyData.depth, depth_ints]
    omega
theorem shaped_ils (l : List (List Int)) : SeqAt.shaped (.list (l.map dI)) = true := by
  have := depth_ils l
  have h2 : (PyData.list (l.map dI)).depth ≤ 64 := by
    simp only [PyData.depth]
    omega
  simp [SeqAt.shaped, PyData.canLay0, lay_ils, h2]
theorem steps_len {n : Nat} (h : n ≤ 5) : (steps n).length ≤ 15 := by
  rw [steps, (isort_perm ltL (stepsRaw n)).length_eq, stepsRaw, List.length_append, List.length_map, List.length_range]
  have := pairsOf_len h
  omega
/-- the text of the two tests -/
abbrev tPair (K : PySem.W.Frag) (r : R2) : TT := tTest (tOp r (tOp (rIxL K) (tVar 9) (tOp (rIxT K) (tVar 18) (tC (.int 0)))) (tOp (rIxL K) (tVar 9) (tOp (rIxT K) (tVar 18) (tC (.int 1)))))
section
variable {K : PySem.W.Frag} {H : Hp} {σ : L2.St} {lb : Addr} {ls : List Int} {x : V} {p : Lot} {n : Nat} {C : Bool → Hp → Prop}
theorem pair_eq (s9 : σ[9]? = some (some (.ref lb))) (s18 : σ[18]? = some (some x)) (hx : IsL K H x p) (hp : okP n p = true) (hl : H lb = some (.lst (ls.map V.int))) (hn : ls.length = n) (hC : C (decide (atL ls (p.getD 0 0) = atL ls (p.getD 1 0))) H) : tPair K rEq σ H C := by
  obtain ⟨a, b, rfl, a0, a1, b0, b1⟩ := pair_vals (K := K) hp
  obtain ⟨c, rfl, sqc⟩ := hx.sq
  subst hn
  refine ⟨_, s9, _, s18, c, _, 0, _, rfl, rfl, sqc, atI_nat (j := 0) rfl, lb, _, _, _, rfl, rfl, SqL.of hl, at_lab a0 a1, _, s9, _, s18, c, _, 1, _, rfl, rfl, sqc, atI_nat (j := 1) rfl, lb, _, _, _, rfl, rfl, SqL.of hl, at_lab b0 b1, rfl, _, rfl, ?_⟩
  have e : decide (V.int (atL ls a) = V.int (atL ls b)) = decide (atL ls a = atL ls b) := by simp
  rw [e]
  exact hC
theorem pair_ne (s9 : σ[9]? = some (some (.ref lb))) (s18 : σ[18]? = some (some x)) (hx : IsL K H x p) (hp : okP n p = true) (hl : H lb = some (.lst (ls.map V.int))) (hn : ls.length = n) (hC : C (!decide (atL ls (p.getD 0 0) = atL ls (p.getD 1 0))) H) : tPair K rNe σ H C := by
  obtain ⟨a, b, rfl, a0, a1, b0, b1⟩ := pair_vals (K := K) hp
  obtain ⟨c, rfl, sqc⟩ := hx.sq
  subst hn
  refine ⟨_, s9, _, s18, c, _, 0, _, rfl, rfl, sqc, atI_nat (j := 0) rfl, lb, _, _, _, rfl, rfl, SqL.of hl, at_lab a0 a1, _, s9, _, s18, c, _, 1, _, rfl, rfl, sqc, atI_nat (j := 1) rfl, lb, _, _, _, rfl, rfl, SqL.of hl, at_lab b0 b1, rfl, _, rfl, ?_⟩
  have e : decide (V.int (atL ls a) = V.int (atL ls b)) = decide (atL ls a = atL ls b) := by simp
  rw [e]
  exact hC
end
theorem zip_filter {β : Type} {R : V → β → Prop} {xs : List V} {zs : List β} (p : Paired R xs zs) (f : β → Bool) : ((xs.zip zs).filter fun b => f b.2).map (·.2) = zs.filter f := by
  have e : ((xs.zip zs).filter fun b => f b.2).map (·.2) = ((xs.zip zs).map (·.2)).filter f := by
    rw [List.filter_map]
    rfl
  rw [e, zip_snd p]
/-- [labels for labels in names if ..] == [] -/
theorem names_test {K : PySem.W.Frag} {r : R2} {f : Lot → List Int → Bool} {n : Nat} {σ : L2.St} {H : Hp} {nm : Addr} {nms : List V} {lss : List (List Int)} {x : V} {p : Lot} {C : Bool → Hp → Prop}
    (hr : ∀ (σ : L2.St) (H : Hp) (lb : Addr) (ls : List Int) (x : V) (C : Bool → Hp → Prop), σ[9]? = some (some (.ref lb)) → σ[18]? = some (some x) → IsL K H x p → H lb = some (.lst (ls.map V.int)) → ls.length = n → C (f p ls) H → tPair K r σ H C)
    (hσ : σ.length = 19) (s13 : σ[13]? = some (some (.ref nm))) (s18 : σ[18]? = some (some x)) (hx : IsL K H x p) (hnm : H nm = some (.lst nms)) (hp : Paired (IsIL H) nms lss) (hn : ∀ ls ∈ lss, ls.length = n) (hz : lss.length ≤ 1000)
    (hC : ∀ H', Nx (TBs K) H H' → C ((lss.filter (f p)).isEmpty) H') :
    tTest (tOp (rEqD K) (tLcS (TBs K) (iList K (tVar 13)) (tPair K r) (tVar 9) 9) (tLst tNil)) σ H C := by
  refine ⟨_, s13, nm, rfl, ⟨_, SqL.of hnm⟩, V × List Int, List Int, IsFst, fun D => fun H v ns => ∃ a, v = .ref a ∧ a ≠ D ∧ H a = some (.lst (ns.map V.int)), nms, nms.zip lss, fun b => f p b.2, fun b => b.2, src_list (SqL.of hnm), persF, zip_paired hp, by rw [zip_len hp, sizeLine_eq]; omega, fun D hD => ⟨?_, ?_, ?_⟩, fun D ws H5 hD n5 hw hpw => ?_⟩
  · rintro Ha Hb v z na ⟨a, e, ne, h⟩
    exact ⟨a, e, ne, na.lst h⟩
  · rintro Ha ac ac' v z hDa ⟨a, e, ne, h⟩
    exact ⟨a, e, ne, by rw [upd_ne ne]; exact h⟩
  · intro z y H5 hz5 n5 hD5 r5
    obtain ⟨⟨a, e1, ha⟩, lin⟩ := zip_mem hp z hz5
    have r5 : y = z.1 := r5
    have ey : y = .ref a := r5.trans e1
    subst ey
    have g9 : ((wipe σ [9]).set 9 (some (V.ref a)))[9]? = some (some (V.ref a)) := by simp [wipe, hσ]
    have g18 : ((wipe σ [9]).set 9 (some (V.ref a)))[18]? = some (some x) := by
      show ((σ.set 9 none).set 9 (some (V.ref a)))[18]? = _
      rw [List.getElem?_set_ne (by decide), List.getElem?_set_ne (by decide)]
      exact s18
    refine ⟨fun C5 hC5 => ?_, fun _ H6 n6 hD6 r6 C6 hC6 => ⟨_, g9, hC6 _ _ (.refl _) ⟨a, rfl, ne_of_none ha hD, n6.lst ha⟩⟩⟩
    exact hr _ H5 a z.2 x C5 g9 g18 (persL.nx n5 hx) (n5.lst ha) (hn _ lin) (hC5 H5 (.refl _))
  · rw [zip_filter hp (f p)] at hpw
    refine ⟨Nat.zero_le _, fun e he => ?_⟩
    have hDe : D ≠ e := ne_of_none hw he
    have n6 := (Nx.refl (ts := TBs K) H5).new (o := .lst []) he
    refine ⟨_, _, dp_ils (by rw [upd_ne hDe]; exact hw) (Paired.mapP hpw fun v ns ⟨a, e1, _, h⟩ => ⟨a, e1, n6.lst h⟩), dp_nil upd_same, shaped_ils _, rfl, _, rfl, ?_⟩
    rw [eqv_nil, List.isEmpty_map]
    exact hC _ (n5.trans n6)
end Tg
/-! law. -/
namespace Tg
open PySem PySem.Spec PySem.W PyProof.Rows L2 GxR

abbrev N46 : List Str := ["_law_script", "_law_row_here", "_law_size", "_law_pairs", "_law_some", "_law_joined", "_law_apart", "_law_good", "_law_one", "_law_labels_here", "_law_bad", "_law_told", "_law_start", "_law_names", "_law_sure", "_law_off", "_law_near", "_law_step_here", "_law_pair"]
theorem scLaw : FnScope N46 ["_law_script"] (defScope (top 46)) := ⟨rfl, rfl, rfl, by decide +kernel, rfl, by decide +kernel, by decide +kernel⟩
section
variable {P : Program} {w : World} {K : PySem.W.Frag} {mg : Str → Option Value} {base : Heap}
def spLaw (K : PySem.W.Frag) : Sp := fun vs H Q _ => ∃ (a : Addr) (ns : List Int), vs = [.ref a] ∧ SqL K H a (ns.map V.int) ∧ Tb (TBs K) H ∧ ∀ H', Q (.bl true) H'
theorem ok_law (T : Pg K mg base) : Fx P w K mg base 12 "law" ["_law_script"] (spLaw K) := by
  refine T.ok "law" 46 (by simp [fn]) scLaw (fun _ _ _ _ _ _ us hl => match us, hl with | [_], _ => rfl) (fun vs H Q E h => ?_) fun A outer s H vs Q E hr h => ?_
  · obtain ⟨a, ns, rfl, _⟩ := h
    rfl
  · obtain ⟨sc, ns, rfl, hsc, tb, q⟩ := h
    have hr1 : Room 1 (cxD P w K mg base N46 "law" 46 A outer s H E).A := hr.mono (by decide)
    have hr2 : Room 2 (cxD P w K mg base N46 "law" 46 A outer s H E).A := hr.mono (by decide)
    have hr6 : Room 6 (cxD P w K mg base N46 "law" 46 A outer s H E).A := hr.mono (by decide)
    have hr10 : Room 10 (cxD P w K mg base N46 "law" 46 A outer s H E).A := hr.mono (by decide)
    refine ⟨_, pss_cons (ps_set (i := 1) scLaw.nd rfl (.inr rfl) (pe_lst (pa_cons (pv 0) (pa_cons pe_int (pa_cons pe_int (pa_cons pe_int pa_nil))))))
      (pss_cons (ps_set (i := 2) scLaw.nd rfl (.inl rfl) (pe_op op_add pe_int (pe_fx (ok_taken T) hr1 (by rfl) (pa_cons (pv 1) (pa_cons pe_int pa_nil)))))
      (pss_cons (ps_par (i := 3) (j := 4) (by rfl) scLaw.nd rfl rfl (by decide) rfl rfl (pa_cons (pe_lcU (TBs K) (x := "_law_step_here") (j := 17) rfl scLaw.nd (pi_list (pe_fx (ok_law_steps T) hr1 (by rfl) (pa_cons (pv 2) pa_nil))) (blkOk_by (by kernel_rfl))
          (fun _ _ _ _ _ => pg_name (i := 17) scLaw.nd rfl (.inl rfl) (.inr rfl)) (fun _ _ _ _ _ => pts_one (pt_cmpR op_eq (pe_callB k_len (by rfl) (T.fr "len") PySem.boot_len (pa_cons (pv 17) pa_nil)) pe_int (nomark _))) (fun _ _ _ _ _ => pv 17))
        (pa_cons (pe_fx (ok_law_groupings T) hr2 (by rfl) (pa_cons (pv 2) pa_nil)) pa_nil)) (by rfl))
      (pss_cons (ps_set (i := 5) scLaw.nd rfl (.inl rfl) (pe_callTy call_tuple_of (by rfl) (T.fr "tuple") (by decide +kernel) (pa_cons (pe_lcW (x := "_law_pair") (j := 18) rfl scLaw.nd (pi_list (pv 3)) (blkOk_by (by kernel_rfl)) (fun _ _ _ _ _ => pg_name (i := 18) scLaw.nd rfl (.inl rfl) (.inr rfl))
          (fun _ _ _ _ _ => pts_one (pt_cmpR op_eq (pe_fx (ok_taken T) hr1 (by rfl) (pa_cons (pv 1) (pa_cons pe_int pa_nil))) pe_int (nomark _))) (fun _ _ _ _ _ => pv 18)) pa_nil)))
      (pss_cons (ps_set (i := 6) scLaw.nd rfl (.inl rfl) (pe_callTy call_tuple_of (by rfl) (T.fr "tuple") (by decide +kernel) (pa_cons (pe_lcW (x := "_law_pair") (j := 18) rfl scLaw.nd (pi_list (pv 3)) (blkOk_by (by kernel_rfl)) (fun _ _ _ _ _ => pg_name (i := 18) scLaw.nd rfl (.inl rfl) (.inr rfl))
          (fun _ _ _ _ _ => pts_one (pt_cmpR op_eq (pe_fx (ok_taken T) hr1 (by rfl) (pa_cons (pv 1) (pa_cons pe_int pa_nil))) pe_int (nomark _))) (fun _ _ _ _ _ => pv 18)) pa_nil)))
      (pss_cons (ps_set (i := 7) scLaw.nd rfl (.inl rfl) (pe_lst pa_nil))
      (pss_cons (ps_forS PassesOwn.never rfl (pi_list (pv 4)) (pg_name (i := 8) scLaw.nd rfl (.inl rfl))
        (pss_cons (ps_set (i := 9) scLaw.nd rfl (.inr rfl) (pe_fx (ok_law_labels T) hr1 (by rfl) (pa_cons (pv 8) pa_nil)))
        (pss_cons (ps_set (i := 10) scLaw.nd rfl (.inl rfl) (pe_op op_cat
          (pe_lcU (TBs K) (x := "_law_pair") (j := 18) rfl scLaw.nd (pi_tup (pv 5)) (blkOk_by (by kernel_rfl)) (fun _ _ _ _ _ => pg_name (i := 18) scLaw.nd rfl (.inl rfl) (.inr rfl))
            (fun _ _ _ _ _ => pts_one (pt_cmpR op_ne (pe_ix k_ixL (pv 9) (pe_ix k_ixT (pv 18) pe_int fun _ _ => rfl) fun _ _ => rfl) (pe_ix k_ixL (pv 9) (pe_ix k_ixT (pv 18) pe_int fun _ _ => rfl) fun _ _ => rfl) (nomark _))) (fun _ _ _ _ _ => pv 18))
          (pe_lcU (TBs K) (x := "_law_pair") (j := 18) rfl scLaw.nd (pi_tup (pv 6)) (blkOk_by (by kernel_rfl)) (fun _ _ _ _ _ => pg_name (i := 18) scLaw.nd rfl (.inl rfl) (.inr rfl))
            (fun _ _ _ _ _ => pts_one (pt_cmpR op_eq (pe_ix k_ixL (pv 9) (pe_ix k_ixT (pv 18) pe_int fun _ _ => rfl) fun _ _ => rfl) (pe_ix k_ixL (pv 9) (pe_ix k_ixT (pv 18) pe_int fun _ _ => rfl) fun _ _ => rfl) (nomark _))) (fun _ _ _ _ _ => pv 18))))
        (pss_one (ps_set (i := 7) scLaw.nd rfl (.inl rfl) (pe_op op_cat (pv 7) (pe_op op_rep (pe_lst (pa_cons (pv 8) pa_nil)) (pe_callTy call_int1 (by rfl) (T.fr "int") (by decide +kernel) (pa_cons (pe_cmpR (k_eqD hr.units) (pv 10) (pe_lst pa_nil) (nomark _)) pa_nil)))))))))
      (pss_cons (ps_asg (pe_tup (pa_cons (pe_tup (pa_cons (pv 5) (pa_cons (pv 6) pa_nil))) (pa_cons (pe_fx (ok_pick T) hr2 (by rfl) (pa_cons (pv 1) (pa_cons (pv 4) pa_nil))) pa_nil))) (pg_tup rfl (pgs_cons (pg_name (i := 11) scLaw.nd rfl (.inl rfl)) (pgs_cons (pg_name (i := 12) scLaw.nd rfl (.inr rfl)) pgs_nil))))
      (pss_cons (ps_if (PW.pt (pw_or (pt_not (pt_val (pe_fx (ok_alike T 5) hr6 (by rfl) (pa_cons (pe_fx (ok_fitting_groupings T) hr (by rfl) (pa_cons (pv 2) (pa_cons (pv 11) pa_nil))) (pa_cons (pe_callTy call_tuple_of (by rfl) (T.fr "tuple") (by decide +kernel) (pa_cons (pv 7) pa_nil)) pa_nil)))))
          (pw_or1 (pt_not (pt_val (pe_fx (ok_alike T 5) hr6 (by rfl) (pa_cons (pe_fx (ok_fitting_count T) hr (by rfl) (pa_cons (pv 2) (pa_cons (pv 11) pa_nil))) (pa_cons (pe_callB k_len (by rfl) (T.fr "len") PySem.boot_len (pa_cons (pv 7) pa_nil)) pa_nil)))))))) (pss_one (ps_ret pe_bl)) pss_nil)
      (pss_cons (ps_if (pt_cmpR (k_eqD hr.units) (pv 7) (pe_lst pa_nil) (nomark _)) (pss_one (ps_ret (pe_cmpR (k_eqD hr.units) (pe_tup (pa_cons (pe_fx (ok_sure_pairs T) hr (by rfl) (pa_cons (pv 2) (pa_cons (pv 11) pa_nil))) (pa_cons (pe_fx (ok_least_lots T) hr (by rfl) (pa_cons (pv 2) (pa_cons (pv 11) pa_nil)))
          (pa_cons (pe_fx (ok_nearest_fitting T) hr (by rfl) (pa_cons (pv 12) (pa_cons (pv 11) pa_nil))) pa_nil)))) (pe_tup (pa_cons pe_non (pa_cons pe_non (pa_cons pe_non pa_nil)))) (nomark _)))) pss_nil)
      (pss_cons (ps_set (i := 13) scLaw.nd rfl (.inr rfl) (pe_lcS (TBs K) (x := "_law_one") (j := 8) rfl scLaw.nd (pi_list (pv 7)) (blkOk_by (by kernel_rfl)) (fun _ _ _ _ _ => pg_name (i := 8) scLaw.nd rfl (.inl rfl) (.inr rfl)) (fun _ _ _ _ _ => pts_nil) (fun _ _ _ _ _ => pe_fx (ok_law_labels T) hr1 (by rfl) (pa_cons (pv 8) pa_nil))))
      (pss_cons (ps_set (i := 14) scLaw.nd rfl (.inl rfl) (pe_callTy call_tuple_of (by rfl) (T.fr "tuple") (by decide +kernel) (pa_cons (pe_lcU (TBs K) (x := "_law_pair") (j := 18) rfl scLaw.nd (pi_list (pv 3)) (blkOk_by (by kernel_rfl)) (fun _ _ _ _ _ => pg_name (i := 18) scLaw.nd rfl (.inr rfl) (.inl rfl))
          (fun _ _ _ _ _ => pts_one (pt_cmpR (k_eqD hr.units) (pe_lcS (TBs K) (x := "_law_labels_here") (j := 9) rfl scLaw.nd (k_list (pv 13)) (blkOk_by (by kernel_rfl)) (fun _ _ _ _ _ => pg_name (i := 9) scLaw.nd rfl (.inl rfl) (.inr rfl))
            (fun _ _ _ _ _ => pts_one (pt_cmpR op_ne (pe_ix k_ixL (pv 9) (pe_ix k_ixT (pv 18) pe_int fun _ _ => rfl) fun _ _ => rfl) (pe_ix k_ixL (pv 9) (pe_ix k_ixT (pv 18) pe_int fun _ _ => rfl) fun _ _ => rfl) (nomark _))) (fun _ _ _ _ _ => pv 9)) (pe_lst pa_nil) (nomark _))) (fun _ _ _ _ _ => pv 18)) pa_nil)))
      (pss_cons (ps_set (i := 15) scLaw.nd rfl (.inl rfl) (pe_callTy call_tuple_of (by rfl) (T.fr "tuple") (by decide +kernel) (pa_cons (pe_lcU (TBs K) (x := "_law_pair") (j := 18) rfl scLaw.nd (pi_list (pv 3)) (blkOk_by (by kernel_rfl)) (fun _ _ _ _ _ => pg_name (i := 18) scLaw.nd rfl (.inr rfl) (.inl rfl))
          (fun _ _ _ _ _ => pts_one (pt_cmpR (k_eqD hr.units) (pe_lcS (TBs K) (x := "_law_labels_here") (j := 9) rfl scLaw.nd (k_list (pv 13)) (blkOk_by (by kernel_rfl)) (fun _ _ _ _ _ => pg_name (i := 9) scLaw.nd rfl (.inl rfl) (.inr rfl))
            (fun _ _ _ _ _ => pts_one (pt_cmpR op_eq (pe_ix k_ixL (pv 9) (pe_ix k_ixT (pv 18) pe_int fun _ _ => rfl) fun _ _ => rfl) (pe_ix k_ixL (pv 9) (pe_ix k_ixT (pv 18) pe_int fun _ _ => rfl) fun _ _ => rfl) (nomark _))) (fun _ _ _ _ _ => pv 9)) (pe_lst pa_nil) (nomark _))) (fun _ _ _ _ _ => pv 18)) pa_nil)))
      (pss_cons (ps_if (PW.pt (pw_or (pt_not (pt_val (pe_fx (ok_alike T 5) hr6 (by rfl) (pa_cons (pe_fx (ok_sure_pairs T) hr (by rfl) (pa_cons (pv 2) (pa_cons (pv 11) pa_nil))) (pa_cons (pe_tup (pa_cons (pv 14) (pa_cons (pv 15) pa_nil))) pa_nil)))))
          (pw_or1 (pt_not (pt_val (pe_fx (ok_alike T 5) hr6 (by rfl) (pa_cons (pe_fx (ok_least_lots T) hr (by rfl) (pa_cons (pv 2) (pa_cons (pv 11) pa_nil))) (pa_cons (pe_callB (cr_min rfl) (by rfl) (T.fr "min") (by decide +kernel) (pa_cons
            (pe_lcU (TBs K) (x := "_law_one") (j := 8) rfl scLaw.nd (pi_list (pv 7)) (blkOk_by (by kernel_rfl)) (fun _ _ _ _ _ => pg_name (i := 8) scLaw.nd rfl (.inl rfl) (.inr rfl)) (fun _ _ _ _ _ => pts_nil) (fun _ _ _ _ _ => pe_callB k_len (by rfl) (T.fr "len") PySem.boot_len (pa_cons (pv 8) pa_nil))) pa_nil)) pa_nil)))))))) (pss_one (ps_ret pe_bl)) pss_nil)
      (pss_cons (ps_lcU (i := 16) (TBs K) (x := "_law_one") (j := 8) rfl scLaw.nd rfl rfl (sw_true rfl rfl rfl (by decide +kernel)) (pi_list (pv 7)) (blkOk_by (by kernel_rfl)) (fun _ _ _ _ _ => pg_name (i := 8) scLaw.nd rfl (.inl rfl) (.inr rfl)) (fun _ _ _ _ _ => pts_nil)
          (fun _ _ _ _ _ => pe_fx (ok_distance T) hr10 (by rfl) (pa_cons (pv 12) (pa_cons (pv 8) pa_nil))))
      (pss_one (ps_ret (pe_fx (ok_alike T 5) hr6 (by rfl) (pa_cons (pe_fx (ok_nearest_fitting T) hr (by rfl) (pa_cons (pv 12) (pa_cons (pv 11) pa_nil)))
        (pa_cons (pe_ix k_ixL (pv 7) (pe_bm PySem.F.plainAttrs_list PySem.F.slot_list_index PySem.F.type_list_index mt_index (pv 16) (pa_cons (pe_callB (cr_min rfl) (by rfl) (T.fr "min") (by decide +kernel) (pa_cons (pv 16) pa_nil)) pa_nil)) fun _ _ => rfl) pa_nil))))))))))))))))))), ?_⟩
    -- the row, the size
    refine ⟨_, rfl, by show 4 ≤ sizeLine; decide, fun r hr0 => ?_⟩
    have n0 : Nx (TBs K) H (upd H r (rowO sc 0 13625 0)) := (Nx.refl H).upd hr0
    have SC : ∀ Hc, Nx (TBs K) H Hc → ∀ ys, SqL K (upd Hc r (.lst ys)) sc (ns.map V.int) := fun Hc n ys => (n.upd hr0).sqL hsc
    refine ⟨_, rfl, r, sc, 5, 0, 13625, 0, ns, rfl, by decide, by decide, upd_same, ⟨by decide, by decide, by decide⟩, SC _ n0, fun d i1 s1 t1 d0 d5 ok1 => ⟨_, _, rfl, rfl, ?_⟩⟩
    have n2 : Nx (TBs K) H (upd (upd H r (rowO sc 0 13625 0)) r (rowO sc i1 s1 t1)) := n0.upd hr0
    have row2 : RowAt (upd (upd H r (rowO sc 0 13625 0)) r (rowO sc i1 s1 t1)) r sc := ⟨i1, s1, t1, upd_same, ok1⟩
    obtain ⟨n, hn, h1, h5⟩ : ∃ n : Nat, V.int (1 + d) = V.int (nat n) ∧ 1 ≤ n ∧ n ≤ 5 := ⟨(1 + d).toNat, congrArg V.int (by unfold nat; omega), by omega, by omega⟩
    have c := ck h1 h5
    have hv1 : [V.int (1 + d)] = [V.int (nat n)] := by rw [hn]
    have hv2 : ∀ v : V, [V.int (1 + d), v] = [V.int (nat n), v] := fun v => by rw [hn]
    -- the pairs, the groupings
    refine ⟨_, rfl, n, hv1, h5, fun p0 ys0 H3 n3 hp0n hp0 hpp0 => ?_⟩
    refine ⟨p0, rfl, ⟨_, SqL.of hp0⟩, Lot, Lot, IsL K, IsL K, ys0, steps n, fun s => decide (s.length = 2), fun s => s, src_list (SqL.of hp0), persL, hpp0, by have := steps_len h5; rw [sizeLine_eq]; omega, persL, fun z x H4 hz n4 rz => ⟨fun C hC => ?_, fun _ H5 n5 r5 C hC => ⟨_, rfl, hC _ _ (.refl _) r5⟩⟩, fun pl ps H4 hpln n4 hpl hpps => ?_⟩
    · obtain ⟨b, rfl, sqb⟩ := rz.sq
      refine ⟨_, rfl, b, _, rfl, .inr sqb, rfl, _, rfl, ?_⟩
      have e : decide (V.int (((z.map V.int).length : Nat) : Int) = V.int 2) = decide (z.length = 2) := by
        rw [List.length_map, Bool.eq_iff_iff]
        simp
        omega
      show C (decide (V.int (((z.map V.int).length : Nat) : Int) = V.int 2)) H4
      rw [e]
      exact hC H4 (.refl _)
    rw [List.map_id', c.st] at hpps
    have row3 := row2.nx n3
    have hplr : pl ≠ r := by
      obtain ⟨_, _, _, e, _⟩ := row3
      exact Ne.symm (ne_of_none e hpln)
    refine ⟨_, rfl, n, hv1, h1, h5, fun sm gs0 H5 n5 hsmn hsm hgs => ⟨_, _, rfl, ?_⟩⟩
    rw [c.lg] at hgs
    have row4 := row3.nx n4
    have hsmr : sm ≠ r := by
      obtain ⟨_, _, _, e, _⟩ := row4
      exact Ne.symm (ne_of_none e hsmn)
    have N5 := ((n2.trans n3).trans n4).trans n5
    have row5 := row4.nx n5
    have hpl5 := n5.lst hpl
    have hpps5 := persL.paired n5.tupN hpps
    have pz : (pairsOf n).length ≤ 1000 := by have := pairsOf_len h5; omega
    clear n3 hp0n hp0 hpp0 n4 hpln hpl hpps row3 row4 hsmn row2 n2 n0
    -- joined
    refine ⟨_, rfl, pl, rfl, ⟨_, SqL.of hpl5⟩, fun D hD => ?_⟩
    refine draw_lc (ts := TBs K) row5 hplr hpl5 hpps5 hD pz (fun x Hc nr i s t hrow ok C hC => ?_) (fun x Hc C hC => ⟨_, rfl, hC⟩) fun He acc J nrJ rowJ hacc subJ prJ => ?_
    · exact ⟨_, rfl, r, sc, 5, i, s, t, ns, rfl, by decide, by decide, hrow, ok, SC _ (N5.comp hr0 nr), fun d' i' s' t' _ _ ok' => ⟨rfl, _, rfl, hC _ i' s' t' ok'⟩⟩
    refine ⟨D, acc, rfl, .inl ⟨SqL.of hacc, fun jt hjt => ?_⟩⟩
    have nj := (Nx.refl (ts := TBs K) He).new (o := .tup acc) hjt
    have nJ := nrJ.trans nj.nr
    have N6 := N5.comp hr0 nJ
    have row6 := rowJ.nx nj
    have hpl6 := nJ.lst hplr hpl5
    have hpps6 := persL.paired nJ.tup hpps5
    have hsm6 := nJ.lst hsmr hsm
    have hgs6 := persG.paired nJ.tup hgs
    have rJ6 : IsG K (upd He jt (.tup acc)) (.ref jt) J := ⟨jt, acc, rfl, SqT.of upd_same, persL.paired nj.tupN prJ⟩
    generalize upd He jt (.tup acc) = H6 at N6 row6 hpl6 hpps6 hsm6 hgs6 rJ6
    clear nJ nj hjt prJ hacc rowJ nrJ hD N5 row5 hpl5 hpps5 hsm hgs n5
    -- apart
    refine ⟨_, rfl, pl, rfl, ⟨_, SqL.of hpl6⟩, fun D hD => ?_⟩
    refine draw_lc (ts := TBs K) row6 hplr hpl6 hpps6 hD pz (fun x Hc nr i s t hrow ok C hC => ?_) (fun x Hc C hC => ⟨_, rfl, hC⟩) fun He acc B nrB rowB hacc subB prB => ?_
    · exact ⟨_, rfl, r, sc, 5, i, s, t, ns, rfl, by decide, by decide, hrow, ok, SC _ (N6.comp hr0 nr), fun d' i' s' t' _ _ ok' => ⟨rfl, _, rfl, hC _ i' s' t' ok'⟩⟩
    refine ⟨D, acc, rfl, .inl ⟨SqL.of hacc, fun bt hbt => ?_⟩⟩
    have nj := (Nx.refl (ts := TBs K) He).new (o := .tup acc) hbt
    have nB := nrB.trans nj.nr
    have N7 := N6.comp hr0 nB
    have row7 := rowB.nx nj
    have hpl7 := nB.lst hplr hpl6
    have hpps7 := persL.paired nB.tup hpps6
    have hsm7 := nB.lst hsmr hsm6
    have hgs7 := persG.paired nB.tup hgs6
    have rJ7 := persG _ _ _ _ nB.tup rJ6
    have rB7 : IsG K (upd He bt (.tup acc)) (.ref bt) B := ⟨bt, acc, rfl, SqT.of upd_same, persL.paired nj.tupN prB⟩
    generalize upd He bt (.tup acc) = H7 at N7 row7 hpl7 hpps7 hsm7 hgs7 rJ7 rB7
    clear nB nj hbt prB hacc rowB nrB hD N6 row6 hpl6 hpps6 hsm6 hgs6 rJ6
    have mJ : ∀ p ∈ J, p ∈ pairsOf n := fun p hp => subJ.subset hp
    have mB : ∀ p ∈ B, p ∈ pairsOf n := fun p hp => subB.subset hp
    have fitE : (AG n).filter (fun g => (badOf J B g).isEmpty) = fit n J B := by rw [← law_fit c mJ mB, c.lg]
    have told : ToldOk n J B := ⟨h1, h5, pairs_sub c h5 subJ, pairs_sub c h5 subB⟩
    have Jz : J.length ≤ 10 := Nat.le_trans subJ.length_le (pairsOf_len h5)
    have Bz : B.length ≤ 10 := Nat.le_trans subB.length_le (pairsOf_len h5)
    have gz := AG_len h5
    -- good
    refine ⟨Nat.zero_le _, fun gd0 hgd0 => ?_⟩
    have n78 := (Nx.refl (ts := TBs K) H7).new (o := .lst []) hgd0
    have N8 := N7.trans n78
    have row8 := row7.nx n78
    have hpl8 := n78.lst hpl7
    have hpps8 := persL.paired n78.tupN hpps7
    have hsm8 := n78.lst hsm7
    have hgs8 := persG.paired n78.tupN hgs7
    have rJ8 := persG.nx n78 rJ7
    have rB8 := persG.nx n78 rB7
    have hgd8 : upd H7 gd0 (.lst []) gd0 = some (.lst []) := upd_same
    generalize upd H7 gd0 (.lst []) = H8 at N8 row8 hpl8 hpps8 hsm8 hgs8 rJ8 rB8 hgd8
    clear n78 hgd0 N7 row7 hpl7 hpps7 hsm7 hgs7 rJ7 rB7
    refine ⟨_, rfl, sm, rfl, ⟨_, SqL.of hsm8⟩, gs0.length, _, _, fun i σ Hc => Nx (TBs K) H8 Hc ∧ ∃ gd gs o8 o9 o10, σ = [some (.ref sc), some (.ref r), some (.int (1 + d)), some (.ref pl), some (.ref sm), some (.ref jt), some (.ref bt), some (.ref gd), o8, o9, o10, none, none, none, none, none, none, none, none] ∧
        Hc gd = some (.lst gs) ∧ Paired (IsG K Hc) gs (((AG n).take i).filter fun g => (badOf J B g).isEmpty), walk_list, ⟨.refl _, gd0, [], none, none, none, rfl, hgd8, .nil⟩, fun i σ Hc _ h => SqL.of (h.1.lst hsm8), ?_, ?_⟩
    · rintro i x σ Hc Hc' hi ⟨nc, gd, gs, o8, o9, o10, rfl, hgd, hgsP⟩ ⟨rfl, hx⟩
      obtain ⟨g, hg, rg⟩ := paired_get hgs8 hx
      have gin := List.mem_of_getElem? hg
      have okg := c.ok g gin
      have tk : (AG n).take (i + 1) = (AG n).take i ++ [g] := by
        rw [List.take_succ, hg]
        rfl
      have gsz : gs.length ≤ 52 := by
        rw [Paired.length hgsP]
        exact Nat.le_trans (List.length_filter_le _ _) (Nat.le_trans (List.length_take_le' _ _) gz)
      have lsl : (labels g).length = n := by
        unfold labels
        rw [okG_size okg]
        simp [rng]
      refine ⟨_, rfl, n, x, g, rfl, persG.nx nc rg, by omega, okg, fun lb H9 n9 hlbn hlb => ?_⟩
      have n89 := nc.trans n9
      obtain ⟨jt', vJ, ej, sqJ, prJ⟩ := persG.nx n89 rJ8
      cases ej
      refine ⟨_, rfl, jt, rfl, ⟨_, sqJ⟩, Lot, Lot, IsL K, IsL K, vJ, J, fun p => !decide (atL (labels g) (p.getD 0 0) = atL (labels g) (p.getD 1 0)), fun p => p, src_tup sqJ, persL, prJ, by rw [sizeLine_eq]; omega, persL, fun p y Ha hp na ry => ⟨fun C hC => ?_, fun _ Hb nb rb C hC => ⟨_, rfl, hC _ _ (.refl _) rb⟩⟩, fun D1 w1 H10 hD1 n10 hw1 hp1 => ?_⟩
      · exact pair_ne rfl rfl ry (c.okp p (mJ p hp)) (na.lst hlb) lsl (hC Ha (.refl _))
      have n8a := n89.trans n10
      obtain ⟨bt', vB, eb, sqB, prB⟩ := persG.nx n8a rB8
      cases eb
      refine ⟨_, rfl, bt, rfl, ⟨_, sqB⟩, Lot, Lot, IsL K, IsL K, vB, B, fun p => decide (atL (labels g) (p.getD 0 0) = atL (labels g) (p.getD 1 0)), fun p => p, src_tup sqB, persL, prB, by rw [sizeLine_eq]; omega, persL, fun p y Ha hp na ry => ⟨fun C hC => ?_, fun _ Hb nb rb C hC => ⟨_, rfl, hC _ _ (.refl _) rb⟩⟩, fun D2 w2 H11 hD2 n11 hw2 hp2 => ?_⟩
      · exact pair_eq rfl rfl ry (c.okp p (mB p hp)) (na.lst (n10.lst hlb)) lsl (hC Ha (.refl _))
      rw [List.map_id'] at hp1 hp2
      have w1z : w1.length ≤ 10 := by
        rw [Paired.length hp1]
        exact Nat.le_trans (List.length_filter_le _ _) Jz
      have w2z : w2.length ≤ 10 := by
        rw [Paired.length hp2]
        exact Nat.le_trans (List.length_filter_le _ _) Bz
      refine ⟨D1, D2, w1, w2, rfl, rfl, n11.lst hw1, hw2, by rw [sizeLine_eq]; omega, fun bd hbd => ?_⟩
      have n12 := (Nx.refl (ts := TBs K) H11).new (o := .lst (w1 ++ w2)) hbd
      have hbad : Paired (IsL K (upd H11 bd (.lst (w1 ++ w2)))) (w1 ++ w2) (badOf J B g) := paired_app (persL.paired (n11.tupN.trans n12.tupN) hp1) (persL.paired n12.tupN hp2)
      have hbd2 : upd H11 bd (.lst (w1 ++ w2)) bd = some (.lst (w1 ++ w2)) := upd_same
      have n8c := (n8a.trans n11).trans n12
      have nc12 := ((n9.trans n10).trans n11).trans n12
      generalize upd H11 bd (.lst (w1 ++ w2)) = H12 at hbad hbd2 n8c nc12
      refine ⟨_, rfl, _, rfl, by show 1 ≤ sizeLine; decide, fun l1 hl1 => ?_⟩
      have m1 := (Nx.refl (ts := TBs K) H12).new (o := .lst [x]) hl1
      refine ⟨_, rfl, Nat.zero_le _, fun e1 he1 => ?_⟩
      have m2 := m1.new (o := .lst []) he1
      have ek : PyData.eqv (.list ((badOf J B g).map dL)) (.list []) = (badOf J B g).isEmpty := by rw [eqv_nil, List.isEmpty_map]
      have hl12 : (upd (upd H12 l1 (.lst [x])) e1 (.lst [])) l1 = some (.lst [x]) := by rw [upd_ne (ne_of_none (o := .lst [x]) upd_same he1), upd_same]
      refine ⟨_, _, dp_lots (m2.lst hbd2) (persL.paired m2.tupN hbad), dp_nil upd_same, shaped_lots _, rfl, .inr ⟨(badOf J B g).isEmpty, by rw [ek], ?_⟩⟩
      generalize (upd (upd H12 l1 (.lst [x])) e1 (.lst [])) = H13 at m2 hl12
      have nc13 := nc12.trans m2
      cases hbe : (badOf J B g).isEmpty with
      | true =>
        refine ⟨l1, 1, [x], rfl, rfl, hl12, by decide, by decide, by show 1 * 1 ≤ sizeLine; decide, fun rp hrp => ?_⟩
        have m3 := (Nx.refl (ts := TBs K) H13).new (o := .lst [x]) hrp
        refine ⟨gd, rp, gs, [x], rfl, rfl, (nc13.trans m3).lst hgd, upd_same, by simp [sizeLine_eq]; omega, fun g2 hg2 => ?_⟩
        have m4 := m3.new (o := .lst (gs ++ [x])) hg2
        refine ⟨(n8c.trans m2).trans m4, g2, gs ++ [x], _, _, _, rfl, upd_same, ?_⟩
        rw [tk, List.filter_append]
        simp only [List.filter_cons, hbe, if_true, List.filter_nil]
        exact paired_app (persG.paired ((nc13.trans m4).tupN) hgsP) (.cons (persG.nx ((n8c.trans m2).trans m4) rg) .nil)
      | false =>
        refine ⟨l1, 0, [x], rfl, rfl, hl12, by decide, by decide, by show 1 * 0 ≤ sizeLine; decide, fun rp hrp => ?_⟩
        have m3 := (Nx.refl (ts := TBs K) H13).new (o := .lst []) hrp
        refine ⟨gd, rp, gs, [], rfl, rfl, (nc13.trans m3).lst hgd, upd_same, by simp [sizeLine_eq]; omega, fun g2 hg2 => ?_⟩
        have m4 := m3.new (o := .lst (gs ++ [])) hg2
        refine ⟨(n8c.trans m2).trans m4, g2, gs ++ [], _, _, _, rfl, upd_same, ?_⟩
        rw [tk, List.filter_append]
        simp only [List.filter_cons, hbe, Bool.false_eq_true, if_false, List.filter_nil]
        exact paired_app (persG.paired ((nc13.trans m4).tupN) hgsP) .nil
    rintro σ H9 ⟨n89, gd, gs, o8, o9, o10, rfl, hgd, hgsP⟩
    rw [show gs0.length = (AG n).length from Paired.length hgs8, List.take_length, fitE] at hgsP
    obtain ⟨i, sv, t, hrow, rok⟩ := row8.nx n89
    have hgdr : gd ≠ r := by
      rintro rfl
      have e : HO.lst [.ref sc, .int i, .int sv, .int t] = HO.lst gs := Option.some.inj (hrow.symm.trans hgd)
      injection e with e
      subst e
      obtain ⟨z, _, a, _, e, _⟩ := paired_get (i := 1) (x := V.int i) hgsP rfl
      cases e
    have hsm9 := n89.lst hsm8
    have gs0l : gs0.length = (AG n).length := Paired.length hgs8
    have gs0p : 0 < gs0.length := by rw [gs0l]; exact List.length_pos_iff.mpr c.ne
    -- told, start
    refine ⟨_, rfl, _, rfl, by show 2 ≤ sizeLine; decide, fun tt1 htt1 => ?_⟩
    have m1 := (Nx.refl (ts := TBs K) H9).new (o := .tup [.ref jt, .ref bt]) htt1
    have hrow1 := m1.lst hrow
    refine ⟨_, rfl, _, rfl, r, sc, sm, i, sv, t, ns, gs0, rfl, hrow1, rok, SC _ ((N8.trans n89).trans m1), hsmr, m1.lst hsm9, gs0p, by omega, fun k x i' s' t' hk ok' => ?_⟩
    have m2 : Nr (TBs K) r (upd H9 tt1 (.tup [.ref jt, .ref bt])) (upd (upd H9 tt1 (.tup [.ref jt, .ref bt])) r (rowO sc i' s' t')) := Nr.row hrow1
    refine ⟨by show 2 ≤ sizeLine; decide, fun tt2 htt2 => ?_⟩
    have m3 := (Nx.refl (ts := TBs K) (upd (upd H9 tt1 (.tup [.ref jt, .ref bt])) r (rowO sc i' s' t'))).new (o := .tup [.ref tt1, x]) htt2
    have nr : Nr (TBs K) r H9 (upd (upd (upd H9 tt1 (.tup [.ref jt, .ref bt])) r (rowO sc i' s' t')) tt2 (.tup [.ref tt1, x])) := (m1.nr.trans m2).trans m3.nr
    have stt1 : SqT K (upd (upd (upd H9 tt1 (.tup [.ref jt, .ref bt])) r (rowO sc i' s' t')) tt2 (.tup [.ref tt1, x])) tt1 [.ref jt, .ref bt] := (m2.tup.trans m3.tupN).sq (SqT.of upd_same)
    have stt2 : SqT K (upd (upd (upd H9 tt1 (.tup [.ref jt, .ref bt])) r (rowO sc i' s' t')) tt2 (.tup [.ref tt1, x])) tt2 [.ref tt1, x] := SqT.of upd_same
    generalize (upd (upd (upd H9 tt1 (.tup [.ref jt, .ref bt])) r (rowO sc i' s' t')) tt2 (.tup [.ref tt1, x])) = H1 at nr stt1 stt2
    have N1 := (N8.trans n89).comp hr0 nr
    have tb1 := tb.nx N1
    have hgd1 := nr.lst hgdr hgd
    have hgs1 := persG.paired nr.tup hgsP
    have hpl1 := nr.lst hplr (n89.lst hpl8)
    have hpps1 := persL.paired (n89.tupN.trans nr.tup) hpps8
    have told1 : IsGs K H1 (.ref tt1) [J, B] := ⟨tt1, _, rfl, stt1, .cons (persG _ _ _ _ (n89.tupN.trans nr.tup) rJ8) (.cons (persG _ _ _ _ (n89.tupN.trans nr.tup) rB8) .nil)⟩
    obtain ⟨st, hst, rst8⟩ := paired_get hgs8 hk
    have rst1 := persG _ _ _ _ (n89.tupN.trans nr.tup) rst8
    have okst := c.ok st (List.mem_of_getElem? hst)
    clear nr stt1 m3 m2 hrow1 m1 hrow rok hsm9 n89 hgd hgsP N8 row8 hpl8 hpps8 hsm8 hgs8 rJ8 rB8 rst8
    refine ⟨tt2, _, rfl, stt2, rfl, _, _, rfl, _, _, rfl, rfl, ?_⟩
    have gok : ∀ g ∈ fit n J B, okG n g = true := fun g hg => c.ok g (fit_mem hg)
    have fz : (fit n J B).length ≤ 52 := fit_len h5
    have gbd : ∀ g ∈ fit n J B, g.length ≤ 1000 ∧ ∀ l ∈ g, l.length ≤ 1000 := fun g hg => by
      have o := gok g hg
      refine ⟨by have := okG_cnt o; omega, fun l hl => ?_⟩
      have := flat_le hl
      have := okG_len o
      omega
    have gsl : gs.length = (fit n J B).length := Paired.length hgs1
    -- the first two answers
    refine ⟨_, rfl, _, rfl, tb1, n, _, J, B, hv2 _, told1, told, fun u Ha na hu => ?_⟩
    refine ⟨_, rfl, gd, gs, rfl, .inl ⟨SqL.of (na.lst hgd1), fun gt hgt => ?_⟩⟩
    have na1 := na.new (o := .tup gs) hgt
    have ngt := (Nx.refl (ts := TBs K) Ha).new (o := .tup gs) hgt
    refine ⟨u, _, rfl, ald_Gs (d := 1) (persGs.nx ngt hu) ⟨gt, gs, rfl, SqT.of upd_same, persG.paired na1.tupN hgs1⟩ (by omega) gbd, fun Hb nb => ⟨true, rfl, ?_⟩⟩
    have n1b := na1.trans nb
    clear ngt na1 hu na hgt
    refine iteF ?_
    refine ⟨_, rfl, _, rfl, tb1.nx n1b, n, _, J, B, hv2 _, persGs.nx n1b told1, told, fun Hc nc => ?_⟩
    have n1c := n1b.trans nc
    refine ⟨_, rfl, gd, gs, rfl, .inl (SqL.of (n1c.lst hgd1)), _, _, rfl, ald_int (d := 4) (i := nat (fit n J B).length) rfl (congrArg V.int (by unfold nat; rw [gsl])), fun Hd nd => ⟨true, rfl, ?_⟩⟩
    have n1d := n1c.trans nd
    clear n1c nc n1b nb
    refine iteF ?_
    -- good == []
    refine ⟨_, rfl, Nat.zero_le _, fun e he => ?_⟩
    have n1e := n1d.new (o := .lst []) he
    refine ⟨_, _, dp_grs (n1e.lst hgd1) (persG.paired n1e.tupN hgs1), dp_nil upd_same, shaped_grs _, rfl, _, rfl, ?_⟩
    rw [eqv_nil, List.isEmpty_map]
    generalize upd Hd e (.lst []) = He at n1e
    clear n1d
    by_cases hf : fit n J B = []
    · rw [show (fit n J B).isEmpty = true by rw [hf]; rfl]
      refine iteT ?_
      refine ⟨_, rfl, _, rfl, tb1.nx n1e, n, _, J, B, hv2 _, persGs.nx n1e told1, told, fun _ Hf nf => ?_, fun h => absurd hf h⟩
      have n1f := n1e.trans nf
      refine ⟨_, rfl, _, rfl, tb1.nx n1f, n, _, J, B, hv2 _, persGs.nx n1f told1, told, fun _ Hg ng => ?_, fun h => absurd hf h⟩
      have n1g := n1f.trans ng
      refine ⟨_, rfl, _, rfl, tb1.nx n1g, n, _, _, st, J, B, rfl, persG.nx n1g rst1, okst, persGs.nx n1g told1, told, gok, fun _ Hh nh => ?_, fun h => absurd hf h⟩
      refine ⟨by show 3 ≤ sizeLine; decide, fun t3 ht3 => ⟨by show 3 ≤ sizeLine; decide, fun t4 ht4 => ?_⟩⟩
      have h34 : t3 ≠ t4 := ne_of_none (o := .tup [.non, .non, .non]) upd_same ht4
      refine ⟨.tuple [.none, .none, .none], .tuple [.none, .none, .none], .tup (SqT.of (by rw [upd_ne h34, upd_same])) (.cons .non (.cons .non (.cons .non .nil))), .tup (SqT.of upd_same) (.cons .non (.cons .non (.cons .non .nil))), rfl, rfl, ?_⟩
      have e3 : PyData.eqv (.tuple [.none, .none, .none]) (.tuple [.none, .none, .none]) = true := by simp [PyData.eqv, PyData.eqvAll]
      rw [e3]
      exact q _
    have hfe : (fit n J B).isEmpty = false := by
      cases e : fit n J B with
      | nil => exact absurd e hf
      | cons _ _ => rfl
    rw [hfe]
    refine iteF ?_
    have tb2 := tb1.nx n1e
    have hgd2 := n1e.lst hgd1
    have hgs2 := persG.paired n1e.tupN hgs1
    have hpl2 := n1e.lst hpl1
    have hpps2 := persL.paired n1e.tupN hpps1
    have told2 := persGs.nx n1e told1
    have rst2 := persG.nx n1e rst1
    clear n1e tb1 hgd1 hgs1 hpl1 hpps1 told1 rst1 N1
    -- names
    refine ⟨_, rfl, gd, rfl, ⟨_, SqL.of hgd2⟩, Gr, List Int, IsG K, fun D => fun H v ns => ∃ a, v = .ref a ∧ a ≠ D ∧ H a = some (.lst (ns.map V.int)), gs, fit n J B, fun _ => true, labels, src_list (SqL.of hgd2), persG, hgs2, by rw [sizeLine_eq]; omega, fun D hD => ⟨?_, ?_, ?_⟩, fun nm nms H3 hnmn n3 hnm hnp => ?_⟩
    · rintro Ha Hb v z na ⟨a, e, ne, h⟩
      exact ⟨a, e, ne, na.lst h⟩
    · rintro Ha ac ac' v z hDa ⟨a, e, ne, h⟩
      exact ⟨a, e, ne, by rw [upd_ne ne]; exact h⟩
    · intro z y Ha hz na hDa ra
      refine ⟨TIs.yes, fun _ Hb nb hDb rb C hC => ?_⟩
      exact ⟨_, rfl, n, y, z, rfl, rb, by omega, gok z hz, fun lb Hc nc hlbn hlb => hC _ Hc nc ⟨lb, rfl, fun e => hDb (by rw [← e]; exact hlbn), hlb⟩⟩
    rw [keep_map] at hnp
    have hnp3 : Paired (IsIL H3) nms ((fit n J B).map labels) := Paired.mapP hnp fun v z ⟨a, e, _, h⟩ => ⟨a, e, h⟩
    have lln : ∀ ls ∈ (fit n J B).map labels, ls.length = n := fun ls hls => by
      obtain ⟨g, hg, rfl⟩ := List.mem_map.mp hls
      unfold labels
      rw [okG_size (gok g hg)]
      simp [rng]
    have lz : ((fit n J B).map labels).length ≤ 1000 := by rw [List.length_map]; omega
    have tb3 := tb2.nx n3
    have hgd3 := n3.lst hgd2
    have hgs3 := persG.paired n3.tupN hgs2
    have hpl3 := n3.lst hpl2
    have hpps3 := persL.paired n3.tupN hpps2
    have told3 := persGs.nx n3 told2
    have rst3 := persG.nx n3 rst2
    clear n3 tb2 hgd2 hgs2 hpl2 hpps2 told2 rst2 hnp hnmn
    -- sure
    refine ⟨_, rfl, pl, rfl, ⟨_, SqL.of hpl3⟩, Lot, Lot, IsL K, IsL K, ps, pairsOf n, fun p => (((fit n J B).map labels).filter fun ls => !decide (atL ls (p.getD 0 0) = atL ls (p.getD 1 0))).isEmpty, fun p => p, src_list (SqL.of hpl3), persL, hpps3, by rw [sizeLine_eq]; omega, persL, fun p y Ha hp na ry => ⟨fun C hC => ?_, fun _ Hb nb rb C hC => ⟨_, rfl, hC _ _ (.refl _) rb⟩⟩, fun D ws H4 hD n4 hw hpw => ?_⟩
    · exact names_test (f := fun p ls => !decide (atL ls (p.getD 0 0) = atL ls (p.getD 1 0))) (fun σ H lb ls x C s9 s18 hx hl hn hC => pair_ne s9 s18 hx (c.okp p hp) hl hn hC) rfl rfl rfl ry (na.lst hnm) (il_paired na hnp3) lln lz hC
    rw [List.map_id'] at hpw
    refine ⟨D, ws, rfl, .inl ⟨SqL.of hw, fun sj hsj => ?_⟩⟩
    have n4s := n4.new (o := .tup ws) hsj
    have rS : IsG K (upd H4 sj (.tup ws)) (.ref sj) (sureJ n J B) := by
      rw [← law_J c]
      exact ⟨sj, ws, rfl, SqT.of upd_same, persL.paired ((Nx.refl (ts := TBs K) H4).new hsj).tupN hpw⟩
    generalize upd H4 sj (.tup ws) = H5 at n4s rS
    have tb5 := tb3.nx n4s
    have hgd5 := n4s.lst hgd3
    have hgs5 := persG.paired n4s.tupN hgs3
    have hpl5 := n4s.lst hpl3
    have hpps5 := persL.paired n4s.tupN hpps3
    have told5 := persGs.nx n4s told3
    have rst5 := persG.nx n4s rst3
    have hnm5 := n4s.lst hnm
    have hnp5 := il_paired n4s hnp3
    clear n4s tb3 hgd3 hgs3 hpl3 hpps3 told3 rst3 hnm hnp3 n4 hw hpw hsj hD
    -- off
    refine ⟨_, rfl, pl, rfl, ⟨_, SqL.of hpl5⟩, Lot, Lot, IsL K, IsL K, ps, pairsOf n, fun p => (((fit n J B).map labels).filter fun ls => decide (atL ls (p.getD 0 0) = atL ls (p.getD 1 0))).isEmpty, fun p => p, src_list (SqL.of hpl5), persL, hpps5, by rw [sizeLine_eq]; omega, persL, fun p y Ha hp na ry => ⟨fun C hC => ?_, fun _ Hb nb rb C hC => ⟨_, rfl, hC _ _ (.refl _) rb⟩⟩, fun D ws H6 hD n6 hw hpw => ?_⟩
    · exact names_test (f := fun p ls => decide (atL ls (p.getD 0 0) = atL ls (p.getD 1 0))) (fun σ H lb ls x C s9 s18 hx hl hn hC => pair_eq s9 s18 hx (c.okp p hp) hl hn hC) rfl rfl rfl ry (na.lst hnm5) (il_paired na hnp5) lln lz hC
    rw [List.map_id'] at hpw
    refine ⟨D, ws, rfl, .inl ⟨SqL.of hw, fun sf hsf => ?_⟩⟩
    have n6s := n6.new (o := .tup ws) hsf
    have rF : IsG K (upd H6 sf (.tup ws)) (.ref sf) (sureA n J B) := by
      rw [← law_A c]
      exact ⟨sf, ws, rfl, SqT.of upd_same, persL.paired ((Nx.refl (ts := TBs K) H6).new hsf).tupN hpw⟩
    generalize upd H6 sf (.tup ws) = H7 at n6s rF
    have tb7 := tb5.nx n6s
    have hgd7 := n6s.lst hgd5
    have hgs7 := persG.paired n6s.tupN hgs5
    have told7 := persGs.nx n6s told5
    have rst7 := persG.nx n6s rst5
    have rS7 := persG.nx n6s rS
    clear n6s tb5 hgd5 hgs5 hpl5 hpps5 told5 rst5 hnm5 hnp5 n6 hw hpw hsf hD rS
    -- the next two answers
    have sz : ∀ g ∈ [sureJ n J B, sureA n J B], g.length ≤ 1000 ∧ ∀ l ∈ g, l.length ≤ 1000 := fun g hg => by
      have hs : ∀ f : Lot → Bool, ((pairsOf n).filter f).length ≤ 1000 ∧ ∀ l ∈ (pairsOf n).filter f, l.length ≤ 1000 := fun f => ⟨Nat.le_trans (List.length_filter_le _ _) pz, fun l hl => by
        rw [pairsOf_two l (List.mem_filter.mp hl).1]
        omega⟩
      rcases List.mem_cons.mp hg with e | hg
      · rw [e]; exact hs _
      · rw [List.mem_singleton.mp hg]; exact hs _
    refine ⟨_, rfl, _, rfl, tb7, n, _, J, B, hv2 _, told7, told, fun h => absurd h hf, fun _ u Ha na hu => ?_⟩
    refine ⟨_, rfl, _, rfl, by show 2 ≤ sizeLine; decide, fun t5 ht5 => ?_⟩
    have na5 := na.new (o := .tup [.ref sj, .ref sf]) ht5
    have ng5 := (Nx.refl (ts := TBs K) Ha).new (o := .tup [.ref sj, .ref sf]) ht5
    refine ⟨u, _, rfl, ald_Gs (d := 1) (persGs.nx ng5 hu) ⟨t5, _, rfl, SqT.of upd_same, .cons (persG.nx na5 rS7) (.cons (persG.nx na5 rF) .nil)⟩ (by simp) sz, fun Hb nb => ⟨true, rfl, ?_⟩⟩
    have n7b := na5.trans nb
    clear na5 ng5 na hu ht5
    refine iteF ?_
    refine ⟨_, rfl, _, rfl, tb7.nx n7b, n, _, J, B, hv2 _, persGs.nx n7b told7, told, fun h => absurd h hf, fun _ Hc nc => ?_⟩
    have n7c := n7b.trans nc
    refine ⟨_, rfl, gd, rfl, ⟨_, SqL.of (n7c.lst hgd7)⟩, Gr, Int, IsG K, IsI, gs, fit n J B, fun _ => true, fun g => nat g.length, src_list (SqL.of (n7c.lst hgd7)), persG, persG.paired n7c.tupN hgs7, by rw [sizeLine_eq]; omega, persI, fun g x Hd hg nd r => ⟨TIs.yes, fun _ He ne re C hC => ?_⟩, fun D ws Hd hD nd hw hpw => ?_⟩
    · obtain ⟨b, zs, rfl, sqb, prb⟩ := re
      refine ⟨_, rfl, b, zs, rfl, .inr sqb, hC _ _ (.refl _) ?_⟩
      show V.int _ = V.int _
      rw [Paired.length prb]
      rfl
    rw [keep_map] at hpw
    have ez := paired_ints hpw
    subst ez
    refine ⟨D, _, rfl, SqL.of hw, by rw [List.length_map]; exact List.length_pos_iff.mpr hf, fun m hm hlb => ?_⟩
    refine ⟨_, _, rfl, ald_int (d := 4) (i := lowI ((fit n J B).map fun g : Gr => nat (List.length g))) rfl (congrArg V.int (low_is hm hlb)), fun He ne => ⟨true, rfl, ?_⟩⟩
    have n7e := (n7c.trans nd).trans ne
    clear n7c nd ne hw hpw hD n7b nb nc
    refine iteF ?_
    have tb8 := tb7.nx n7e
    have hgd8 := n7e.lst hgd7
    have hgs8 := persG.paired n7e.tupN hgs7
    have told8 := persGs.nx n7e told7
    have rst8 := persG.nx n7e rst7
    clear tb7 hgd7 hgs7 told7 rst7 n7e rS7 rF
    -- near
    refine ⟨_, rfl, gd, rfl, ⟨_, SqL.of hgd8⟩, Gr, Int, IsG K, IsI, gs, fit n J B, fun _ => true, stepsB st, src_list (SqL.of hgd8), persG, hgs8, by rw [sizeLine_eq]; omega, persI, fun g y Hd hg nd r => ⟨TIs.yes, fun _ Hf nf rf C hC => ?_⟩, fun nr ws Hf hnrn nf hnr hpw => ?_⟩
    · exact ⟨_, rfl, _, rfl, tb8.nx nf, n, _, y, st, g, rfl, persG.nx nf rst8, rf, by omega, okst, gok g hg, fun Hg ng => hC _ Hg ng rfl⟩
    rw [keep_map] at hpw
    have ez := paired_ints hpw
    subst ez
    refine ⟨_, rfl, _, rfl, tb8.nx nf, n, _, _, st, J, B, rfl, persG.nx nf rst8, okst, persGs.nx nf told8, told, gok, fun h => absurd h hf, fun _ u Hg ng hu => ?_⟩
    have n8g := nf.trans ng
    have hnrg := ng.lst hnr
    have pw : (fit n J B).Pairwise (fun a b => ltG a b = true) := (ascG_pw c.asc).sublist List.filter_sublist
    obtain ⟨jx, j1, j2, j3⟩ := near_at (s := st) hf pw
    obtain ⟨gx, hgx, rgx⟩ := paired_get2 (persG.paired n8g.tupN hgs8) j1
    have nin : nearOf st (fit n J B) ∈ fit n J B := List.mem_of_getElem? j1
    refine ⟨_, rfl, _, rfl, .inl ⟨rfl, _, SqL.of hnrg⟩, _, rfl, nr, _, rfl, SqL.of hnrg, by rw [List.length_map]; exact List.length_pos_iff.mpr hf, fun m hm hlb => ?_⟩
    have em := low_is hm hlb
    subst em
    refine ⟨nr, _, _, jx, _, rfl, rfl, SqL.of hnrg, rfl, by simp [flatV], by rw [List.getElem?_map, j2]; rfl, by simp [eqV], fun k z hk hz => ?_, ?_⟩
    · rw [List.getElem?_map] at hz
      cases e2 : ((fit n J B).map (stepsB st))[k]? with
      | none => rw [e2] at hz; cases hz
      | some y =>
        rw [e2] at hz
        have ez := Option.some.inj hz
        have ne := j3 k y hk e2
        rw [← ez]
        simp [eqV, ne]
    · exact ⟨gd, gs, _, gx, rfl, rfl, SqL.of (n8g.lst hgd8), atI_nat hgx, u, gx, rfl, ald_G (d := 2) hu rgx (gbd _ nin).1 (gbd _ nin).2, fun Hh nh => q Hh⟩
end
end Tg
/-! the head: what the top leaves; the end. -/
namespace Tg
open PySem PySem.Spec PySem.W PyProof.Rows L2

abbrev RWl : OpenLaw := PySem.Challenge.rw_groupdeeds_k25_whole_told_pairs
def tfs : List He.Defn := tabbed.map fun x => (x, none)
def fas : List He.Fa := (fn.map fun d => He.Fa.glo d.name) ++ (frees.map fun x => He.Fa.free x) ++ [.int "MOST_PEOPLE" 6]
def loose1 : List Str := ["GroupError", "BadSize", "BadGrouping", "BadTold", "MOST_PEOPLE", "is_in", "need_size", "is_lot", "is_grouping", "size_of", "need_grouping", "all_groupings", "is_step", "pairs_of", "need_two", "greatest_shares", "steps_between", "distance", "are_pairs", "need_told"]
def loose2 : List Str := ["is_together", "fitting_of", "need_sized", "fitting_groupings", "fitting_count", "sure_pairs", "least_lots", "nearest_fitting", "_law_taken", "_law_pick", "_law_alike", "_law_lots", "_law_labels", "_law_grouping", "_law_step", "_law_done", "_law_steps", "_law_row", "_law_groupings"]
def loose : List Str := loose1 ++ loose2
abbrev hkL : Hook := He.hookX 4 fas fn [] tfs (fun _ => true)
def obL (s : SharedT) : He.AlX := He.obsX 4 fas fn [] tfs (fun _ => true) (HandSHeadRun.getT s)
theorem obL_eq (s : SharedT) : obL s = hkL.obs s.abs := He.obsX_eq (HandSHeadRun.getT_eq s)
theorem runL (w : World) : HandSHeadRun.RunEq (OpenLaw.row RWl) (view (OpenLaw.row RWl).prog [46]) hkL obL 2500 loose w := by
  intro os
  kernel_rfl
theorem says_pg {w : World} {K : PySem.W.Frag} {h base : Heap} {mg : Str → Option Value} (c : He.SaysX fas fn [] tfs (fun _ => true) w h K) (X : K.In base) (G : base.Ns mainGlobals mg) (TB : ∀ x ∈ tabbed, GxR.TabB base mg (cdA K x) (tbA K x)) : Pg K mg base := by
  refine ⟨fun d hd => ?_, fun x hx => ?_, ?_, TB⟩
  · obtain ⟨fd, F⟩ := c.t.d.defs hd
    have e0 : d.dfl = [] ∧ d.kwd = [] ∧ d.at_ = (d.name, none) := by
      simp only [fn, List.mem_cons, List.not_mem_nil, or_false] at hd
      rcases hd with rfl | rfl | rfl | rfl | rfl | rfl | rfl | rfl | rfl | rfl | rfl | rfl | rfl | rfl | rfl | rfl | rfl | rfl | rfl | rfl | rfl | rfl | rfl | rfl | rfl | rfl | rfl | rfl | rfl | rfl | rfl <;> exact ⟨rfl, rfl, rfl⟩
    refine ⟨fd, ?_, ?_⟩
    · have e1 : d.dvs K = [] := by unfold He.DefD.dvs; rw [e0.1]; rfl
      have e2 : d.kws K = [] := by unfold He.DefD.kws; rw [e0.2.1]; rfl
      rw [e1, e2] at F
      exact F
    · rw [e0.2.2]
      exact He.glo_ok X G (c.t.d.facts (f := .glo d.name) (List.mem_append_left _ (List.mem_append_left _ (List.mem_map.mpr ⟨d, hd, rfl⟩))))
  · exact He.free_ok X G (c.t.d.facts (f := .free x) (List.mem_append_left _ (List.mem_append_right _ (List.mem_map.mpr ⟨x, hx, rfl⟩))))
  · exact He.int_ok X G (c.t.d.facts (f := .int "MOST_PEOPLE" 6) (List.mem_append_right _ List.mem_cons_self))
theorem law_at {w : World} {K : PySem.W.Frag} {h : Heap} {mg : Str → Option Value} {fa : Addr} (c : He.SaysX fas fn [] tfs (fun _ => true) w h K) (X : K.In h) (G : h.Ns mainGlobals mg) (hfa : mg ("law" : Str) = some (.ref fa)) :
    LamX.LawAtS RWl w K L2.CX0 12 63 "_law_script" mg fa h := by
  have hd : dd "law" 46 ∈ fn := by simp [fn]
  obtain ⟨fd, F⟩ := c.t.d.defs hd
  have F : FunD K "law" "law" (defArgs (top 46)) (defBody (top 46)) (defScope (top 46)) [] [] (He.fAd K ("law", none)) fd := F
  have e : fa = He.fAd K ("law", none) := by
    have q := hfa.symm.trans (He.glo_ok X G (c.t.d.facts (f := .glo "law") (List.mem_append_left _ (List.mem_append_left _ (List.mem_map.mpr ⟨_, hd, rfl⟩)))))
    injection q with q
    injection q
  subst e
  have tm : ∀ x ∈ tabbed, (x, none) ∈ tfs := fun x hx => List.mem_map.mpr ⟨x, hx, rfl⟩
  refine ⟨fd, tabbed.map (fun x => (cdA K x, tbA K x)), spLaw K, fun p hp => ?_, fun p hp => ?_, fun p hp => ?_, fun s u => ?_, fun H a ns _ _ hT hS => ?_, fun base XB GB hTB => ?_⟩
  · obtain ⟨x, hx, rfl⟩ := List.mem_map.mp hp
    exact c.empty _ (tm x hx)
  · obtain ⟨x, hx, rfl⟩ := List.mem_map.mp hp
    exact c.out _ (tm x hx)
  · obtain ⟨x, hx, rfl⟩ := List.mem_map.mp hp
    exact codeHd_of_K X (c.hd _ (tm x hx))
  · have b := FunD.bindsA (ps := ["_law_script"]) F fun _ _ _ _ _ _ us hl => match us, hl with | [_], _ => rfl
    exact b s [u] rfl
  · refine ⟨a, ns, rfl, hS, fun P hP => ?_, fun _ => rfl⟩
    obtain ⟨x, hx, rfl⟩ := List.mem_map.mp hP
    exact ⟨#[], hT (cdA K x, tbA K x) (List.mem_map.mpr ⟨x, hx, rfl⟩), by simp [TriplesOk]⟩
  · have T := says_pg c XB GB fun x hx => by
      have q := hTB (cdA K x, tbA K x) (List.mem_map.mpr ⟨x, hx, rfl⟩)
      exact ⟨q.code, q.bm, q.gP⟩
    obtain ⟨f, fd2, m, kp, b, ⟨oc, od, sl, lk⟩, FN⟩ := ok_law (P := RWl.prog) (w := w) T
    have e1 : f = He.fAd K ("law", none) := by
      obtain ⟨_, _, m2⟩ := T.fun_ _ hd
      have q := m.symm.trans m2
      injection q with q
      injection q
    subst e1
    obtain ⟨oc', od', dV, kV, doc, pm, an, cdv, ct, osl, efd, lk', _⟩ := F.ex
    rw [lk] at lk'
    have efd2 : fd2 = fd := by
      have q := Option.some.inj lk'
      injection q with _ _ q _
      injection q
    subst efd2
    exact FN
end Tg
open PySem PySem.W PySem.Calls PyProof.Rows
theorem PySem.Challenge.cw_groupdeeds_k25_whole_told_pairs_holds : PySem.Challenge.rw_groupdeeds_k25_whole_told_pairs.Holds := by
  w_on; o_law
  refine HandSHeadRun.head_any (r := OpenLaw.row PySem.Challenge.rw_groupdeeds_k25_whole_told_pairs) (q := view (OpenLaw.row PySem.Challenge.rw_groupdeeds_k25_whole_told_pairs).prog [46]) (H := Tg.hkL) (ob := Tg.obL) (M := 2500) (loose := Tg.loose) (d := HandSHeadRun.topDef (OpenLaw.row PySem.Challenge.rw_groupdeeds_k25_whole_told_pairs).prog 46) (kwd := []) Tg.obL_eq
    (by kernel_rfl) (fun s => by kernel_rfl) Tg.runL (by kernel_rfl) (by kernel_rfl) (by kernel_rfl) (by rfl) (by first | assumption | decide +kernel) (by decide +kernel) ⟨rfl, rfl, rfl, rfl, rfl, by decide +kernel⟩ ?hw ?hc
  case hw => w_witness2
  case hc =>
    refine LamX.walk_ofTsE (l := PySem.Challenge.rw_groupdeeds_k25_whole_told_pairs) (n := 63) (k := 12) (x := "_law_script") (CX := fun _ => L2.CX0) rfl (by decide) (by kernel_rfl) ⟨rfl, by decide, by decide⟩ ?F (fun _ _ _ _ _ z => z)
    intro w mg fa h Y G hmg0
    obtain ⟨K, KX, c⟩ := Y
    have hmg : mg ("law" : PySem.Str) = some (.ref fa) := by
      have e : (HandSHeadRun.topDef (OpenLaw.row PySem.Challenge.rw_groupdeeds_k25_whole_told_pairs).prog 46).name = ("law" : PySem.Str) := by kernel_rfl
      rw [← e]
      exact hmg0
    exact ⟨K, KX, Tg.law_at c KX G hmg⟩
